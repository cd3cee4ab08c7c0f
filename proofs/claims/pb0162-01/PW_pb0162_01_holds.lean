import PyProof.Rows.All
import Wide.All
import OpenK.AllK
import Wide.FinOn
import Lean
import PySem.Challenge.RW_pb0162_01
open PySem PySem.W PySem.Calls PyProof.Rows
set_option Elab.async false
set_option maxRecDepth 100000
set_option maxHeartbeats 8000000
set_option linter.unusedVariables false
section
local macro_rules | `(tactic| walk_at $s:str) => `(tactic| k_extra $s)

namespace PB
theorem fresh0 : (if True then True else True) := by
  w_top off
  try (walk1; trivial)
  try simp
/-- the codes that may hold a bytearray -/
noncomputable def badIds : List String := ["bytearray.__contains__", "bytearray.__mod__", "bytearray.__rmod__", "_struct.pack_into.held", "bytearray.find.held"] ++ Builtin.Bytes.decodersThatHold
noncomputable def cleanC : Code → Bool
  | .builtin id _ => !badIds.contains id
  | _ => true
noncomputable def CleanB (l : List (Code × Pos)) : Prop := ∀ x ∈ l, cleanC x.1 = true
/-- as wpAny, for the contexts in which no code holds a bytearray -/
noncomputable def wpX {α : Type} (M : Model) (A : Around) (t : Sem α) (Q : α → Shared → Prop) (E : Value → Shared → Prop) (s : Shared) : Prop :=
  ∀ Γ p, Γ.In A → cleanC Γ.code = true → CleanB Γ.below → Sem.wp M Γ t (fun a _ s' => Q a s') (fun e _ s' => E e s') p s
noncomputable def codeX (M : Model) (A : Around) (c : Code) (R : Result → Shared → Prop) (s : Shared) : Prop :=
  ∀ Γ p, Γ.code = c → Γ.Below A → CleanB Γ.below → wpCode M Γ R p s
section
variable {α β : Type} {M : Model} {A : Around} {E : Value → Shared → Prop} {s : Shared} {env : Env}
theorem wpX_of {t : Sem α} {Q : α → Shared → Prop} (h : wpAny M A t Q E s) : wpX M A t Q E s := fun Γ p hΓ _ _ => h Γ p hΓ
theorem wpX_pure {a : α} {Q : α → Shared → Prop} (h : Q a s) : wpX M A (pure a) Q E s := fun _ _ _ _ _ => h
theorem wpX_mono {t : Sem α} {Q Q' : α → Shared → Prop} {E' : Value → Shared → Prop} (h : wpX M A t Q E s) (hQ : ∀ a s, Q a s → Q' a s) (hE : ∀ e s, E e s → E' e s) : wpX M A t Q' E' s :=
  fun Γ p hΓ hc hb => Sem.wp_mono M Γ t (fun a _ s => hQ a s) (fun e _ s => hE e s) p s (h Γ p hΓ hc hb)
theorem wpX_bind {m : Sem α} {f : α → Sem β} {Q : β → Shared → Prop} (h : wpX M A m (fun a s' => wpX M A (f a) Q E s') E s) : wpX M A (m >>= f) Q E s := fun Γ p hΓ hc hb => by
  rw [Sem.wp_bind']
  exact Sem.wp_mono M Γ m (fun a p' s' h' => h' Γ p' hΓ hc hb) (fun _ _ _ h' => h') p s (h Γ p hΓ hc hb)
/-- the first part in wpAny, the rest in wpX -/
theorem wpX_then {m : Sem α} {f : α → Sem β} {Q : β → Shared → Prop} (h : wpAny M A m (fun a s' => wpX M A (f a) Q E s') E s) : wpX M A (m >>= f) Q E s := wpX_bind (wpX_of h)
theorem wpX_onRaise {m : Sem α} {k : Value → Sem Unit} {Q : α → Shared → Prop} (h : wpX M A m Q (fun e s' => wpX M A (k e) (fun _ s'' => E e s'') E s') s) : wpX M A (m.onRaise k) Q E s := fun Γ p hΓ hc hb => by
  rw [Sem.wp_onRaise]
  exact Sem.wp_mono M Γ m (fun _ _ _ h' => h') (fun e p' s' h' => h' Γ p' hΓ hc hb) p s (h Γ p hΓ hc hb)
theorem wpX_holding {vs : List Value} {m : Sem α} {Q : α → Shared → Prop} (h : wpX M A m Q E s) : wpX M A (holding vs m) Q E s :=
  fun Γ p hΓ hc hb => by rw [Sem.wp_holding]; exact h Γ p hΓ hc hb
theorem wpX_keep {vs : List Value} {m : Sem α} {Q : α → Shared → Prop} (h : wpX M A m Q E s) : wpX M A (m.keep vs) Q E s :=
  fun Γ p hΓ hc hb => by rw [Sem.wp_keep]; exact h Γ p hΓ hc hb
theorem wpX_standAt {pos : Pos} {Q : Unit → Shared → Prop} (h : Q () s) : wpX M A (standAt pos) Q E s := wpX_of (wpAny_standAt h)
theorem wpX_iff {c : Bool} {t e : Sem α} {Q : α → Shared → Prop} (hc : c = false) (h : wpX M A e Q E s) : wpX M A (if c = true then t else e) Q E s := by
  subst hc
  exact h
theorem codeX_of {c : Code} {R : Result → Shared → Prop} (h : codeAny M A c R s) : codeX M A c R s := fun Γ p hc hΓ _ => h Γ p hc hΓ
theorem codeX_mono {c : Code} {R R' : Result → Shared → Prop} (h : codeX M A c R s) (hR : ∀ r s, R r s → R' r s) : codeX M A c R' s :=
  fun Γ p hc hΓ hb => wpCode_mono hR (h Γ p hc hΓ hb)
theorem codeX_of_tree {c : Code} {R : Result → Shared → Prop} (hcl : cleanC c = true)
    (h : wpX M (A.under c) (M.den c) (fun fin s' => match fin with | .done f => R (.ok f) s' | .again c' => c'.quiet = true ∧ codeX M A c' R s')
      (fun e s' => R (.error e) s') s) : codeX M A c R s := fun Γ p hc hΓ hb => by
  rw [wpCode_iff_wp, hc]
  refine Sem.wp_mono M Γ _ (fun fin p' s' h' => ?_) (fun _ _ _ h' => h') p s (h Γ p (hc ▸ hΓ.in) (hc ▸ hcl) hb)
  cases fin with
  | done f => exact h'
  | again c' => exact ⟨h'.1, h'.2 (Γ.goto c') p' rfl (hΓ.goto c') hb⟩
theorem wpX_runValue {c : Code} {Q : Value → Shared → Prop} (hcl : ∀ Γ : Ctx, cleanC Γ.code = true → cleanC Γ.code = true)
    (hc : codeX M A c (fun r s' => match r with | .ok (.ret v) => Q v s' | .ok _ => False | .error e => E e s') s) : wpX M A (runValue c) Q E s := fun Γ p hΓ hcl hb => by
  rw [Sem.wp_runValue]
  refine hc _ p rfl (hΓ.enter c none p (by intro x; cases x)) ?_
  intro x hx
  rcases List.mem_cons.mp hx with rfl | hx
  · exact hcl
  · exact hb x hx
theorem wpX_call {f : Value} {pos : List Value} {kw : List (Str × Value)} {Q : Value → Shared → Prop}
    (hc : codeX M A (.call f ⟨pos, kw⟩) (fun r s' => match r with | .ok (.ret v) => Q v s' | .ok _ => False | .error e => E e s') s) : wpX M A (call f pos kw) Q E s := wpX_runValue (fun _ h => h) hc
theorem wpX_run {c : Code} {h : Option Value} {Q : Flow → Shared → Prop}
    (hc : codeX M (A.mark h) c (fun r s' => match r with | .ok f => Q f s' | .error e => E e s') s) (hnb : h ≠ some byPass := by intro x; cases x) :
    wpX M A (run c h) Q E s := fun Γ p hΓ hcl hb => by
  rw [Sem.wp_run]
  refine hc _ p rfl (hΓ.enter c h p hnb) ?_
  intro x hx
  rcases List.mem_cons.mp hx with rfl | hx
  · exact hcl
  · exact hb x hx
theorem wpX_execs_nil {Q : Flow → Shared → Prop} (h : Q .next s) : wpX M A (execs [] env) Q E s := wpX_of (wpAny_execs_nil h)
theorem wpX_execs_cons {st : Stmt} {rest : List Stmt} {Q : Flow → Shared → Prop}
    (h : wpX M A (exec st env) (fun f s' => match f with | .next => wpX M A (execs rest env) Q E s' | f => Q f s') E s) : wpX M A (execs (st :: rest) env) Q E s := by
  rw [execs_cons]
  refine wpX_bind (wpX_mono h (fun f s' h' => ?_) fun _ _ x => x)
  cases f <;> first | exact h' | exact wpX_pure h'
theorem wpX_Expr {e : Expr} {pos : Pos} {Q : Flow → Shared → Prop} (h : wpX M A (eval e env) (fun v s' => match v with | .ref _ => False | _ => Q .next s') E s)
    (hi : interactive env = false := by rfl) (hs : swapsWith e none pos.line env = pure false := by rfl) : wpX M A (exec (.Expr e pos) env) Q E s := by
  rw [exec_Expr env e pos hi hs]
  refine wpX_bind (wpX_standAt (wpX_bind (wpX_mono h (fun v s' h' => ?_) fun _ _ x => x)))
  have hv : ∀ a, v ≠ .ref a := fun a hva => by subst hva; exact h'
  rw [dropValue_plain hv]
  refine wpX_pure ?_
  cases v <;> first | exact h' | exact (hv _ rfl).elim
theorem wpX_Assign_Name {x : Str} {pos' pos : Pos} {value : Expr} {Q : Flow → Shared → Prop}
    (h : wpX M A (eval value env) (fun v s₁ => wpAny M A (storeName env x v) (fun _ => Q .next) E s₁) E s)
    (hs : swapsWith value (some (.Name x pos')) pos.line env = pure false := by rfl) : wpX M A (exec (.Assign [.Name x pos'] value pos) env) Q E s := by
  rw [exec_Assign_Name env x pos' value pos hs]
  refine wpX_bind (wpX_standAt (wpX_bind (wpX_mono h (fun v s₁ h₁ => wpX_bind (wpX_standAt (wpX_then (wpAny_bindName ?_)))) fun _ _ x => x)))
  exact wpAny_mono h₁ (fun _ _ q => wpX_pure q) fun _ _ x => x
theorem wpX_Call {func : Expr} {args : List Expr} {pos : Pos} {Q : Value → Shared → Prop}
    (h : wpAny M A (eval func env) (fun f s₁ => wpX M A (callWith pos f [] (backTo pos (starEach args env)) []) Q E s₁) E s)
    (he : eval (.Call func args [] pos) env = (do callWith pos (← eval func env) [] (backTo pos (starEach args env)) (backToKw pos (keywordEach [] env))) := by rfl) : wpX M A (eval (.Call func args [] pos) env) Q E s := by
  rw [he]; exact wpX_then h
theorem wpX_callWith {P : Heap → Prop} {pos : Pos} {f : Value} {first : List Value} {args : List (Bool × Sem Value)} {Q : Value → Shared → Prop} (hplain : (args.any (·.1) || false) = false)
    (hk : ∀ h, P h → ∃ k, (k = Keeper.frame ∨ k = Keeper.machine ∨ k = Keeper.boundFrame) ∧ Looks M h (keeperOf f) k)
    (h : wpAny M A (evalArgs f true args []) (fun a s₁ => P s₁.heap ∧ wpX M A (call f (first ++ a.pos) a.kw) Q E s₁) E s) : wpX M A (callWith pos f first args []) Q E s := by
  unfold callWith
  refine wpX_bind (wpX_holding (wpX_mono (wpX_of h) (fun a s₁ h₁ => wpX_bind (wpX_standAt ?_)) fun _ _ x => x))
  obtain ⟨k, hk', L⟩ := hk _ h₁.1
  simp only [show (args.any (·.1) || ([] : List (Option Str × Sem Value)).any (·.1.isNone)) = false from hplain]
  refine wpX_then (L.here ?_)
  have tail : ∀ {t : Sem Value}, wpX M A t Q E s₁ → wpX M A (t >>= fun r => holding [r] point >>= fun _ => pure r) Q E s₁ :=
    fun ht => wpX_bind (wpX_mono ht (fun r s₂ hr => wpX_then (wpAny_holding (wpAny_point (wpX_pure hr)))) fun _ _ x => x)
  have marked (mk : Value) : wpX M A (callMarked mk f (first ++ a.pos) a.kw) Q E s₁ := by unfold callMarked; exact wpX_keep h₁.2
  rcases hk' with rfl | rfl | rfl <;> dsimp only <;> first | exact tail h₁.2 | (split <;> first | exact tail h₁.2 | exact tail (marked _))
end
section
variable {prog : Program} {w : World} {A : Around} {s : Shared} {R : Result → Shared → Prop}
theorem codeX_func {body : List Stmt} {env : Env}
    (h : wpX (model prog w) (A.deeper env) (execs body env) (fun f s' => R (.ok (.ret (match f with | .ret v => v | _ => .none))) s')
      (fun e s' => wpX (model prog w) (A.deeper env) (leaving env e) (fun _ s'' => R (.error e) s'') (fun e' s'' => R (.error e') s'') s') s) :
    codeX (model prog w) A (.func body env) R s := by
  refine codeX_of_tree rfl ?_
  show wpX _ (A.deeper env) (do point; match ← (execs body env).onRaise (leaving env) with | .ret v => ret v | _ => ret .none) _ _ s
  refine wpX_then (wpAny_point (wpX_bind (wpX_onRaise (wpX_mono h (fun f s' h' => ?_) fun _ _ h' => h'))))
  cases f <;> exact wpX_pure h'
theorem codeX_call_function {a : Addr} {args : Args} {o : Obj} {fd : FuncData} {body : List Stmt} (hroom : A.depth < recursionLimit) (ho : s.heap.get? a = some o)
    (hd' : o.data = .func fd) (hco : fd.scope.isCoroutine = false) (hgen : fd.scope.isGenerator = false) (hbody : fd.body = .stmts body) (hcd : s.heap.CodeRec fd.code fd.qualname)
    (h : wpAny (model prog w) A.in1 (bindArgs fd args) (fun binds s₁ =>
      wpAny (model prog w) A.in1 (newFunctionEnv fd.scope fd.globals fd.closure binds (fd.qualname ++ ".<locals>.") (some a) fd.code none fd.builtins)
        (fun env s₂ => s₂.heap.NoLimit ∧ codeX (model prog w) A (.func body env) R s₂) (fun e s' => R (.error e) s') s₁) (fun e s' => R (.error e) s') s) :
    codeX (model prog w) A (.call (.ref a) args) R s := by
  refine codeX_of_tree rfl ?_
  show wpX _ A.in1 (callAny (.ref a) args) _ _ s
  simp only [callAny]
  refine wpX_then (wpAny_load ho ?_)
  obtain ⟨c, oc, vs, tq, hc, hoc, hdc, hq⟩ := hcd
  simp only [hd', callFunction, hco, hgen, hbody, hc]
  rw [hc] at h
  refine wpX_then (m := field (.ref c) 1) (wpAny_field hoc hdc hq (wpX_then (wpAny_pure ?_)))
  exact wpX_then (wpAny_mono h (fun binds s₁ h₁ => wpX_then (wpAny_mono h₁ (fun env s₂ h₂ => wpX_then (wpAny_enterFrame h₂.1 hroom
    (wpX_pure (And.intro rfl h₂.2)))) fun _ _ h' => h')) fun _ _ h' => h')
end

end PB
namespace PB
theorem fresh1 : (if True then True else True) := by
  w_top off
  try (walk1; trivial)
  try simp
section
variable {prog : Program} {w : World} {A A₀ : Around} {s : Shared} {K : Frag} {L : Addr} {h₀ base : Heap} {m mg mb : Str → Option Value} {news : List (Addr × Obj)} {p : Program} {loose : List Str} {mean : ExcName → Option Value}
  {env : Env} {outer : List Env} {R : Result → Shared → Prop} {name qual : Str} {params : Arguments} {body : List Stmt} {scope : Scope} {dV kV doc pm cdv ct oc : Value} {an od : Option Addr} {osl : Array (Option Value)} {f : Addr} {args : Args} {binds : List (Str × Value)}
/-- entering a def without cells, in a clean context -/
theorem codeX_def (B : Below A₀ base outer h₀) (F : Fr h₀ L s.heap m) (X₀ : K.In h₀) (N : News h₀ L s.heap news) (T : Top p loose mean mg mb h₀) (hA : A.frames = some (env :: outer)) (hf : env.frame = some L) (hke : env.scope.kind = .function)
    (ho : K.lookup f = some ⟨oc, od, .func (fnOf name qual params body scope dV kV doc pm an cdv ct), osl⟩) (hcd : codeIn K cdv qual = true) (hroom : A.depth < recursionLimit)
    (hbind : BindsTo s (fnOf name qual params body scope dV kV doc pm an cdv ct) args binds) (hloc : ∀ y ∈ binds, scope.names.lookup y.1 = some .local)
    (h : ∀ g L' h₁, Fr h₀ L g m → Fr g L' h₁ (fun y => binds.reverse.lookup y) → News g L' h₁ news → Below A base (env :: outer) g → K.In g → Top p loose mean mg mb g →
      wpX (model prog w) (A.deeper (envOf qual scope L' f cdv)) (execs body (envOf qual scope L' f cdv))
        (fun fl s' => LeaveK h₀ L m g R (match fl with | .ret v => v | _ => .none) s')
        (fun e s' => wpX (model prog w) (A.deeper (envOf qual scope L' f cdv)) (leaving (envOf qual scope L' f cdv) e) (fun _ s'' => R (.error e) s'') (fun e' s'' => R (.error e') s'') s')
        { s with heap := h₁, toks := s.toks + binds.length })
    (hco : scope.isCoroutine = false) (hgen : scope.isGenerator = false) (hk : scope.kind = .function)
    (hcell : ∀ x ∈ scope.names, x.2 ≠ .cell) : codeX (model prog w) A (.call (.ref f) args) R s := by
  obtain ⟨FG, BG, st, lv⟩ := groundX (R := R) B F N hA hf hke
  have X := X₀.keeps F.keep
  refine codeX_call_function hroom (X _ _ ho) rfl hco hgen rfl (codeRec_of X hcd) (hbind _ _ _ _ ?_)
  refine wpAny_newFunctionEnv hcell hloc (fun h₁ hns hsb => ⟨(T.nolimit.keeps F.keep).fresh _ hsb, codeX_func ?_⟩) hk
  have hk₁ : ∀ b o, s.heap.get? b = some o → h₁.get? b = some o := fun b o e => hsb.extBut b o (Nat.ne_of_lt (Heap.lt_size e)) (Heap.get?_push_of_some _ e)
  exact wpX_mono (h _ s.heap.objs.size h₁ FG ⟨hns, fun b o e => hk₁ b o (of_hideAll _ e), Nat.le_of_eq (hideAll_size _ _)⟩
    (fun p hp => ⟨hk₁ _ _ (N p hp).1, Nat.ne_of_lt (Heap.lt_size (N p hp).1), hideAll_none _ (List.mem_map_of_mem hp)⟩) BG (X₀.keeps st) (T.keeps st)) (fun fl s' hl => lv _ _ hl) fun _ _ y => y
/-- entering a def with cells, in a clean context -/
theorem codeX_defC (B : Below A₀ base outer h₀) (F : Fr h₀ L s.heap m) (X₀ : K.In h₀) (N : News h₀ L s.heap news) (T : Top p loose mean mg mb h₀) (hA : A.frames = some (env :: outer)) (hf : env.frame = some L) (hke : env.scope.kind = .function)
    (ho : K.lookup f = some ⟨oc, od, .func (fnOf name qual params body scope dV kV doc pm an cdv ct), osl⟩) (hcd : codeIn K cdv qual = true) (hroom : A.depth < recursionLimit)
    (hbind : BindsTo s (fnOf name qual params body scope dV kV doc pm an cdv ct) args binds) (hkind : (binds.all fun y => scope.names.lookup y.1 == some .local || scope.names.lookup y.1 == some .cell) = true)
    (hnd : ((cellsFrom 0 scope.names []).map (·.1)).Nodup)
    (h : ∀ g L' h₁ tk cells, Fr h₀ L g m → Fr g L' h₁ (bindL (envOfC qual scope L' f cdv).kindOf binds fun _ => none) → News g L' h₁ (cells ++ news) →
      CellsAre (bindC (envOfC qual scope L' f cdv).kindOf binds fun _ => none) (cellsFrom (L' + 1) scope.names []) cells → Below A base (env :: outer) g → K.In g → Top p loose mean mg mb g → (∀ p ∈ news, p.1 < L') →
      wpX (model prog w) (A.deeper (envOfC qual scope L' f cdv)) (execs body (envOfC qual scope L' f cdv))
        (fun fl s' => LeaveK h₀ L m g R (match fl with | .ret v => v | _ => .none) s')
        (fun e s' => wpX (model prog w) (A.deeper (envOfC qual scope L' f cdv)) (leaving (envOfC qual scope L' f cdv) e) (fun _ s'' => R (.error e) s'') (fun e' s'' => R (.error e') s'') s')
        { s with heap := h₁, toks := tk })
    (hco : scope.isCoroutine = false) (hgen : scope.isGenerator = false) (hk : scope.kind = .function) : codeX (model prog w) A (.call (.ref f) args) R s := by
  obtain ⟨FG, BG, st, lv⟩ := groundX (R := R) B F N hA hf hke
  have X := X₀.keeps F.keep
  refine codeX_call_function hroom (X _ _ ho) rfl hco hgen rfl (codeRec_of X hcd) (hbind _ _ _ _ ?_)
  refine wpAny_newFunctionEnv_cells hk (kindsX hkind _) fun env' he s' x => ?_
  subst he
  refine ⟨(T.nolimit.keeps F.keep).keeps x.toInCall.keep, codeX_func ?_⟩
  obtain ⟨h₁, tk, rfl, _⟩ := x.done
  have hk₁ := x.toInCall.keep
  obtain ⟨cells, NC, Y⟩ := Cl.news (h₀ := s.heap) (Nat.le_refl _) fun n c hm => ⟨x.cell n c (lookup_of_mem_nodup (cellsFrom_names scope.names 0 (s.heap.objs.size + 1) [] [] rfl ▸ hnd) hm), x.above n c hm⟩
  refine wpX_mono (h _ s.heap.objs.size h₁ tk cells FG ⟨x.toInCall.ns, fun b o e => hk₁ b o (of_hideAll _ e), Nat.le_of_eq (hideAll_size _ _)⟩ (fun p hp => ?_) Y BG (X₀.keeps st) (T.keeps st) (fun p hp => Heap.lt_size (N p hp).1)) (fun fl s' hl => lv _ _ hl) fun _ _ y => y
  rcases List.mem_append.mp hp with hp | hp
  · refine ⟨(NC p hp).1, (NC p hp).2.1, ?_⟩
    cases q : (hideAll s.heap (news.map (·.1))).get? p.1 with
    | none => rfl
    | some o => have := of_hideAll _ q; rw [(NC p hp).2.2] at this; cases this
  · exact ⟨hk₁ _ _ (N p hp).1, Nat.ne_of_lt (Heap.lt_size (N p hp).1), hideAll_none _ (List.mem_map_of_mem hp)⟩
end

end PB
namespace PB
theorem fresh2 : (if True then True else True) := by
  w_top off
  try (walk1; trivial)
  try simp
section
variable {prog : Program} {w : World}
/-- the one context in which a claim's call is run is clean -/
theorem ends_X {t : Sem Fin} {s : Shared} {R : Result → Shared → Prop} (hreg : s.asleep)
    (h : wpX (model prog w) callerA t (fun fin s' => ∃ f, fin = .done f ∧ (R (.ok f) s' ∧ leftWithCleanup s'.gens = false)) (fun e s' => R (.error e) s' ∧ leftWithCleanup s'.gens = false) s) :
    ∃ n r s' s'', runN (denote table) prog w n s ⟨t, .builtin "claim.caller" {}, default, []⟩ = .halted (outcomeOf r) s' ∧
      schedN (denote table) prog w n (.single s ⟨t, .builtin "claim.caller" {}, default, []⟩) = .halted (outcomeOf r) s' ∧ s'.forget = s''.forget ∧ R r s'' := by
  have h0 := h ⟨.builtin "claim.caller" {}, none, none, [], none⟩ default caller_in (by decide) (fun x hx => nomatch hx)
  obtain ⟨n, r, s₁, s₂, hs, hn, hfo, hR⟩ := wp_halts_full (M := model prog w) (R := R) hreg (Sem.wp_mono _ _ t (fun fin p' s' h' => by
    obtain ⟨f, rfl, hf⟩ := h'
    exact hf) (fun _ _ _ h' => h') default s h0)
  exact ⟨n, r, s₂, s₁, hn, hs, hfo, hR⟩
end
open PySem.Spec in
/-- the walk that the head asks for, in clean contexts alone -/
noncomputable abbrev WalkX (q : Program) (loose : List Str) (XP : (Str → Option Value) → Heap → Prop) (YP : World → Heap → Prop) (r : RowW) (d : DefRec) (kwd : List (Str × Expr)) (run : Value → List Value → Sem Value) : Prop :=
  ∀ (w : World) (s₀ s₁ : Shared) (mg mb : Str → Option Value), Ground q loose r.records XP w s₀ mg mb s₁.heap → YP w s₁.heap → ∀ (a : Addr) (o : Obj) (pm cd doc dV kV : Value), s₁.heap.get? a = some o →
    o.data = .func { docDef d.name d.params d.body d.scope pm cd doc with defaults := dV, kwdefaults := kV } → s₁.heap.CodeRec cd d.name → Dflts mg s₁.heap d.params kwd dV kV → mg d.name = some (.ref a) → s₁.gens = #[] →
    ∀ (args : List WData) (vals : List Value) (as : List Addr), r.claim.pre args = true → WData.layableAll args = true → ReadsAllW r.records (classAt s₀.heap) s₁.heap vals args as → WellAll w.params s₁.heap vals args → (∀ a ∈ as, (a == sysModules) = false) →
      wpX (model r.prog w) callerA (run (.ref a) vals) (fun v s' => GoodWG r.claim (classAt s₀.heap) (ExcName.means s₀.heap) args s₁ (.ok (.ret v)) s')
        (fun e s' => GoodWG r.claim (classAt s₀.heap) (ExcName.means s₀.heap) args s₁ (.error e) s') s₁
open PySem.Spec in
theorem holds_X {r : OpenRow} {q : Program} {loose : List Str} {Xt : Shared → Bool} {XP : (Str → Option Value) → Heap → Prop} {α : Type} {Yf : Shared → α} {Ya : World → α} {YP : World → Heap → Prop} {d : DefRec} {kwd : List (Str × Expr)} {N : Nat}
    (left : LeftO r.prog q loose Xt Yf Ya N) (hY : ∀ w s, Yf s = Ya w → YP w s.heap) (hYk : ∀ w h h', YP w h → (∀ b o, h.get? b = some o → h'.get? b = some o) → YP w h')
    (hX : ∀ s, Xt s = true → XP (s.heap.nsMap mainGlobals) s.heap) (hXk : ∀ mg h h', XP mg h → (∀ b o, h.get? b = some o → h'.get? b = some o) → XP mg h')
    (hdef : defOf q r.name = some (d, kwd)) (hp : r.prog.theDef r.name = some (d.params, d.body, d.scope)) (hk : kwWritten? d.params.kwonlyargs d.params.kw_defaults = some kwd) (hRf : ∀ s, Xt s = true → RecFacts r.records s.heap) (hwr : (!r.writes || r.records.isEmpty) = true)
    (k1 : r.wellSaid = true) (ok : (chainsOk q && opensWell r.prog && (frees r.toRowW && r.within.isEmpty)) = true) (hb : r.prog.bare) (hw : r.toRowW.promised)
    (call : WalkX q loose XP YP r.toRowW d kwd fun f vs => PySem.call f vs) : r.Holds := by
  obtain ⟨ok, k5⟩ := Bool.and_eq_true_iff.mp ok
  obtain ⟨hch, o1⟩ := Bool.and_eq_true_iff.mp ok
  obtain ⟨k5, k6⟩ := Bool.and_eq_true_iff.mp k5
  obtain ⟨hsame, hu, ha, hap, hm⟩ := frees_parts k5
  have hi := ident_freeW hu ha hap
  have hwi : r.toRowW.claim.within = [] := List.isEmpty_iff.mp k6
  refine ⟨k1, hw, ⟨hb, o1, by show r.makers.map _ = []; rw [hm]; rfl⟩, hw.witness, fun w => ⟨(left.behind hX hch w).1, fun s' hs' => ?_⟩⟩
  obtain ⟨s₀, hf, hg0, s, hT, hz, hgens, hg, G00, y⟩ := (left.behind (XP := fun mg h => XP mg h ∧ RecFacts r.records h) (fun s hs => ⟨hX s hs, hRf s hs⟩) hch w).2 s' hs'
  have G0 : Ground q loose [] XP w s (s.heap.nsMap mainGlobals) (s.heap.nsMap builtinsNs) s.heap := ⟨G00.T, G00.B, G00.D, G00.TE, G00.TD, G00.W, G00.X.1, G00.cls, G00.has, G00.apart, G00.once, G00.K⟩
  have RF := G00.X.2
  have hT' := hT
  refine ⟨s₀, hf, hg0, s, hT, fun n hn => ?_, RF.1, RF.2.1, ?_⟩
  · obtain rfl : n = r.name := by split at hn <;> simp_all
    exact pinned_of_view hg G0 hdef hp hk
  have hgens : s.gens = #[] := Array.eq_empty_of_size_eq_zero (beq_iff_eq.mp hgens)
  have G : Ground q loose r.records XP w s _ _ s.heap := RF.ground G0
  intro args hpre hlay ord hord
  obtain ⟨⟨vs, s₁⟩, hlaid⟩ := Option.isSome_iff_exists.mp (layAllW_isSome (P := w.params) (ord := ord) G.has args r.args s (pre_splitW hpre).1)
  have keeps := layAllW_keeps _ _ _ hlaid
  have hal := layAllW_rest _ _ _ hlaid
  obtain ⟨as, hrd, hin, hold⟩ := reads_layAllW hord _ _ _ hlaid hlay s₁.heap (fun _ _ e => e)
  have L : Laid r.records w s s₁ args vs as := ⟨⟨ord, hord, hlaid⟩, hrd, hin, hold, keeps, hal.1.trans hgens, hal.2.2.1⟩
  have G₁ := G.keeps hXk keeps
  obtain ⟨a, o, pm, cd, doc, dV, kV, h1, h2, h3, h4, h5⟩ := G₁.fn hdef
  have main := call w s s₁ _ _ G₁ (hYk _ _ _ (hY w s y) keeps) a o pm cd doc dV kV h2 h3 h4 h5 (defOf_name hdef ▸ h1) L.gens args vs as hpre hlay L.reads L.well (L.low G.low)
  have tr : wpX (model r.prog w) callerA (do match ← nsGet mainNs r.name with
      | some f => do ret (← PySem.call f vs)
      | none => unsupported "claim.caller:no-such-global" : Sem Fin)
      (fun fin s' => ∃ f, fin = .done f ∧ ((r.toRowW.claim.Ends s args vs s₁ (.ok f) s' ∧ s'.os = s.os ∧ (r.writes = true → namesKept r.toRowW.claim.prog r.keeps s.heap s'.heap ∧
        ∀ x ∈ r.toRowW.claim.records, ∀ a, classAt s.heap x.1 = some a → recordClass s'.heap a x.1 (x.2.map (·.1)) = true)) ∧ leftWithCleanup s'.gens = false))
      (fun e s' => (r.toRowW.claim.Ends s args vs s₁ (.error e) s' ∧ s'.os = s.os ∧ (r.writes = true → namesKept r.toRowW.claim.prog r.keeps s.heap s'.heap ∧
        ∀ x ∈ r.toRowW.claim.records, ∀ a, classAt s.heap x.1 = some a → recordClass s'.heap a x.1 (x.2.map (·.1)) = true)) ∧ leftWithCleanup s'.gens = false) s₁ := by
    refine wpX_then (wpAny_nsGet G₁.T.g ?_)
    rw [show s.heap.nsMap mainGlobals r.name = some (Value.ref a) from h1]
    refine wpX_bind (wpX_mono main (fun v s' g => wpX_pure ?_) fun e s' g => ?_)
    · have z := g.laid (c := r.toRowW.claim) hsame hwi hi L
      exact ⟨_, rfl, ⟨z.1, z.2.1, fun q => ⟨namesKept_of hT' hg r.keeps keeps g.2.1.old, noTable hwr q⟩⟩, leftWithCleanup_false_of_bare z.2.2⟩
    · have z := g.laid (c := r.toRowW.claim) hsame hwi hi L
      exact ⟨⟨z.1, z.2.1, fun q => ⟨namesKept_of hT' hg r.keeps keeps g.2.1.old, noTable hwr q⟩⟩, leftWithCleanup_false_of_bare z.2.2⟩
  obtain ⟨k, rr, s₂, s₃, hrun, hsched, hfo, hcase, hos, hkp⟩ := ends_X (prog := r.prog) (w := w) (s := s₁) (R := fun rr s' => r.toRowW.claim.Ends s args vs s₁ rr s' ∧ s'.os = s.os ∧ (r.writes = true → namesKept r.toRowW.claim.prog r.keeps s.heap s'.heap ∧
        ∀ x ∈ r.toRowW.claim.records, ∀ a, classAt s.heap x.1 = some a → recordClass s'.heap a x.1 (x.2.map (·.1)) = true)) (Shared.asleep_of_life hal.2.2.2 hz) tr
  obtain ⟨eh, _, _, eo, _⟩ := Shared.forget_eq hfo
  have hcase := hcase.congr eh
  rw [← eh] at hkp
  rw [← eo] at hos
  have hlife : s₂.heap.life = s.heap.life := (runN_life _ _ _ hrun).trans hal.2.2.2
  refine ⟨vs, s₁, hlaid, k, _, s₂, hsched, ?_, (fun _ i x hx => by rw [hgens] at hx; simp at hx), hkp, by rw [hlife], Shared.rest_eq hos⟩
  rcases hcase with ⟨v, rfl, d1, d2, d3, d4, d5⟩ | ⟨e, ob, cls, rfl, d1, d2, d3, d4, d5⟩
  · exact .inl ⟨v, rfl, d1, d2, d3, fun b o y _ => d4 b o y, d5⟩
  · exact .inr ⟨e, ob, cls, rfl, d1, d2, d3, d4, fun b o y _ => d5 b o y⟩

end PB
namespace PB
theorem fresh3 : (if True then True else True) := by
  w_top off
  try (walk1; trivial)
  try simp
theorem clean_dec {id : String} {as : Args} (h : cleanC (.builtin id as) = true) : Builtin.Bytes.decodersThatHold.contains id = false := by
  simp only [cleanC, badIds, Bool.not_eq_true', List.contains_eq_any_beq, List.any_append, Bool.or_eq_false_iff] at h
  rw [List.contains_eq_any_beq]
  exact h.2
section
variable {M : Model} {A : Around} {E : Value → Shared → Prop} {s : Shared} {a : Addr}
theorem exported_X {Q : Bool → Shared → Prop} (h : Q false s) : wpX M A (Builtin.Bytes.exported (.ref a)) Q E s := fun Γ p hΓ hc hb => by
  unfold Builtin.Bytes.exported
  have hall : ∀ x ∈ ((Γ.code, p) :: Γ.below), cleanC x.1 = true := fun x hx => by
    rcases List.mem_cons.mp hx with rfl | hx
    · exact hc
    · exact hb x hx
  show Q (List.any ((Γ.code, p) :: Γ.below) _) s
  rw [show List.any ((Γ.code, p) :: Γ.below) _ = false from ?_]
  · exact h
  · rw [List.any_eq_false]
    intro x hx
    have hx' := hall x hx
    obtain ⟨c, q⟩ := x
    split
    all_goals first
      | (exfalso; revert hx'; simp only [cleanC]; decide)
      | (rename_i e; simp only [Prod.mk.injEq] at e; obtain ⟨rfl, rfl⟩ := e; first | (exfalso; revert hx'; simp only [cleanC]; decide) | (rw [clean_dec hx', Bool.and_false]; exact Bool.false_ne_true))
      | exact Bool.false_ne_true
end
theorem ba_slot_extend : Slot "bytearray" "extend" "bytearray.extend" :=
  .of (owner := "bytearray") (n := "extend") (by rw [typeLookup_type, builtinLookup_eq_fast]; kernel_rfl) (by decide +kernel) (by decide +kernel) (by decide +kernel)
    (by first | exact .inl (by decide +kernel) | exact .inr (by decide +kernel)) (by rw [isSubtype_type]; kernel_rfl)
theorem ba_entry_extend : entryFor table "bytearray.extend" = some Builtin.«bytearray.extend» := by first | exact entryFor_of_fast (by kernel_rfl) | exact entryFor_of_tree (by kernel_rfl)
theorem ba_args_extend (a b : Value) : argsOk "bytearray.extend" ⟨[a, b], []⟩ := by unfold argsOk; kernel_rfl
theorem ba_type_extend : typeOf (.builtin "bytearray.extend") = pure (.type "method_descriptor") := by show builtinType _ = _; rw [builtinType_eq_fast]; kernel_rfl
theorem ba_plainAttrs : PlainAttrs "bytearray" :=
  ⟨⟨"bytearray.__getattribute__", by rw [typeLookup_type, builtinLookup_eq_fast]; kernel_rfl, by decide +kernel⟩, by rw [typeLookup_type, builtinLookup_eq_fast]; kernel_rfl⟩
noncomputable abbrev baObj (x : Array UInt8) : Obj := { cls := .type "bytearray", data := .bytearray x }
theorem take_eq {id : String} {b : Array UInt8} {t : Tok} : Builtin.Bytes.takeBufferQuiet? id (.bytes b t) 0 = pure (some (b, none)) := by
  unfold Builtin.Bytes.takeBufferQuiet? Builtin.Bytes.takeBuffer?
  rw [KBy.special_eq KBy.look_buffer, KBy.own_buffer]
  simp only [show ((0 : Int) == Builtin.Bytes.fullReadOnly) = false from by decide, KBy.buffer_eq]
  kernel_rfl
section
variable {prog : Program} {w : World} {A : Around} {E : Value → Shared → Prop} {s : Shared} {a : Addr}
theorem codeX_builtin {id : String} {args : Args} {b : Builtin} {R : Result → Shared → Prop} (hcl : badIds.contains id = false) (hb : entryFor table id = some b)
    (h : wpX (model prog w) (A.under (.builtin id args)) (b args)
      (fun fin s' => match fin with | .done f => R (.ok f) s' | .again c' => c'.quiet = true ∧ codeX (model prog w) A c' R s') (fun e s' => R (.error e) s') s) : codeX (model prog w) A (.builtin id args) R s := by
  refine codeX_of_tree (by simp only [cleanC, hcl]; rfl) ?_
  show wpX _ _ (match entryFor table id with | some b => b args | none => unsupported ((withoutEnding? id "#data").getD id)) _ _ s
  rw [hb]; exact h
theorem codeX_call_builtin {id : String} {args : Args} {b : Builtin} {R : Result → Shared → Prop} (hq : plainId id = true) (hcl : badIds.contains id = false) (hb : entryFor table id = some b)
    (h : wpAny (model prog w) A.in1 (checkBuiltinCall id args) (fun _ s₁ => wpX (model prog w) A.in1 (b args)
      (fun fin s' => match fin with | .done f => R (.ok f) s' | .again c' => c'.quiet = true ∧ codeX (model prog w) A c' R s') (fun e s' => R (.error e) s') s₁)
      (fun e s' => R (.error e) s') s) : codeX (model prog w) A (.call (.builtin id) args) R s := by
  refine codeX_of_tree rfl ?_
  show wpX _ A.in1 (do checkBuiltinCall id args; again (.builtin id args)) _ _ s
  refine wpX_then (wpAny_mono h (fun _ s₁ h₁ => wpX_pure (And.intro (plainId_quiet hq args) (codeX_of_tree (by simp only [cleanC, hcl]; rfl) ?_))) fun _ _ h' => h')
  rw [Around.under_plainId hq args]
  show wpX _ _ (match entryFor table id with | some b => b args | none => unsupported ((withoutEnding? id "#data").getD id)) _ _ s₁
  rw [hb]; exact h₁
theorem extend_tree {x b : Array UInt8} {t : Tok} {M : Model} {Q : Value → Shared → Prop} (ho : s.heap.get? a = some (baObj x)) (hz : x.size + b.size ≤ sizeLine)
    (h : Q .none { s with heap := s.heap.update a (Obj.mapBytearray (· ++ b)) }) :
    wpX M A (Builtin.«bytearray.extend» ⟨[.ref a, .bytes b t], []⟩) (fun fin s' => ∃ v, fin = .done (.ret v) ∧ Q v s') E s := by
  unfold Builtin.«bytearray.extend»
  refine wpX_then (wpAny_of_eq (a := (Value.ref a, Value.bytes b t)) rfl ?_)
  refine wpX_then (wpAny_of_eq (KBy.special_eq KBy.look_buffer) ?_)
  simp only [Option.isSome_some, if_true]
  refine wpX_then (wpAny_rule ?_)
  refine wpX_then ?_
  unfold Builtin.Bytes.payload Builtin.Bytes.payload?
  refine wpAny_bind (wpAny_bind (wpAny_load ho ?_))
  refine wpAny_pure (wpAny_pure ?_)
  refine wpX_then (wpAny_of_eq take_eq ?_)
  simp only [Option.isNone_none, if_true]
  have write : wpX M A (Builtin.Bytes.write (.ref a) (· ++ b) >>= fun _ => ret .none) (fun fin s' => ∃ v, fin = .done (.ret v) ∧ Q v s') E s := by
    refine wpX_then ?_
    show wpAny M A (updateBytearray a (· ++ b)) _ E s
    unfold updateBytearray
    refine wpAny_bind (wpAny_load ho ?_)
    show wpAny M A (update a (Obj.mapBytearray (· ++ b)) >>= fun _ => lookBehind a) _ E s
    refine wpAny_bind (wpAny_update ho ?_)
    have hS : (s.heap.update a (Obj.mapBytearray (· ++ b))).get? a = some (baObj (x ++ b)) := Heap.get?_update_self (Obj.mapBytearray (· ++ b)) ho rfl
    refine wpAny_lookBehind hS ?_ (wpX_pure ⟨_, rfl, h⟩)
    show (if (x ++ b).size > sizeLine then some "bytearray:memory" else none) = none
    rw [if_neg]
    rw [Array.size_append]
    omega
  show wpX M A (if (!b.isEmpty) = true then (Builtin.Bytes.checkResize (.ref a) >>= fun _ => (Builtin.Bytes.write (.ref a) (· ++ b) >>= fun _ => ret .none)) else (Builtin.Bytes.write (.ref a) (· ++ b) >>= fun _ => ret .none)) _ E s
  by_cases hb : (!b.isEmpty) = true
  · rw [if_pos hb]
    refine wpX_bind ?_
    unfold Builtin.Bytes.checkResize
    refine wpX_bind ?_
    unfold orM
    refine wpX_bind (exported_X ?_)
    show wpX M A (Builtin.Bytes.exportsOf (.ref a) >>= fun n => pure (decide (n > 0))) _ E s
    refine wpX_then ?_
    unfold Builtin.Bytes.exportsOf
    refine wpAny_bind (wpAny_load ho (wpAny_pure (wpX_pure ?_)))
    rw [if_neg (by decide)]
    exact wpX_pure write
  · rw [if_neg hb]
    exact write
theorem extend_X {x b : Array UInt8} {t : Tok} {Q : Value → Shared → Prop} (ho : s.heap.get? a = some (baObj x)) (hz : x.size + b.size ≤ sizeLine)
    (h : Q .none { s with heap := s.heap.update a (Obj.mapBytearray (· ++ b)) }) :
    wpX (model prog w) A (call (.builtin "bytearray.extend") [.ref a, .bytes b t]) Q E s := by
  refine wpX_call (codeX_call_builtin ba_slot_extend.plain (by decide) ba_entry_extend (ba_slot_extend.check _ _ _ _ _ _ _ _ ⟨_, ho, rfl⟩ (ba_args_extend _ _) ?_))
  refine wpX_mono (extend_tree ho hz h) (fun fin s' h' => ?_) fun _ _ x => x
  obtain ⟨v, rfl, hv⟩ := h'
  exact hv
end

end PB
namespace PB
theorem fresh4 : (if True then True else True) := by
  w_top off
  try (walk1; trivial)
  try simp
theorem bb_mro : mroOf (.type "bytearray") = pure [.type "bytearray", .type "object"] := by rw [mroOf_type]; kernel_rfl
theorem bb_lookup_new : typeLookup (.type "bytearray") "__new__" = pure (some (.builtin "bytearray.__new__")) := by rw [typeLookup_type, builtinLookup_eq_fast]; kernel_rfl
theorem bb_slot_init : Slot "bytearray" "__init__" "bytearray.__init__" :=
  .of (owner := "bytearray") (n := "__init__") (by rw [typeLookup_type, builtinLookup_eq_fast]; kernel_rfl) (by decide +kernel) (by decide +kernel) (by decide +kernel)
    (by first | exact .inl (by decide +kernel) | exact .inr (by decide +kernel)) (by rw [isSubtype_type]; kernel_rfl)
theorem bb_called : TypeCalled "bytearray" "bytearray.__new__" "bytearray.__init__" :=
  ⟨by decide +kernel, by decide +kernel, ⟨_, _, bb_mro⟩, madeBy_type bb_mro bb_lookup_new (by decide +kernel), by decide +kernel, by rw [isSubtype_type]; kernel_rfl, bb_slot_init⟩
theorem bb_typeCall : checkTypeCall "bytearray" ⟨[], []⟩ = pure () := by kernel_rfl
theorem bb_newCall : checkBuiltinCall "bytearray.__new__" ⟨[.type "bytearray"], []⟩ = pure () := by kernel_rfl
theorem bb_sub : isSubtype (.type "bytearray") (.type "bytearray") = pure true := by rw [isSubtype_type]; kernel_rfl
theorem bb_entry_init : entryFor table "bytearray.__init__" = some Builtin.«bytearray.__init__» := by first | exact entryFor_of_fast (by kernel_rfl) | exact entryFor_of_tree (by kernel_rfl)
theorem bb_entry_new : entryFor table "bytearray.__new__" = some Builtin.«list.__new__» := by first | exact entryFor_alias (id' := "list.__new__") (by kernel_rfl) rfl (by decide +kernel) (by kernel_rfl) | exact entryFor_of_fast (by kernel_rfl) | exact entryFor_of_tree (by kernel_rfl)
theorem bb_args_init (a : Value) : argsOk "bytearray.__init__" ⟨[a], []⟩ := by unfold argsOk; kernel_rfl
theorem bb_bind : Builtin.Bytes.bindOptional "bytearray.__init__" "bytearray" ["source", "encoding", "errors"] [] [] = pure [none, none, none] := by kernel_rfl
theorem bb_no_release : typeLookup (.type "bytearray") "__release_buffer__" = pure (some (.builtin "bytearray.__release_buffer__")) := by rw [typeLookup_type, builtinLookup_eq_fast]; kernel_rfl
set_option maxRecDepth 1000000 in
theorem bb_owner : ("bytearray.__new__".splitOn ".__new__").headD "" = "bytearray" := by simp +decide [String.splitOn, String.splitOnAux]
section
variable {prog : Program} {w : World} {A : Around} {E : Value → Shared → Prop} {s : Shared}
theorem bb_code_new {Q₁ : Value → Shared → Prop} (h : Q₁ (.ref s.heap.objs.size) { s with heap := s.heap.push (baObj #[]) }) :
    codeAny (model prog w) A (.call (.builtin "bytearray.__new__") ⟨[.type "bytearray"], []⟩) (wants Q₁ E) s := by
  refine codeAny_of_tree ?_
  show wpAny _ A.in1 (do checkBuiltinCall "bytearray.__new__" ⟨[.type "bytearray"], []⟩; again (.builtin "bytearray.__new__" ⟨[.type "bytearray"], []⟩)) _ _ s
  refine wpAny_bind (wpAny_of_eq bb_newCall (wpAny_pure ⟨plainId_quiet bb_called.plain _, codeAny_builtin_stack bb_entry_new rfl fun p st => ?_⟩))
  rw [Around.under_plainId bb_called.plain _]
  have hsub := bb_sub
  have hown := bb_owner
  obtain ⟨hp, g, d, tk, os⟩ := s
  simp only [hown]
  wp_walk
  exact h
end
section
variable {prog : Program} {w : World} {A : Around} {E : Value → Shared → Prop} {s : Shared} {a : Addr}
theorem bb_ownRelease {M : Model} {x : Array UInt8} {Q : Bool → Shared → Prop} (ho : s.heap.get? a = some (baObj x)) (h : Q false s) : wpAny M A (Builtin.Bytes.ownRelease (.ref a)) Q E s := by
  have hT : s.TypeIs (.ref a) "bytearray" := ⟨_, ho, rfl⟩
  unfold Builtin.Bytes.ownRelease
  refine wpAny_bind ?_
  unfold Builtin.Bytes.slotIsOwn
  refine wpAny_bind (wpAny_specialOf hT bb_no_release ?_)
  show wpAny M A (if (!("bytearray.__release_buffer__".endsWith ("." ++ "__release_buffer__"))) = true then _ else _) _ E s
  rw [if_neg (by decide +kernel)]
  rw [show ("bytearray.__release_buffer__".dropRight ("__release_buffer__".length + 1)) = "bytearray" from by decide +kernel]
  exact wpAny_isInstance hT bb_sub (wpAny_pure h)
theorem ba_write {M : Model} {x : Array UInt8} {f : Array UInt8 → Array UInt8} {Q : Unit → Shared → Prop} (ho : s.heap.get? a = some (baObj x)) (hz : (f x).size ≤ sizeLine) (h : Q () { s with heap := s.heap.update a (Obj.mapBytearray f) }) :
    wpAny M A (Builtin.Bytes.write (.ref a) f) Q E s := by
  show wpAny M A (updateBytearray a f) _ E s
  unfold updateBytearray
  refine wpAny_bind (wpAny_load ho ?_)
  show wpAny M A (update a (Obj.mapBytearray f) >>= fun _ => lookBehind a) _ E s
  refine wpAny_bind (wpAny_update ho ?_)
  have hS : (s.heap.update a (Obj.mapBytearray f)).get? a = some (baObj (f x)) := Heap.get?_update_self (Obj.mapBytearray f) ho rfl
  refine wpAny_lookBehind hS ?_ h
  show (if (f x).size > sizeLine then some "bytearray:memory" else none) = none
  rw [if_neg (Nat.not_lt.mpr hz)]
theorem bb_init_tree {M : Model} {Q : Value → Shared → Prop} (ho : s.heap.get? a = some (baObj #[])) (h : Q .none { s with heap := s.heap.update a (Obj.mapBytearray fun _ => #[]) }) :
    wpX M A (Builtin.«bytearray.__init__» ⟨[.ref a], []⟩) (fun fin s' => ∃ v, fin = .done (.ret v) ∧ Q v s') E s := by
  unfold Builtin.«bytearray.__init__»
  refine wpX_then (bb_ownRelease ho ?_)
  refine (show wpX M A (if false = true then _ else _) _ E s from ?_)
  rw [if_neg Bool.false_ne_true]
  refine wpX_then (wpAny_of_eq bb_bind ?_)
  refine wpX_then (wpAny_of_eq (a := ()) rfl ?_)
  refine wpX_then (wpAny_of_eq (a := ()) rfl ?_)
  refine wpX_bind ?_
  unfold orM
  refine wpX_bind (exported_X ?_)
  show wpX M A (Builtin.Bytes.exportsOf (.ref a) >>= fun n => pure (decide (n > 0))) _ E s
  refine wpX_then ?_
  unfold Builtin.Bytes.exportsOf
  refine wpAny_bind (wpAny_load ho (wpAny_pure (wpX_pure ?_)))
  rw [if_neg (by decide)]
  refine wpX_then (ba_write ho (Nat.zero_le _) ?_)
  exact (show wpX M A ((pure () : Sem Unit) >>= fun _ => ret .none) _ E _ from wpX_then (wpAny_pure (wpX_pure ⟨_, rfl, h⟩)))
theorem bb_code_init {Q : Value → Shared → Prop} (ho : s.heap.get? a = some (baObj #[])) (h : Q .none { s with heap := s.heap.update a (Obj.mapBytearray fun _ => #[]) }) :
    wpX (model prog w) A (call (.builtin "bytearray.__init__") [.ref a]) Q E s := by
  refine wpX_call (codeX_call_builtin bb_slot_init.plain (by decide) bb_entry_init (bb_slot_init.check _ _ _ _ _ _ _ _ ⟨_, ho, rfl⟩ (bb_args_init _) ?_))
  refine wpX_mono (bb_init_tree ho h) (fun fin s' h' => ?_) fun _ _ x => x
  obtain ⟨v, rfl, hv⟩ := h'
  exact hv
theorem callSpecial_X {M : Model} {self : Value} {T : String} {name : Str} {id : String} {args : List Value} {kw : List (Str × Value)}
    {Q : Option Value → Shared → Prop} (hT : s.TypeIs self T) (h : Slot T name id)
    (hc : wpX M A (call (.builtin id) (self :: args) kw) (fun v => Q (some v)) E s) : wpX M A (callSpecial? self name args kw) Q E s := by
  simp only [callSpecial?]
  refine wpX_then (wpAny_specialOf hT h.lookup ?_)
  simp only [h.bind]
  exact wpX_holding (wpX_then (wpAny_pure (wpX_bind (wpX_mono hc (fun v s' h' => wpX_pure h') fun _ _ h' => h'))))
theorem bytearray_X {Q : Value → Shared → Prop} (h : ∀ h', (∀ b o, s.heap.get? b = some o → h'.get? b = some o) → h'.get? s.heap.objs.size = some (baObj #[]) → Q (.ref s.heap.objs.size) { s with heap := h' }) :
    wpX (model prog w) A (call (.type "bytearray") []) Q E s := by
  obtain ⟨c, tl, hmro⟩ := bb_called.mro
  have hmade := bb_called.made
  refine wpX_call (codeX_of_tree rfl ?_)
  show wpX _ _ (callAny (.type "bytearray") _) _ _ _
  refine wpX_pure ⟨Code.quiet_builtin _ (by decide +kernel), codeX_builtin (by decide) F.entry_type_call ?_⟩
  rw [Around.under_plain (weight_type_call_type "bytearray" [] []) rfl]
  unfold Builtin.«type.__call__»
  dsimp only
  refine wpX_iff bb_called.notType ?_
  refine wpX_iff bb_called.canCreate ?_
  refine wpX_then (wpAny_of_eq bb_typeCall ?_)
  refine wpX_then (wpAny_of_eq hmro ?_)
  refine wpX_iff rfl ?_
  refine wpX_then (wpAny_of_eq hmade ?_)
  dsimp only
  refine wpX_then (wpAny_pure ?_)
  refine wpX_then (wpAny_holding (wpAny_call (codeAny_mono (bb_code_new (E := E) (Q₁ := fun v s' => v = .ref s.heap.objs.size ∧ s' = { s with heap := s.heap.push (baObj #[]) }) ⟨rfl, rfl⟩) fun r s₁ hr => ?_)))
  rcases r with e | (v | _ | _ | _) <;> first | exact hr | exact hr.elim | skip
  obtain ⟨rfl, rfl⟩ := hr
  have ho : (s.heap.push (baObj #[])).get? s.heap.objs.size = some (baObj #[]) := Heap.get?_push_size _ rfl
  refine wpX_then (wpAny_isInstance ⟨_, ho, rfl⟩ bb_sub ?_)
  refine wpX_iff rfl ?_
  refine wpX_bind (wpX_holding (callSpecial_X ⟨_, ho, rfl⟩ bb_slot_init (bb_code_init ho ?_)))
  refine wpX_iff rfl ?_
  refine wpX_pure (h _ (fun b o e => ?_) ?_)
  · exact (Heap.get?_update_ne _ _ _ _ (Nat.ne_of_lt (Heap.lt_size e))).trans (Heap.get?_push_of_some _ e)
  · exact Heap.get?_update_self (Obj.mapBytearray fun _ => #[]) ho rfl
end

end PB
namespace PB
theorem fresh5 : (if True then True else True) := by
  w_top off
  try (walk1; trivial)
  try simp
section
variable {prog : Program} {w : World} {A : Around} {K : Frag} {C : Addr} {s : Shared} {h₀ : Heap} {L : Addr} {m : Str → Option Value} {news : List (Addr × Obj)} {R : Result → Shared → Prop}
theorem codeX_call_builtin_at {id : String} {args : Args} {b : Builtin} {R : Result → Shared → Prop} (hq : (Code.builtin id args).quiet = true) (hcl : badIds.contains id = false) (hb : entryFor table id = some b)
    (h : wpAny (model prog w) A.in1 (checkBuiltinCall id args) (fun _ s₁ => wpX (model prog w) (A.under (.builtin id args)) (b args)
      (fun fin s' => match fin with | .done f => R (.ok f) s' | .again c' => c'.quiet = true ∧ codeX (model prog w) A c' R s') (fun e s' => R (.error e) s') s₁)
      (fun e s' => R (.error e) s') s) : codeX (model prog w) A (.call (.builtin id) args) R s := by
  refine codeX_of_tree rfl ?_
  show wpX _ A.in1 (do checkBuiltinCall id args; again (.builtin id args)) _ _ s
  exact wpX_then (wpAny_mono h (fun _ s₁ h₁ => wpX_pure (And.intro hq (codeX_builtin hcl hb h₁))) fun _ _ h' => h')
/-- an own class called, in a clean context -/
theorem make_X {rest : List Value} {kw : List (Str × Value)} {fI : Addr} (F : Fr h₀ L s.heap m) (N : News h₀ L s.heap news) (X : K.In s.heap) (hm : makesIn K C = true)
    (hi : findIn K (.ref C) "__init__" = some (some (.ref fI))) (hf : typeIn K (.ref fI) = some (.type "function"))
    (h : ∀ x dx h', Fr h₀ L h' m → News h₀ L h' ((x, instObj C dx) :: (dx, emptyDict) :: news) → (∀ p ∈ news, p.1 < dx) → dx < x →
      codeX (model prog w) (A.under (.builtin "type.__call__" ⟨.ref C :: rest, kw⟩)) (.call (.ref fI) ⟨.ref x :: rest, kw⟩) (InitBack x R) { s with heap := h' }) :
    codeX (model prog w) A (.call (.ref C) ⟨rest, kw⟩) R s := by
  obtain ⟨hh, g, d, t, os⟩ := s
  have N' := (N.push F emptyDict).push (F.push _) (instObj C hh.objs.size)
  rw [Heap.size_push] at N'
  have hq := h (hh.objs.size + 1) hh.objs.size _ ((F.push _).push _) N' (fun p hp => Heap.lt_size (N p hp).1) (Nat.lt_succ_self _)
  have Y := makes_of (M := model prog w) X hm
  have Y' := Y
  have hi' := looks_findIn (M := model prog w) X hi
  have hb : ∀ self, Looks (model prog w) hh (bindSpecial (.ref fI) self) (.ref fI, [self]) := fun self => bind_fn X self hf
  obtain ⟨⟨oc, od, cd, sl, hC, e1, e2, e4⟩, made, base, self, top, call, typ⟩ := Y
  refine codeX_of_tree rfl ?_
  show wpX _ _ (callAny (.ref C) _) _ _ _
  refine wpX_then (m := load C) (wpAny_load hC ?_)
  show wpX _ _ (callAny.viaDunder (.ref C) _) _ _ _
  unfold callAny.viaDunder
  refine wpX_then (call.at ?_)
  dsimp only
  rw [tc_bind]
  refine wpX_then (wpAny_pure (wpX_then (wpAny_pure ?_)))
  refine wpX_pure (a := Fin.again (.call (.builtin "type.__call__") ⟨.ref C :: rest, kw⟩)) (And.intro rfl ?_)
  refine codeX_call_builtin_at (Code.quiet_builtin _ (by decide +kernel)) (by decide) entry_typeCall (check_slot tc_kind tc_split typ (tc_args _ _ _) ?_)
  unfold Builtin.«type.__call__»
  have hm' : Looks (model prog w) hh (mroOf (.ref C)) cd.mro := ((Looks.ld (part := none) hC).andThen .now).andThen .now
  dsimp only
  refine wpX_iff rfl ?_
  refine wpX_then (hm'.here ?_)
  refine wpX_iff e4 ?_
  refine wpX_then (made.here ?_)
  dsimp only
  refine wpX_then (wpAny_pure ?_)
  refine wpX_then (wpAny_holding (wpAny_call (codeAny_mono (new_K (R := fun r s' => r = .ok (.ret (.ref (hh.objs.size + 1))) ∧ s' = ⟨(hh.push emptyDict).push (instObj C hh.objs.size), g, d, t, os⟩) Y' hi' (.inl rfl) ⟨rfl, rfl⟩) fun r s₁ hr => ?_)))
  obtain ⟨rfl, rfl⟩ := hr
  have k : ∀ b o, hh.get? b = some o → ((hh.push emptyDict).push (instObj C hh.objs.size)).get? b = some o := fun b o e => Heap.get?_push_of_some _ (Heap.get?_push_of_some _ e)
  have hx : ((hh.push emptyDict).push (instObj C hh.objs.size)).get? (hh.objs.size + 1) = some (instObj C hh.objs.size) := by heap_get
  have t1 : Looks (model prog w) ((hh.push emptyDict).push (instObj C hh.objs.size)) (typeOf (.ref (hh.objs.size + 1))) (.ref C) := (Looks.ld hx).andThen .now
  have s1 := self.keeps k
  have i1 := hi'.keeps k
  have b1 := (hb (.ref (hh.objs.size + 1))).keeps k
  have t2 : Looks (model prog w) ((hh.push emptyDict).push (instObj C hh.objs.size)) (isInstance (.ref (hh.objs.size + 1)) (.ref C)) true := t1.andThen s1
  have t3 : Looks (model prog w) ((hh.push emptyDict).push (instObj C hh.objs.size)) (specialOf (.ref (hh.objs.size + 1)) "__init__") (some (.ref fI)) := t1.andThen i1
  refine wpX_then (t2.here ?_)
  refine wpX_iff rfl ?_
  refine wpX_bind (wpX_holding ?_)
  simp only [callSpecial?]
  refine wpX_then (t3.here ?_)
  refine wpX_holding ?_
  refine wpX_then (b1.here ?_)
  refine wpX_bind (wpX_call (codeX_mono hq fun r s' z => ?_))
  rcases r with e | (v | _ | _ | _) <;> first | exact z | exact z.elim | skip
  obtain ⟨rfl, z⟩ := z
  refine wpX_pure ?_
  refine wpX_iff rfl ?_
  exact wpX_pure z
end

end PB
namespace PB
theorem fresh6 : (if True then True else True) := by
  w_top off
  try (walk1; trivial)
  try simp
noncomputable abbrev NoE : Value → Shared → Prop := fun _ _ => False
section
variable {M : Model} {A : Around} {E : Value → Shared → Prop} {s : Shared} {env : Env}
theorem wpX_of0 {α : Type} {t : Sem α} {Q : α → Shared → Prop} (h : wpX M A t Q NoE s) : wpX M A t Q E s := wpX_mono h (fun _ _ x => x) fun _ _ x => x.elim
theorem wpX_If {test : Expr} {body orelse : List Stmt} {pos : Pos} {Q : Flow → Shared → Prop}
    (h : wpAny M A (isTrue test env (eval test env)) (fun b s₂ => if b then wpX M A (execs body env) Q E s₂ else wpX M A (execs orelse env) Q E s₂) E s) : wpX M A (exec (.If test body orelse pos) env) Q E s := by
  rw [exec_If]
  refine wpX_then (wpAny_standAt (wpX_then (wpAny_mono h (fun b s₂ h₂ => ?_) fun _ _ x => x)))
  cases b <;> exact h₂
theorem wpX_Assign_Attribute {o : Expr} {attr : Str} {pos' pos : Pos} {value : Expr} {Q : Flow → Shared → Prop}
    (h : wpX M A (eval value env) (fun v s₁ => wpAny M A (eval o env) (fun ov s₂ => wpAny M A (setAttr ov attr v) (fun _ => Q .next) E s₂) E s₁) E s)
    (hs : swapsWith value (some (.Attribute o attr pos')) pos.line env = pure false := by rfl) : wpX M A (exec (.Assign [.Attribute o attr pos'] value pos) env) Q E s := fun Γ p hΓ hc hb => by
  simp only [plainObj_exec_Assign_Attribute o attr pos' value pos hs, assign_Attribute, Sem.wp_bind', Sem.wp_holding, Sem.wp_cmd_standAt, Sem.wp_release, Sem.wp_pure']
  exact Sem.wp_mono M Γ _ (fun v p₁ s₁ h₁ => Sem.wp_mono M Γ _ (fun ov _ s₂ h₂ => h₂ Γ _ hΓ) (fun _ _ _ h' => h') _ _ (h₁ Γ p₁ hΓ)) (fun _ _ _ h' => h') _ _ (h Γ _ hΓ hc hb)
theorem methodCall_X {o : Expr} {name : Str} {apos pos : Pos} {args : List Expr} {pl : Sem Bool} {Q : Value → Shared → Prop}
    (h : wpAny M A (eval o env) (fun ov s₁ => wpAny M A (getMethod ov name pl) (fun fx s₂ => wpX M A (callWith pos fx.1 fx.2 (backTo pos (starEach args env)) []) Q E s₂) E s₁) E s)
    (he : eval (.Call (.Attribute o name apos) args [] pos) env = (do
      let ov ← eval o env
      standAt apos.atName
      let (f, first) ← holding [ov] (getMethod ov name pl)
      callWith pos f first (backTo pos (starEach args env)) []) := by rfl) :
    wpX M A (eval (.Call (.Attribute o name apos) args [] pos) env) Q E s := by
  rw [he]
  refine wpX_then (wpAny_mono h (fun ov s₁ h₁ => wpX_then (wpAny_standAt (wpX_then (wpAny_holding (wpAny_mono h₁ (fun fx s₂ h₂ => ?_) fun _ _ x => x))))) fun _ _ x => x)
  exact h₂
theorem callWith_XK {K : Frag} {f : Value} {first : List Value} {pos : Pos} {e : Expr} {rest : List Expr} {Q : Value → Shared → Prop} (hk : keepIn K f = true)
    (h : wpAny M A (spliced (backTo pos (starEach (e :: rest) env))) (fun vs s₁ => K.In s₁.heap ∧ wpX M A (call f (first ++ vs)) Q E s₁) E s)
    (he : starEach (e :: rest) env = (false, eval e env) :: starEach rest env := by rfl) (hplain : (backTo pos (starEach rest env)).any (·.1) = false := by rfl) :
    wpX M A (callWith pos f first (backTo pos (starEach (e :: rest) env)) []) Q E s := by
  rw [he] at h ⊢
  exact wpX_callWith (by show ((false || (backTo pos (starEach rest env)).any (·.1)) || false) = false; rw [hplain]; rfl) (keeps_K hk) (evalArgs_plain h)
theorem callWith_XK0 {K : Frag} {f : Value} {first : List Value} {pos : Pos} {Q : Value → Shared → Prop} (X : K.In s.heap) (hk : keepIn K f = true)
    (h : wpX M A (call f (first ++ [])) Q E s) : wpX M A (callWith pos f first (backTo pos (starEach [] env)) []) Q E s :=
  wpX_callWith rfl (keeps_K hk) (evalArgs_nil3 ⟨X, h⟩)
theorem callWith_XB {id : String} {first : List Value} {pos : Pos} {e : Expr} {rest : List Expr} {Q : Value → Shared → Prop}
    (h : wpAny M A (spliced (backTo pos (starEach (e :: rest) env))) (fun vs s₁ => wpX M A (call (.builtin id) (first ++ vs)) Q E s₁) E s)
    (he : starEach (e :: rest) env = (false, eval e env) :: starEach rest env := by rfl) (hplain : (backTo pos (starEach rest env)).any (·.1) = false := by rfl) :
    wpX M A (callWith pos (.builtin id) first (backTo pos (starEach (e :: rest) env)) []) Q E s := by
  rw [he] at h ⊢
  exact wpX_callWith (P := fun _ => True) (by show ((false || (backTo pos (starEach rest env)).any (·.1)) || false) = false; rw [hplain]; rfl) (fun _ _ => ⟨.machine, .inr (.inl rfl), .now⟩)
    (evalArgs_plain (wpAny_mono h (fun _ _ x => ⟨trivial, x⟩) fun _ _ x => x))
theorem callWith_XT0 {T : String} {pos : Pos} {Q : Value → Shared → Prop} (h : wpX M A (call (.type T) []) Q E s) : wpX M A (callWith pos (.type T) [] (backTo pos (starEach [] env)) []) Q E s :=
  wpX_callWith (P := fun _ => True) rfl (fun _ _ => ⟨.machine, .inr (.inl rfl), .now⟩) (evalArgs_nil3 ⟨trivial, h⟩)
theorem codeX_loop {c : Code} {R : Result → Shared → Prop} (hcl : cleanC c = true) (hq : c.quiet = true) (I : Nat → Shared → Prop)
    (turn : ∀ n s, I n s → wpX M (A.under c) (M.den c)
      (fun fin s' => match fin with
        | .done f => R (.ok f) s'
        | .again c' => (c' = c ∧ ∃ m, m < n ∧ I m s') ∨ (c'.quiet = true ∧ codeX M A c' R s')) (fun e s' => R (.error e) s') s)
    (n : Nat) (h : I n s) : codeX M A c R s := by
  induction n using Nat.strongRecOn generalizing s with
  | ind n ih =>
    refine codeX_of_tree hcl (wpX_mono (turn n s h) (fun fin s' hf => ?_) fun _ _ h' => h')
    cases fin with
    | done f => exact hf
    | again c' =>
      rcases hf with ⟨rfl, m, hm, hI⟩ | hf
      · exact ⟨hq, ih m hm hI⟩
      · exact hf
theorem wpX_runOwn {c : Code} {h : Option Value} {Q : Flow → Shared → Prop}
    (hc : codeX M (A.mark h) c (fun r s' => match r with | .ok f => Q f s' | .error _ => False) s) (hnb : h ≠ some byPass := by intro x; cases x) :
    wpX M A (runOwn c env h) Q NoE s := by
  unfold runOwn
  exact wpX_onRaise (wpX_run (codeX_mono hc fun r s' x => by cases r <;> first | exact x | exact x.elim) hnb)
end
section
variable {prog : Program} {w : World} {A : Around} {s : Shared} {R : Result → Shared → Prop} {env : Env} {h₀ : Heap}
theorem codeX_forLoop {target : Expr} {it : Value} {body : List Stmt} (I : Nat → Shared → Prop)
    (turn : ∀ n s, I n s → wpAny (model prog w) A (pyNext it) (fun r s₁ => match r with
      | none => R (.ok .next) s₁
      | some v => wpAny (model prog w) A (assign target env v) (fun _ s₂ => wpX (model prog w) A (execs body env) (fun f s₃ => match f with
          | .next | .cont => ∃ m, m < n ∧ I m s₃
          | .brk => R (.ok .next) s₃
          | .ret v => R (.ok (.ret v)) s₃) NoE s₂) NoE s₁) NoE s)
    (n : Nat) (h : I n s) (ht : ∀ v, letOwnedTupleGo target it v = pure () := by intro _; rfl) : codeX (model prog w) A (.forLoop target it body [] env) R s := by
  refine codeX_loop rfl rfl I (fun n s hI => ?_) n h
  show wpX _ _ ((forTurn target it body [] env).onRaise (fun x => do noteFrame x env; theTreesLotGoes x)) _ _ s
  refine wpX_onRaise (wpX_of0 ?_)
  simp only [forTurn]
  refine wpX_then (wpAny_standAt (wpX_then (wpAny_onRaise (wpAny_mono (turn n s hI) (fun r s₁ h₁ => ?_) fun _ _ h' => h'.elim))))
  cases r with
  | none => exact wpX_pure (.inr ⟨rfl, codeX_of (codeAny_block (wpAny_execs_nil h₁))⟩)
  | some v =>
    refine wpX_then (wpAny_of_eq (ht v) ?_)
    refine wpX_then (wpAny_mono h₁ (fun _ s₂ h₂ => wpX_bind (wpX_mono h₂ (fun f s₃ h₃ => ?_) fun _ _ h' => h')) fun _ _ h' => h')
    cases f with
    | next => exact wpX_pure (.inl ⟨rfl, h₃⟩)
    | cont => exact wpX_pure (.inl ⟨rfl, h₃⟩)
    | brk => exact wpX_pure h₃
    | ret v => exact wpX_pure h₃
theorem wpX_For {target iter : Expr} {body : List Stmt} {pos : Pos} {Q : Flow → Shared → Prop}
    (h : wpAny (model prog w) A (eval iter env) (fun x s₁ => wpAny (model prog w) A (pyIter x) (fun it s₂ =>
      codeX (model prog w) A (.forLoop target it body [] env) (fun r s' => match r with | .ok f => Q f s' | .error _ => False) s₂) NoE s₁) NoE s)
    (hs : ∀ x, foldedSetIterable iter env x = pure x := by intro _; rfl) :
    wpX (model prog w) A (exec (.For target iter body [] pos) env) Q NoE s := by
  rw [exec_For]
  exact wpX_then (wpAny_standAt (wpX_then (wpAny_mono h (fun x s₁ h₁ => wpX_then (wpAny_of_eq (hs x) (wpX_then (wpAny_standAt (wpX_then (wpAny_holding
    (wpAny_mono h₁ (fun it s₂ h₂ => wpX_runOwn h₂) fun _ _ h' => h'))))))) fun _ _ h' => h')))
end
section
variable {prog : Program} {w : World} {A : Around} {s : Shared} {env : Env} {h₀ : Heap} {x : Str} {body : List Stmt} {Q : Flow → Shared → Prop}
/-- a loop at its iterator, by an invariant over the turn, the frame and the ledger; its turns in a clean context -/
noncomputable def LoopX (prog : Program) (w : World) (A : Around) (h₀ : Heap) (env : Env) (x : Str) (body : List Stmt) (Q : Flow → Shared → Prop) (it : Value) (s₂ : Shared) : Prop :=
  ∃ (I : Addr) (fp wr : List Addr) (n : Nat) (P : Nat → Value → Prop) (St : Nat → Heap → Prop) (m : Str → Option Value) (news : List (Addr × Obj)) (J : Nat → (Str → Option Value) → List (Addr × Obj) → Prop),
    it = .ref I ∧ Walks prog w A I fp wr n P St ∧ env.locals ∉ fp ∧ (∀ b ∈ wr, h₀.get? b = none) ∧ (∀ q ∈ news, q.1 ∉ fp) ∧ St 0 s₂.heap ∧ Fr h₀ env.locals s₂.heap m ∧ News h₀ env.locals s₂.heap news ∧ J 0 m news ∧
    (∀ i v m₁ news₁ h tk own, i < n → P i v → news₁.map (·.1) = news.map (·.1) → OwnOff own (news.map (·.1)) → J i m₁ news₁ → Fr h₀ env.locals h (fun y => if y = x then some v else m₁ y) → News h₀ env.locals h (news₁ ++ own) →
      wpX (model prog w) A (execs body env) (InvPostN h₀ env.locals (J (i + 1)) own (news.map (·.1)) { s₂ with heap := h, toks := tk } Q) NoE { s₂ with heap := h, toks := tk }) ∧
    ∀ m₁ news₁ h tk, J n m₁ news₁ → Fr h₀ env.locals h m₁ → News h₀ env.locals h news₁ → Q .next { s₂ with heap := h, toks := tk }
theorem LoopX.go {px : Pos} {it : Value} (hx : env.kindOf x = some .local) (hp : (env.scope.kind == .class || (env.scope.kind == .module && env.locals != env.globals)) = false)
    (H : LoopX prog w A h₀ env x body Q it s) : codeX (model prog w) A (.forLoop (.Name x px) it body [] env) (fun r s' => match r with | .ok f => Q f s' | .error _ => False) s := by
  obtain ⟨I, fp, wr, n, P, St, m, news, J, rfl, W, hLf, hwr, hfp, hst, F, N, hj, turn, done⟩ := H
  have hLw : env.locals ∉ wr := fun h => hLf (W.sub _ h)
  have old : ∀ b o, h₀.get? b = some o → b ∉ wr := fun b o e hb => by rw [hwr b hb] at e; cases e
  refine codeX_forLoop
    (fun k s' => ∃ h' tk m' nx i, s' = { s with heap := h', toks := tk } ∧ St i h' ∧ Fr h₀ env.locals h' m' ∧ News h₀ env.locals h' nx ∧ nx.map (·.1) = news.map (·.1) ∧ J i m' nx ∧ i ≤ n ∧ k = n + 1 - i) ?_ (n + 1)
    ⟨s.heap, s.toks, m, news, 0, rfl, hst, F, N, rfl, hj, Nat.zero_le _, rfl⟩
  rintro k s' ⟨h', tk, m', nx, i, rfl, hst', F', N', hadr, hJ, hi, rfl⟩
  have offw : ∀ p ∈ nx, p.1 ∉ wr := fun p hp hq => by
    have h1 : p.1 ∈ nx.map (·.1) := List.mem_map.mpr ⟨p, hp, rfl⟩
    rw [hadr] at h1
    obtain ⟨q, hq1, hq2⟩ := List.mem_map.mp h1
    exact hfp q hq1 (W.sub _ (by rw [hq2]; exact hq))
  have next : ∀ h₁ : Heap, (∀ b o, b ∉ wr → h'.get? b = some o → h₁.get? b = some o) → Fr h₀ env.locals h₁ m' ∧ News h₀ env.locals h₁ nx := fun h₁ hk₁ =>
    ⟨⟨F'.ns.at' fun o e => hk₁ _ o hLw e, fun b o e => hk₁ b o (old b o e) (F'.keep b o e), F'.above⟩, fun p hp => ⟨hk₁ _ _ (offw p hp) (N' p hp).1, (N' p hp).2⟩⟩
  by_cases hlt : i < n
  · refine W.item i _ _ _ hlt hst' fun v h₁ tk₁ hP hst₁ hk₁ => ?_
    obtain ⟨F₁, N₁⟩ := next h₁ hk₁
    refine wpAny_assign_Name (wpAny_storeName_local hx F₁.ns (fun h₂ hn₂ hs₂ => ?_) hp)
    have F₂ := F₁.set hn₂ hs₂
    have Nown : News h₀ env.locals h₂ (ownOf h₀ fp h₂) := news_ownOf hLf
    have hst₂ : St (i + 1) h₂ := W.frame _ _ _ hst₁ fun b hb o e => (hs₂.2 b fun q => hLf (q ▸ hb)).trans e
    have hsep : OwnOff (ownOf h₀ fp h₂) (news.map (·.1)) := fun p hp b hb e => by
      obtain ⟨q, hq, rfl⟩ := List.mem_map.mp hb
      exact hfp q hq (e ▸ ownOf_sub p hp)
    have N₂ : News h₀ env.locals h₂ (nx ++ ownOf h₀ fp h₂) := fun p hp => (List.mem_append.mp hp).elim (fun h => (N₁.set hs₂) p h) fun h => Nown p h
    refine wpX_mono (turn i v m' nx h₂ _ (ownOf h₀ fp h₂) hlt hP hadr hsep hJ F₂ N₂) (fun f s₃ h₃ => ?_) fun _ _ e => e
    have fin : InvEndN h₀ env.locals (J (i + 1)) (ownOf h₀ fp h₂) (news.map (·.1)) { s with heap := h₂, toks := tk₁ + 1 } s₃ →
        ∃ k', k' < n + 1 - i ∧ ∃ h' tk m' nx i', s₃ = { s with heap := h', toks := tk } ∧ St i' h' ∧ Fr h₀ env.locals h' m' ∧ News h₀ env.locals h' nx ∧ nx.map (·.1) = news.map (·.1) ∧ J i' m' nx ∧ i' ≤ n ∧ k' = n + 1 - i' := by
      rintro ⟨h₃', tk₃, m₃, news₃, nx₃, rfl, F₃, N₃, hn, ho, ha, hm⟩
      refine ⟨n + 1 - (i + 1), by omega, h₃', tk₃, m₃, nx₃, i + 1, rfl, ?_, F₃, fun p hp => N₃ p (hn p hp), ha, hm, hlt, rfl⟩
      refine W.frame _ _ _ hst₂ fun b hb o e => ?_
      cases hn' : h₀.get? b with
      | some o₀ =>
        have : o₀ = o := by have := F₂.keep b o₀ hn'; rw [e] at this; exact (Option.some.inj this).symm
        exact this ▸ F₃.keep b o₀ hn'
      | none => exact (N₃ _ (ho _ (mem_ownOf hb hn' e))).1
    cases f with
    | ret v => exact h₃
    | brk => exact h₃
    | next => exact fin h₃
    | cont => exact fin h₃
  · have hin : i = n := by omega
    subst hin
    refine W.done _ _ _ hst' fun h₁ tk₁ hk₁ => ?_
    obtain ⟨F₁, N₁⟩ := next h₁ hk₁
    exact done m' nx h₁ tk₁ hJ F₁ N₁
theorem For_X {px pos : Pos} {iter : Expr} (hx : env.kindOf x = some .local) (hp : (env.scope.kind == .class || (env.scope.kind == .module && env.locals != env.globals)) = false)
    (h : wpAny (model prog w) A (eval iter env) (fun xv s₁ => wpAny (model prog w) A (pyIter xv) (fun it s₂ => LoopX prog w A h₀ env x body Q it s₂) NoE s₁) NoE s)
    (hs : ∀ x, foldedSetIterable iter env x = pure x := by intro _; rfl) : wpX (model prog w) A (exec (.For (.Name x px) iter body [] pos) env) Q NoE s :=
  wpX_For (wpAny_mono h (fun xv s₁ h₁ => wpAny_mono h₁ (fun it s₂ h₂ => h₂.go hx hp) fun _ _ e => e) fun _ _ e => e) hs
end

end PB
namespace PB
theorem fresh7 : (if True then True else True) := by
  w_top off
  try (walk1; trivial)
  try simp
end PB
namespace PB.PySem.W
open PySem.Spec in
/-- under this name k_head lays the written heap and the view alone; the claim itself is handed in (hd is used for nothing else) -/
theorem holds_open {r : OpenRow} {q : Program} {loose : List Str} {Xt : Shared → Bool} {XP : (Str → Option Value) → Heap → Prop} {α : Type} {Yf : Shared → α} {Ya : World → α} {YP : World → Heap → Prop} {N : Nat}
    (left : True) (hY : ∀ w s, Yf s = Ya w → YP w s.heap) (hYk : ∀ w h h', YP w h → (∀ b o, h.get? b = some o → h'.get? b = some o) → YP w h')
    (hX : ∀ s, Xt s = true → XP (s.heap.nsMap mainGlobals) s.heap) (hXk : ∀ mg h h', XP mg h → (∀ b o, h.get? b = some o → h'.get? b = some o) → XP mg h')
    (h1 : 0 = 0) (h2 : 0 = 0) (h3 : 0 = 0) (hRf : ∀ s, Xt s = true → RecFacts r.records s.heap) (h4 : 0 = 0)
    (h : r.Holds) (h5 : True) (h6 : 0 = 0 ∧ 0 = 0 ∧ 0 = 0 ∧ 0 = 0 ∧ 0 = 0 ∧ True) (hw : True) (call : True) : r.Holds := h
end PB.PySem.W
namespace PB
theorem hd (h : PySem.Challenge.rw_pb0162_01.row.Holds) : PySem.Challenge.rw_pb0162_01.row.Holds := by
  refine (fun (_ : True) => ?rest) ?hl
  rotate_left
  exact trivial
  k_head
  case hw => trivial
  case hc => trivial

end PB
namespace PB
theorem fresh8 : (if True then True else True) := by
  w_top off
  try (walk1; trivial)
  try simp
/-- the head's run in one look: the top's run from the booted heap, and what the head asks of its end -/
theorem left_whole {p q : Program} {loose : List Str} {Xt : Shared → Bool} {α : Type} {Yf : Shared → α} {Ya : World → α} {N : Nat} {H₀ : Params → Heap} {gs₀ : Array GenState} {d₀ : Drawn} {k₀ : Nat} {m₀ : Nat} {ann : Option Value}
    (open_ : ∀ w : World, (fencedOpening treeTable p w N).map (fun s => (s.heap, s.gens, s.drawn, s.toks)) = some (H₀ w.params, gs₀, d₀, k₀))
    (size : ∀ w : World, ((H₀ w.params).isNs mainGlobals && gs₀.size == 0, (H₀ w.params).objs.size, (H₀ w.params).nsMap mainGlobals "__annotations__") = (true, m₀, ann))
    (run : ∀ w : World, (fun os => (topRun treeTable p w m₀ ann N ⟨H₀ w.params, gs₀, d₀, k₀, os⟩ (topStub p)).map fun s =>
      ((staticsOk (importedModules p.main.body) (H₀ w.params) s.heap && namesBound p s.heap && gensDone s && laidKept (H₀ w.params) s.heap), openSeen q loose (importedModules p.main.body) Xt true s, Yf s)) =
        fun _ => some (true, openGood q loose, Ya w)) : LeftO p q loose Xt Yf Ya N := fun w => by
  obtain ⟨⟨h, gs, d, k, os⟩, e, e'⟩ := Option.map_eq_some_iff.mp (open_ w)
  obtain ⟨rfl, rfl, rfl, rfl⟩ : h = H₀ w.params ∧ gs = gs₀ ∧ d = d₀ ∧ k = k₀ := by simpa using e'
  obtain ⟨z1, z2, z3⟩ : _ ∧ _ ∧ _ := by simpa only [Prod.mk.injEq] using size w
  obtain ⟨s, r, l⟩ := Option.map_eq_some_iff.mp (congrFun (run w) os)
  obtain ⟨l1, l2, l3⟩ : _ ∧ _ ∧ _ := by simpa only [Prod.mk.injEq] using l
  have t : topFrom treeTable p w N ⟨H₀ w.params, gs, d, k, os⟩ = some s := by
    unfold topFrom
    dsimp only
    rw [z1, z2, z3, r]
    show (match staticsOk (importedModules p.main.body) (H₀ w.params) s.heap && namesBound p s.heap && gensDone s && laidKept (H₀ w.params) s.heap with | true => _ | false => _) = _
    rw [l1]
  unfold openEnds
  rw [e]
  show (topFrom treeTable p w N _).map _ = _
  rw [t]
  exact congrArg some (Prod.ext l2 l3)
/-- the addresses of the written heap -/
noncomputable def asK : List Addr := [2, 3, 15, 17, 18, 20, 21, 22, 25, 30, 31, 32, 34, 35, 37, 38, 39, 41, 42, 44, 45, 46, 47, 48, 49, 52, 59, 60, 61, 64, 67, 68, 76, 78, 79, 81, 82, 83, 85, 86, 88, 89, 90, 92, 93, 95, 96, 97, 99, 100, 102, 103, 104, 106, 107, 109, 110, 111, 113, 114, 116, 117, 118, 120, 121, 123, 124, 125, 128, 129, 130, 132, 133, 135, 136, 137, 139, 140, 142, 143, 144, 146, 147, 149, 150, 151, 152, 153, 154, 155, 158, 160, 161, 163, 164, 165, 167, 168, 170, 171, 172, 173, 175, 176, 178, 179, 180, 183, 184, 185, 187, 188, 190, 191, 192, 194, 195, 197, 198, 199, 201, 202, 204, 205, 206, 208, 209, 211, 212, 213, 215, 216, 218, 219, 220, 222, 223, 225, 226, 227, 230, 231]
theorem asK_eq (P : Params) : asK = (hd.heap_1 P).map (·.1) := by kernel_rfl
/-- the hook that brings the written heap -/
noncomputable abbrev HK : Hook := kHook hd.heap_1 asK asK_eq
theorem names_open : opening PySem.Challenge.rw_pb0162_01.row.prog = plainProg PySem.Challenge.rw_pb0162_01.row.prog.main.scope.names := by kernel_rfl
theorem fence_open (s : Shared) : fenceModules? PySem.Challenge.rw_pb0162_01.row.prog s = some s := by kernel_rfl
theorem size_open (w : World) : ((boot_heap w.params).isNs mainGlobals && (Array.mk [] : Array GenState).size == 0, (boot_heap w.params).objs.size, (boot_heap w.params).nsMap mainGlobals "__annotations__") = (true, 11, some (Value.ref 6)) := by kernel_rfl
theorem run_open (w : World) : (fun os => (topRun treeTable PySem.Challenge.rw_pb0162_01.row.prog w 11 (some (Value.ref 6)) 1600 ⟨boot_heap w.params, Array.mk [], boot_drawn, boot_toks, os⟩ (topStub PySem.Challenge.rw_pb0162_01.row.prog)).map fun s =>
      ((staticsOk (importedModules PySem.Challenge.rw_pb0162_01.row.prog.main.body) (boot_heap w.params) s.heap && namesBound PySem.Challenge.rw_pb0162_01.row.prog s.heap && gensDone s && laidKept (boot_heap w.params) s.heap),
        openSeen hd.view_1 [Str.ofString "ShapeError", Str.ofString "write_kern"] (importedModules PySem.Challenge.rw_pb0162_01.row.prog.main.body) (fun s => xlAt hd.view_1 [] s && recOk PySem.Challenge.rw_pb0162_01.row.records s) true s, Hook.obs HK s)) =
        fun _ => some (true, openGood hd.view_1 [Str.ofString "ShapeError", Str.ofString "write_kern"], Hook.val HK w) := by
  try rw [@PySem.W.Fast.te14082659384304107361]
  try rw [@PySem.W.Fast.te14364793385576792824]
  kernel_rfl
theorem left_open : LeftO PySem.Challenge.rw_pb0162_01.row.prog hd.view_1 [Str.ofString "ShapeError", Str.ofString "write_kern"] (fun s => xlAt hd.view_1 [] s && recOk PySem.Challenge.rw_pb0162_01.row.records s) (Hook.obs HK) (Hook.val HK) 1600 :=
  left_whole (boot_open names_open rfl fence_open) size_open run_open
theorem said_open : PySem.Challenge.rw_pb0162_01.wellSaid = true := by
  try rw [@PySem.W.Fast.te9446332074065402090]
  kernel_rfl
theorem names_view : namesOk hd.view_1 (looseW hd.view_1 [Str.ofString "ShapeError", Str.ofString "write_kern"]) (namesW hd.view_1 [Str.ofString "ShapeError", Str.ofString "write_kern"]) = true := by
  try rw [@PySem.W.Fast.te17448422675489707002]
  kernel_rfl
theorem imports_view : importsNone hd.view_1 = true := by kernel_rfl
theorem ok_open : (chainsOk hd.view_1 && opensWell PySem.Challenge.rw_pb0162_01.row.prog && (frees PySem.Challenge.rw_pb0162_01.row.toRowW && PySem.Challenge.rw_pb0162_01.row.within.isEmpty)) = true := by kernel_rfl

end PB
namespace PB
theorem fresh9 : (if True then True else True) := by
  w_top off
  try (walk1; trivial)
  try simp
theorem newsDrop {h₀ h : Heap} {L : Addr} {l news : List (Addr × Obj)} (N : News h₀ L h l) (hs : ∀ p ∈ news, p ∈ l) : News h₀ L h news := fun p hp => N p (hs p hp)
/-- a goal that the walk leaves to the hand -/
noncomputable def Stop (P : Prop) : Prop := P
theorem Stop.go {P : Prop} (h : P) : Stop P := h
theorem Stop.out {P : Prop} (h : Stop P) : P := h
/-- lexicographic: y is not greater than x -/
noncomputable def geB (x y : Int × Int) : Bool := if x.1 = y.1 then decide (y.2 ≤ x.2) else decide (y.1 ≤ x.1)
noncomputable def ltB (x y : Int × Int) : Bool := if x.1 = y.1 then decide (x.2 < y.2) else decide (x.1 < y.1)
noncomputable abbrev T2 (x : Int × Int) (t u : Tok) : Obj := { cls := .type "tuple", data := .seq #[.int x.1 t, .int x.2 u] }
noncomputable def Is2 (h : Heap) (p : Addr) (x : Int × Int) : Prop := ∃ t u, h.get? p = some (T2 x t u)
theorem Is2.keeps {h h' : Heap} {p : Addr} {x : Int × Int} (i : Is2 h p x) (hk : ∀ b o, h.get? b = some o → h'.get? b = some o) : Is2 h' p x := let ⟨t, u, e⟩ := i; ⟨t, u, hk _ _ e⟩
section
variable {prog : Program} {w : World} {A : Around} {E : Value → Shared → Prop} {s : Shared} {p q : Addr} {x y : Int × Int}
theorem Is2.typeIs (i : Is2 s.heap p x) : s.TypeIs (.ref p) "tuple" := let ⟨_, _, e⟩ := i; ⟨_, e, rfl⟩
theorem tup_ge {Q : Value → Shared → Prop} (hu : A.units < cLine) (hx : Is2 s.heap p x) (hy : Is2 s.heap q y) (h : Q (.bool (geB x y)) s) : wpAny (model prog w) A (compareOp .GtE (.ref p) (.ref q)) Q E s := by
  show wpAny _ _ (richCompare .GtE (.ref p) (.ref q)) Q E s
  have hTx := hx.typeIs
  have hTy := hy.typeIs
  refine wpAny_richCompare_same_room (op := .GtE) hTx hTy F.slot_tuple_ge (wpAny_call_entry F.slot_tuple_ge hTx F.entry_tuple_ge ?_ (F.args_tuple_ge_2 _ _)) hu
  obtain ⟨t, u, e⟩ := hx
  obtain ⟨t', u', e'⟩ := hy
  show wpAny _ _ (isInstance (.ref q) (.type "tuple") >>= _) _ _ s
  refine wpAny_bind (wpAny_isInstance hTy isSubtype_tuple_tuple ?_)
  simp only [Bool.not_true, Bool.false_eq_true, if_false]
  refine wpAny_bind (wpAny_tupleItemsOf e rfl ?_)
  refine wpAny_bind (wpAny_tupleItemsOf e' rfl ?_)
  refine wpAny_bind ?_
  simp only [List.zip_cons_cons, List.zip_nil_left, List.forIn_cons, List.forIn_nil]
  refine wpAny_bind (wpAny_bind (wpAny_eqBool_int ?_))
  by_cases h1 : x.1 = y.1
  · rw [show (x.1 == y.1) = true from beq_iff_eq.mpr h1]
    rw [if_neg (by simp)]
    refine wpAny_pure ?_
    refine wpAny_bind (wpAny_bind (wpAny_eqBool_int ?_))
    by_cases h2 : x.2 = y.2
    · rw [show (x.2 == y.2) = true from beq_iff_eq.mpr h2]
      rw [if_neg (by simp)]
      refine wpAny_pure (wpAny_pure (wpAny_pure ⟨_, rfl, (fun e => nomatch e), ?_⟩))
      have : geB x y = true := by simp [geB, h1, h2]
      rw [this] at h
      exact h
    · rw [show (x.2 == y.2) = false from beq_eq_false_iff_ne.mpr h2]
      rw [if_pos (show (!false) = true from rfl)]
      refine wpAny_bind (wpAny_rule ?_)
      refine wpAny_bind (show wpAny _ _ (compareOp .GtE _ _) _ _ _ from ge_int ?_)
      refine wpAny_bind (wpAny_pure (wpAny_pure (wpAny_pure (wpAny_pure ⟨_, rfl, (fun e => nomatch e), ?_⟩))))
      have : geB x y = decide (x.2 ≥ y.2) := by simp [geB, h1]
      rw [this] at h
      exact h
  · rw [show (x.1 == y.1) = false from beq_eq_false_iff_ne.mpr h1]
    rw [if_pos (show (!false) = true from rfl)]
    refine wpAny_bind (wpAny_rule ?_)
    refine wpAny_bind (show wpAny _ _ (compareOp .GtE _ _) _ _ _ from ge_int ?_)
    refine wpAny_bind (wpAny_pure (wpAny_pure (wpAny_pure (wpAny_pure ⟨_, rfl, (fun e => nomatch e), ?_⟩))))
    have : geB x y = decide (x.1 ≥ y.1) := by simp [geB, h1]
    rw [this] at h
    exact h
theorem tup_ne {Q : Value → Shared → Prop} (hu : A.units < cLine) (hx : Is2 s.heap p x) (hy : Is2 s.heap q y) (h : Q (.bool (decide (x ≠ y))) s) : wpAny (model prog w) A (compareOp .NotEq (.ref p) (.ref q)) Q E s := by
  show wpAny _ _ (richCompare .NotEq (.ref p) (.ref q)) Q E s
  have hTx := hx.typeIs
  have hTy := hy.typeIs
  refine wpAny_richCompare_same_room (op := .NotEq) hTx hTy F.slot_tuple_ne (wpAny_call_entry F.slot_tuple_ne hTx F.entry_tuple_ne ?_ (F.args_tuple_ne_2 _ _)) hu
  obtain ⟨t, u, e⟩ := hx
  obtain ⟨t', u', e'⟩ := hy
  show wpAny _ _ (isInstance (.ref q) (.type "tuple") >>= _) _ _ s
  refine wpAny_bind (wpAny_isInstance hTy isSubtype_tuple_tuple ?_)
  simp only [Bool.not_true, Bool.false_eq_true, if_false]
  refine wpAny_bind (wpAny_tupleItemsOf e rfl ?_)
  refine wpAny_bind (wpAny_tupleItemsOf e' rfl ?_)
  refine wpAny_bind ?_
  simp only [List.zip_cons_cons, List.zip_nil_left, List.forIn_cons, List.forIn_nil]
  refine wpAny_bind (wpAny_bind (wpAny_eqBool_int ?_))
  by_cases h1 : x.1 = y.1
  · rw [show (x.1 == y.1) = true from beq_iff_eq.mpr h1]
    rw [if_neg (by simp)]
    refine wpAny_pure ?_
    refine wpAny_bind (wpAny_bind (wpAny_eqBool_int ?_))
    by_cases h2 : x.2 = y.2
    · rw [show (x.2 == y.2) = true from beq_iff_eq.mpr h2]
      rw [if_neg (by simp)]
      refine wpAny_pure (wpAny_pure (wpAny_pure ⟨_, rfl, (fun e => nomatch e), ?_⟩))
      have : decide (x ≠ y) = false := by simp [Prod.ext_iff, h1, h2]
      rw [this] at h
      exact h
    · rw [show (x.2 == y.2) = false from beq_eq_false_iff_ne.mpr h2]
      rw [if_pos (show (!false) = true from rfl)]
      refine wpAny_bind (wpAny_pure (wpAny_pure (wpAny_pure (wpAny_pure ⟨_, rfl, (fun e => nomatch e), ?_⟩))))
      have : decide (x ≠ y) = true := by simp [Prod.ext_iff, h2]
      rw [this] at h
      exact h
  · rw [show (x.1 == y.1) = false from beq_eq_false_iff_ne.mpr h1]
    rw [if_pos (show (!false) = true from rfl)]
    refine wpAny_bind (wpAny_pure (wpAny_pure (wpAny_pure (wpAny_pure ⟨_, rfl, (fun e => nomatch e), ?_⟩))))
    have : decide (x ≠ y) = true := by simp [Prod.ext_iff, h1]
    rw [this] at h
    exact h
section
variable {h₀ : Heap} {L : Addr} {m : Str → Option Value} {news : List (Addr × Obj)} {t u t' u' : Tok} {a b c d : Int}
theorem tup_geN {Q : Value → Shared → Prop} (F : Fr h₀ L s.heap m) (N : News h₀ L s.heap news) (hu : A.units < cLine) (hx : (p, { cls := .type "tuple", data := .seq #[.int a t, .int b u] }) ∈ news) (hy : (q, { cls := .type "tuple", data := .seq #[.int c t', .int d u'] }) ∈ news) (h : Q (.bool (geB (a, b) (c, d))) s) : wpAny (model prog w) A (compareOp .GtE (.ref p) (.ref q)) Q E s :=
  tup_ge (x := (a, b)) (y := (c, d)) hu ⟨_, _, N.get hx⟩ ⟨_, _, N.get hy⟩ h
theorem tup_neN {Q : Value → Shared → Prop} (F : Fr h₀ L s.heap m) (N : News h₀ L s.heap news) (hu : A.units < cLine) (hx : (p, { cls := .type "tuple", data := .seq #[.int a t, .int b u] }) ∈ news) (hy : (q, { cls := .type "tuple", data := .seq #[.int c t', .int d u'] }) ∈ news) (h : Q (.bool (decide ((a, b) ≠ (c, d)))) s) : wpAny (model prog w) A (compareOp .NotEq (.ref p) (.ref q)) Q E s :=
  tup_ne (x := (a, b)) (y := (c, d)) hu ⟨_, _, N.get hx⟩ ⟨_, _, N.get hy⟩ h
end
end

end PB
namespace PB
theorem fresh10 : (if True then True else True) := by
  w_top off
  try (walk1; trivial)
  try simp
section
variable {w : World} {mean : ExcName → Option Value} {mg mb : Str → Option Value} {dp un : Nat} {gd : Option (List Code)} {cn : Str} {cs : Scope} {a : Addr} {ccd : Value} {cl : List (Str × Addr)} {outer : List Env} {A₀ : Around} {base h₀ : Heap} {L : Addr} {m : Str → Option Value} {s : Shared} {Q E : Value → Shared → Prop} {news : List (Addr × Obj)}
/-- what two octets of D at i say -/
noncomputable def two (D : List Int) (i : Int) : Int := 256 * D.getD i.toNat 0 + D.getD (i + 1).toNat 0
theorem two_tells {data : Array UInt8} {D : List Int} {dt it : Tok} {i : Int} (hb : KBw.bInts data = D) (hD : D.length < 5000)
  (B : Below A₀ base outer h₀) (F : Fr h₀ L s.heap m) (X : (hd.heap_1 w.params).In h₀) (N : News h₀ L s.heap (news)) (T : Top hd.view_1 (looseW hd.view_1 [Str.ofString "ShapeError", Str.ofString "write_kern"]) mean mg mb h₀) (hk : cs.kind = .function) (hroom : dp + 1 < recursionLimit) (hun : un + 8 < cLine) (hi0 : 0 ≤ i) (hi1 : i + 1 < D.length)
  (hret : ∀ t h' tk', Fr h₀ L h' m → News h₀ L h' news → Q (.int (two D i) t) { s with heap := h', toks := tk' }) :
  wpAny (model PySem.Challenge.rw_pb0162_01.row.prog w) (ktrTop dp un gd cn cs L a ccd cl outer) (call (.ref 205) [.bytes data dt, .int i it]) Q E s := by
  k_with_none
  revert X; k_fill; intro X
  refine wpAny_call ?_
  k_dflt cell_enter
  k_steps
  exact hret _ _ _ (by k_asm) (by k_asm)

theorem pair_tells {data : Array UInt8} {D : List Int} {dt it : Tok} {i : Int} (hb : KBw.bInts data = D) (hD : D.length < 5000)
  (B : Below A₀ base outer h₀) (F : Fr h₀ L s.heap m) (X : (hd.heap_1 w.params).In h₀) (N : News h₀ L s.heap (news)) (T : Top hd.view_1 (looseW hd.view_1 [Str.ofString "ShapeError", Str.ofString "write_kern"]) mean mg mb h₀) (hk : cs.kind = .function) (hroom : dp + 2 < recursionLimit) (hun : un + 16 < cLine) (hi0 : 0 ≤ i) (hi1 : i + 3 < D.length)
  (hret : ∀ P t u h' tk', Fr h₀ L h' m → News h₀ L h' ((P, { cls := .type "tuple", data := .seq #[.int (two D i) t, .int (two D (i + 2)) u] }) :: news) → (∀ p ∈ news, p.1 < P) → Q (.ref P) { s with heap := h', toks := tk' }) :
  wpAny (model PySem.Challenge.rw_pb0162_01.row.prog w) (ktrTop dp un gd cn cs L a ccd cl outer) (call (.ref 212) [.bytes data dt, .int i it]) Q E s := by
  k_with_none
  (k_with "call ref" => (k_here; (with_reducible show wpAny _ _ (call (Value.ref 205) [Value.bytes _ _, Value.int _ _]) _ _ _); k_dflt (refine' two_tells (by assumption) (by omega) (by k_asm) (by k_asm) (by k_asm) (by k_asm) (by k_asm) (by first | exact rfl | assumption) (by ktr_room) (by ktr_units) (by omega) (by omega) ?_); intro t9Z h9Z tk9Z F9Z N9Z; (try dsimp only); (try k_fold)))
  revert X; k_fill; intro X
  refine wpAny_call ?_
  k_dflt cell_enter
  k_steps
  exact hret _ _ _ _ _ (by k_asm) (by k_asm) (by assumption)
end

end PB
namespace PB
theorem fresh11 : (if True then True else True) := by
  w_top off
  try (walk1; trivial)
  try simp
/-- a subtable of n pairs at b: its header's words, its octets within D -/
structure Sub (D : List Int) (b : Int) (n p : Nat) : Prop where
  b0 : 0 ≤ b
  hi : b + 14 + 6 * n ≤ D.length
  h6 : two D (b + 6) = n
  h8 : two D (b + 8) = 6 * ((2 ^ p : Nat) : Int)
  h10 : two D (b + 10) = p
  h12 : two D (b + 12) = 6 * ((n - 2 ^ p : Nat) : Int)
  lo : 2 ^ p ≤ n
  up : n < 2 ^ (p + 1)
  p3 : p ≤ 3
/-- the pair at place j behind first -/
noncomputable def keyAt (D : List Int) (first : Int) (j : Nat) : Int × Int := (two D (first + 6 * j), two D (first + 6 * j + 2))
noncomputable def srch (K : Nat → Int × Int) (n : Nat) (pr : Int × Int) : Nat → Nat → Nat
  | 0, j => j
  | k + 1, j => if j + 2 ^ k < n ∧ geB pr (K (j + 2 ^ k)) = true then srch K n pr k (j + 2 ^ k) else srch K n pr k j
noncomputable def srch0 (K : Nat → Int × Int) (n p : Nat) (pr : Int × Int) : Nat :=
  srch K n pr p (if 0 < n - 2 ^ p ∧ geB pr (K (n - 2 ^ p)) = true then n - 2 ^ p else 0)
noncomputable def signed (v : Int) : Int := if 32767 < v then v - 65536 else v
noncomputable def found (D : List Int) (b : Int) (n p : Nat) (pr : Int × Int) : Option Int :=
  if keyAt D (b + 14) (srch0 (keyAt D (b + 14)) n p pr) = pr then some (signed (two D (b + 14 + 6 * (srch0 (keyAt D (b + 14)) n p pr : Nat) + 4))) else none
noncomputable def optV : Option Int → Tok → Value
  | none, _ => .none
  | some v, t => .int v t
/-- what holds behind len halvings -/
structure FJ (D : List Int) (b : Int) (n p : Nat) (pr : Int × Int) (len : Nat) (at1 span : Int) : Prop where
  ex : ∃ j : Nat, at1 = b + 14 + 6 * (j : Int) ∧ span = 6 * ((2 ^ (p - len) : Nat) : Int) ∧ j < n ∧ len ≤ p ∧ srch (keyAt D (b + 14)) n pr (p - len) j = srch0 (keyAt D (b + 14)) n p pr
/-- the same in numbers -/
noncomputable abbrev FL (b : Int) (n p len : Nat) (at1 span : Int) : Prop := (b + 14 ≤ at1 ∧ (at1 - b - 14) % 6 = 0 ∧ at1 < b + 14 + 6 * n) ∧ ((len : Int) < p → Int.fdiv span 2 % 6 = 0 ∧ 6 ≤ Int.fdiv span 2)
section
variable {D : List Int} {b : Int} {n p len : Nat} {pr : Int × Int} {at1 span : Int}
theorem FJ.half (h : FJ D b n p pr len at1 span) (hlt : (len : Int) < p) : ∃ k j : Nat, p - len = k + 1 ∧ p - (len + 1) = k ∧ at1 = b + 14 + 6 * (j : Int) ∧ Int.fdiv span 2 = 6 * ((2 ^ k : Nat) : Int) ∧ j < n ∧ srch (keyAt D (b + 14)) n pr (k + 1) j = srch0 (keyAt D (b + 14)) n p pr := by
  obtain ⟨j, e1, e2, hj, hl, e3⟩ := h.ex
  obtain ⟨k, hk⟩ : ∃ k, p - len = k + 1 := ⟨p - len - 1, by omega⟩
  refine ⟨k, j, hk, by omega, e1, ?_, hj, hk ▸ e3⟩
  rw [e2, hk, Nat.pow_succ, Int.fdiv_eq_ediv_of_nonneg _ (by decide)]
  omega
theorem FJ.lin (h : FJ D b n p pr len at1 span) : FL b n p len at1 span := by
  refine ⟨?_, fun hlt => ?_⟩
  · obtain ⟨j, rfl, rfl, hj, hl, _⟩ := h.ex
    exact ⟨by omega, by omega, by omega⟩
  · obtain ⟨k, j, _, _, _, e4, _⟩ := h.half hlt
    have : 0 < 2 ^ k := Nat.pow_pos (by decide)
    rw [e4]
    omega
theorem FJ.both (h : FJ D b n p pr len at1 span) : FJ D b n p pr len at1 span ∧ FL b n p len at1 span := ⟨h, h.lin⟩
theorem FJ.start0 {v u : Int} (h8 : v = 6 * ((2 ^ p : Nat) : Int)) (h12 : u = 6 * ((n - 2 ^ p : Nat) : Int)) (hn : 2 ^ p ≤ n) (h0 : ¬ (0 < u ∧ geB (pr.1, pr.2) (two D (b + 14 + u), two D (b + 14 + u + 2)) = true)) : FJ D b n p pr 0 (b + 14) v := by
  have : 0 < 2 ^ p := Nat.pow_pos (by decide)
  refine ⟨⟨0, by omega, by simpa using h8, by omega, Nat.zero_le _, ?_⟩⟩
  rw [Nat.sub_zero, srch0, if_neg]
  intro q
  refine h0 ⟨by omega, ?_⟩
  rw [h12]; exact q.2
theorem FJ.start1 {v u : Int} (h8 : v = 6 * ((2 ^ p : Nat) : Int)) (h12 : u = 6 * ((n - 2 ^ p : Nat) : Int)) (h1 : 0 < u) (h2 : geB (pr.1, pr.2) (two D (b + 14 + u), two D (b + 14 + u + 2)) = true) : FJ D b n p pr 0 (b + 14 + u) v := by
  have : 0 < 2 ^ p := Nat.pow_pos (by decide)
  refine ⟨⟨n - 2 ^ p, by omega, by simpa using h8, by omega, Nat.zero_le _, ?_⟩⟩
  rw [Nat.sub_zero, srch0, if_pos]
  refine ⟨by omega, ?_⟩
  rw [h12] at h2; exact h2
theorem FJ.yes (h : FJ D b n p pr len at1 span) (hlt : (len : Int) < p) (c1 : at1 + Int.fdiv span 2 < b + 14 + 6 * n) (c2 : geB pr (two D (at1 + Int.fdiv span 2), two D (at1 + Int.fdiv span 2 + 2)) = true) :
    FJ D b n p pr (len + 1) (at1 + Int.fdiv span 2) (Int.fdiv span 2) := by
  obtain ⟨k, j, e1, e2, e3, e4, hj, e5⟩ := h.half hlt
  rw [e4, e3] at c1 c2
  rw [e4, e3]
  have e6 : b + 14 + 6 * (j : Int) + 6 * ((2 ^ k : Nat) : Int) = b + 14 + 6 * ((j + 2 ^ k : Nat) : Int) := by omega
  rw [e6] at c1 c2
  refine ⟨⟨j + 2 ^ k, e6, by rw [e2], by omega, by omega, ?_⟩⟩
  rw [e2, ← e5, srch, if_pos ⟨by omega, c2⟩]
theorem FJ.no (h : FJ D b n p pr len at1 span) (hlt : (len : Int) < p) (c : ¬ (at1 + Int.fdiv span 2 < b + 14 + 6 * n ∧ geB pr (two D (at1 + Int.fdiv span 2), two D (at1 + Int.fdiv span 2 + 2)) = true)) :
    FJ D b n p pr (len + 1) at1 (Int.fdiv span 2) := by
  obtain ⟨k, j, e1, e2, e3, e4, hj, e5⟩ := h.half hlt
  rw [e4, e3] at c
  rw [e4, e3]
  have e6 : b + 14 + 6 * (j : Int) + 6 * ((2 ^ k : Nat) : Int) = b + 14 + 6 * ((j + 2 ^ k : Nat) : Int) := by omega
  rw [e6] at c
  refine ⟨⟨j, rfl, by rw [e2], by omega, by omega, ?_⟩⟩
  rw [e2, ← e5, srch, if_neg fun q => c ⟨by omega, q.2⟩]
theorem FJ.yesA {pre : List Int} {x c6 : Int} (h6 : c6 = n) (h : FJ D b n p pr pre.length at1 span) (hlt : (pre.length : Int) < p) (c1 : at1 + Int.fdiv span 2 < b + 14 + 6 * c6) (c2 : geB (pr.1, pr.2) (two D (at1 + Int.fdiv span 2), two D (at1 + Int.fdiv span 2 + 2)) = true) :
    FJ D b n p pr (pre ++ [x]).length (at1 + Int.fdiv span 2) (Int.fdiv span 2) ∧ FL b n p (pre ++ [x]).length (at1 + Int.fdiv span 2) (Int.fdiv span 2) := by
  subst h6
  rw [List.length_append]
  exact (h.yes hlt c1 c2).both
theorem FJ.noA {pre : List Int} {x c6 : Int} (h6 : c6 = n) (h : FJ D b n p pr pre.length at1 span) (hlt : (pre.length : Int) < p) (c : ¬ (at1 + Int.fdiv span 2 < b + 14 + 6 * c6 ∧ geB (pr.1, pr.2) (two D (at1 + Int.fdiv span 2), two D (at1 + Int.fdiv span 2 + 2)) = true)) :
    FJ D b n p pr (pre ++ [x]).length at1 (Int.fdiv span 2) ∧ FL b n p (pre ++ [x]).length at1 (Int.fdiv span 2) := by
  subst h6
  rw [List.length_append]
  exact (h.no hlt c).both
theorem FJ.noB {pre : List Int} {x c6 : Int} (h6 : c6 = n) (h : FJ D b n p pr pre.length at1 span) (hlt : (pre.length : Int) < p) (c : geB (pr.1, pr.2) (two D (at1 + Int.fdiv span 2), two D (at1 + Int.fdiv span 2 + 2)) = false) :
    FJ D b n p pr (pre ++ [x]).length at1 (Int.fdiv span 2) ∧ FL b n p (pre ++ [x]).length at1 (Int.fdiv span 2) := h.noA h6 hlt fun q => by rw [c] at q; cases q.2
theorem FJ.start0B {v u : Int} (h8 : v = 6 * ((2 ^ p : Nat) : Int)) (h12 : u = 6 * ((n - 2 ^ p : Nat) : Int)) (hn : 2 ^ p ≤ n) (h0 : geB (pr.1, pr.2) (two D (b + 14 + u), two D (b + 14 + u + 2)) = false) : FJ D b n p pr 0 (b + 14) v :=
  FJ.start0 h8 h12 hn fun q => by rw [h0] at q; cases q.2
theorem FJ.end {k : Nat} (hk : k = p) (h : FJ D b n p pr k at1 span) : at1 = b + 14 + 6 * (srch0 (keyAt D (b + 14)) n p pr : Nat) ∧ srch0 (keyAt D (b + 14)) n p pr < n := by
  subst hk
  obtain ⟨j, e1, _, hj, _, e3⟩ := h.ex
  rw [Nat.sub_self, srch] at e3
  subst e3
  exact ⟨e1, hj⟩
theorem FJ.none {k : Nat} (hk : k = p) (h : FJ D b n p pr k at1 span) (c : (pr.1, pr.2) ≠ (two D at1, two D (at1 + 2)) ∨ (two D at1, two D (at1 + 2)) ≠ (pr.1, pr.2)) : found D b n p pr = none := by
  obtain ⟨e, _⟩ := h.end hk
  unfold found
  rw [if_neg]
  intro q
  rw [e] at c
  rcases c with c | c
  · exact c q.symm
  · exact c q
theorem FJ.some {k : Nat} (hk : k = p) (h : FJ D b n p pr k at1 span) (c : (two D at1, two D (at1 + 2)) = (pr.1, pr.2)) : found D b n p pr = some (signed (two D (at1 + 4))) := by
  obtain ⟨e, _⟩ := h.end hk
  unfold found
  rw [e] at c
  rw [if_pos (show keyAt D (b + 14) (srch0 (keyAt D (b + 14)) n p pr) = pr from c), e]
end
section
variable {w : World} {mean : ExcName → Option Value} {mg mb : Str → Option Value} {dp un : Nat} {gd : Option (List Code)} {cn : Str} {cs : Scope} {a : Addr} {ccd : Value} {cl : List (Str × Addr)} {outer : List Env} {A₀ : Around} {base h₀ : Heap} {L : Addr} {m : Str → Option Value} {s : Shared} {Q E : Value → Shared → Prop} {news : List (Addr × Obj)}
theorem found_tells {data : Array UInt8} {D : List Int} {dt it t0 u0 : Tok} {b : Int} {n p : Nat} {pa : Addr} {pr : Int × Int} (hb : KBw.bInts data = D) (hD : D.length < 5000)
  (B : Below A₀ base outer h₀) (F : Fr h₀ L s.heap m) (X : (hd.heap_1 w.params).In h₀) (N : News h₀ L s.heap (news)) (T : Top hd.view_1 (looseW hd.view_1 [Str.ofString "ShapeError", Str.ofString "write_kern"]) mean mg mb h₀) (hk : cs.kind = .function) (hroom : dp + 3 < recursionLimit) (hun : un + 24 < cLine) (hp : (pa, { cls := .type "tuple", data := .seq #[.int pr.1 t0, .int pr.2 u0] }) ∈ news) (hs : Sub D b n p)
  (hret : ∀ t h' tk', Fr h₀ L h' m → News h₀ L h' news → Q (optV (found D b n p pr) t) { s with heap := h', toks := tk' }) :
  wpAny (model PySem.Challenge.rw_pb0162_01.row.prog w) (ktrTop dp un gd cn cs L a ccd cl outer) (call (.ref 219) [.bytes data dt, .int b it, .ref pa]) Q E s := by
  k_with_none
  (k_with "call ref" => (k_here; (with_reducible show wpAny _ _ (call (Value.ref 205) [Value.bytes _ _, Value.int _ _]) _ _ _); k_dflt (refine' two_tells (by assumption) (by omega) (by k_asm) (by k_asm) (by k_asm) (by k_asm) (by k_asm) (by first | exact rfl | assumption) (by ktr_room) (by ktr_units) (by omega) (by omega) ?_); intro t9Z h9Z tk9Z F9Z N9Z; (try dsimp only); (try k_fold)))
  (k_with "call ref" => (k_here; (with_reducible show wpAny _ _ (call (Value.ref 212) [Value.bytes _ _, Value.int _ _]) _ _ _); k_dflt (refine' pair_tells (by assumption) (by omega) (by k_asm) (by k_asm) (by k_asm) (by k_asm) (by k_asm) (by first | exact rfl | assumption) (by ktr_room) (by ktr_units) (by omega) (by omega) ?_); intro P9Z t9Z u9Z h9Z tk9Z F9Z N9Z l9Z; (try dsimp only); (try k_fold)))
  (k_with "compareOp GtE ref ref" => (k_here; (with_reducible show wpAny _ _ (compareOp CmpOp.GtE (Value.ref _) (Value.ref _)) _ _ _); k_dflt (refine' tup_geN (by k_asm) (by k_asm) (by ktr_units) (by first | k_mem | (repeat' (first | assumption | exact List.Mem.head _ | refine List.Mem.tail _ ?_ | refine List.mem_append_left _ ?_))) (by first | k_mem | (repeat' (first | assumption | exact List.Mem.head _ | refine List.Mem.tail _ ?_ | refine List.mem_append_left _ ?_))) ?_); (try dsimp only)))
  (k_with "compareOp NotEq ref ref" => (k_here; (with_reducible show wpAny _ _ (compareOp CmpOp.NotEq (Value.ref _) (Value.ref _)) _ _ _); k_dflt (refine' tup_neN (by k_asm) (by k_asm) (by ktr_units) (by first | k_mem | (repeat' (first | assumption | exact List.Mem.head _ | refine List.Mem.tail _ ?_ | refine List.mem_append_left _ ?_))) (by first | k_mem | (repeat' (first | assumption | exact List.Mem.head _ | refine List.Mem.tail _ ?_ | refine List.mem_append_left _ ?_))) ?_); (try dsimp only)))
  (k_with "pyIter ref" => (refine Stop.out ?_))
  obtain ⟨hs0, hsH, hs6, hs8, hs10, hs12, hslo, hsup, hs3⟩ := hs
  revert X; k_fill; intro X
  refine wpAny_call ?_
  k_dflt cell_enter
  k_steps
  all_goals (
    refine Stop.go ?_
    (k_with "state" => first
      | exact (FJ.start1 hs8 hs12 (by omega) (by assumption)).both
      | exact (FJ.start0 hs8 hs12 hslo (fun q => by have q1 := q.1; omega)).both
      | exact (FJ.start0B hs8 hs12 hslo (by assumption)).both)
    k_state (fun (pre : List Int) (at1 span : Int) => FJ D b n p pr pre.length at1 span ∧ FL b n p pre.length at1 span) "at" "span"
    · (k_with "state" => first
        | exact FJ.noB hs6 (by assumption) (by omega) (by assumption)
        | exact FJ.yesA hs6 (by assumption) (by omega) (by assumption) (by assumption)
        | exact FJ.noA hs6 (by assumption) (by omega) (fun q => by have q1 := q.1; omega))
      k_steps
    · have hLen : (rangeKs 0 (two D (b + 10) - 0).toNat).length = p := by rw [rangeKs_length]; omega
      k_steps
      · rw [FJ.none hLen (by assumption) (.inr (by assumption))] at hret
        exact hret 0 _ _ (by k_asm) (newsDrop (by k_asm) (by intro p9 hp9; (repeat' (first | exact hp9 | exact List.Mem.head _ | refine List.Mem.tail _ ?_ | refine List.mem_append_left _ ?_))))
      · rw [FJ.some hLen (by assumption) (Classical.not_not.mp (by assumption)), signed, if_pos (by assumption)] at hret
        exact hret _ _ _ (by k_asm) (newsDrop (by k_asm) (by intro p9 hp9; (repeat' (first | exact hp9 | exact List.Mem.head _ | refine List.Mem.tail _ ?_ | refine List.mem_append_left _ ?_))))
      · rw [FJ.some hLen (by assumption) (Classical.not_not.mp (by assumption)), signed, if_neg (by assumption)] at hret
        exact hret _ _ _ (by k_asm) (newsDrop (by k_asm) (by intro p9 hp9; (repeat' (first | exact hp9 | exact List.Mem.head _ | refine List.Mem.tail _ ?_ | refine List.mem_append_left _ ?_)))))

end

end PB
namespace PB
theorem fresh12 : (if True then True else True) := by
  w_top off
  try (walk1; trivial)
  try simp
section
variable {prog : Program} {w : World} {A : Around} {E : Value → Shared → Prop} {s : Shared} {Q : Value → Shared → Prop} {a n : Int} {t u : Tok}
theorem rsh16 (h : Q (.int (a / 65536) s.toks) { s with toks := s.toks + 1 }) : wpAny (model prog w) A (binaryOp .RShift (.int a t) (.int (8 * 2) u)) Q E s := by
  refine rshift_int (by decide) ?_
  rw [show a.fdiv (2 ^ (8 * 2 : Int).toNat) = a / 65536 from by rw [Int.fdiv_eq_ediv_of_nonneg _ (by decide)]; rfl]
  exact h
theorem rshL (k : Nat) (hk : n = k) (h : Q (.int (a / 2 ^ k) s.toks) { s with toks := s.toks + 1 }) : wpAny (model prog w) A (binaryOp .RShift (.int a t) (.int n u)) Q E s := by
  subst hk
  refine rshift_int (by omega) ?_
  rw [Int.toNat_natCast, Int.fdiv_eq_ediv_of_nonneg _ (Int.pow_nonneg (by decide))]
  exact h
theorem andL (k : Nat) (hk : n = 2 ^ k - 1) (h : Q (.int (a % 2 ^ k) s.toks) { s with toks := s.toks + 1 }) : wpAny (model prog w) A (binaryOp .BitAnd (.int a t) (.int n u)) Q E s := by
  subst hk
  refine and_int ?_
  rw [kbt_mask]
  exact h
end
section
open LCg
variable {prog : Program} {w : World} {A : Around} {E : Value → Shared → Prop} {s : Shared} {h₀ : Heap} {L : Addr} {m : Str → Option Value} {env : Env}
theorem stepWalks {I : Addr} (hh : A.handled = none) (a c : Int) (n : Nat) : Walks prog w A I [I] [I] n (fun i v => ∃ t, v = .int (a + (i : Int) * c) t) (fun i h => IsRangeIter h I (a + (i : Nat) * c) ((n : Int) - (i : Nat)) c) :=
  let W : Walks prog w A I [I] [I] n (fun i v => i < n ∧ ∃ t, v = .int (a + i * c) t) (fun i h => IsRangeIter h I (a + (i : Nat) * c) ((n : Int) - (i : Nat)) c) := (Walks.range hh I a c n).bound
  { sub := W.sub, frame := W.frame, done := W.done, self := W.self,
    item := fun i s Q E hi st hQ => W.item i s Q E hi st fun v h' tk hP => hQ v h' tk (by obtain ⟨_, t, rfl⟩ := hP; exact ⟨t, rfl⟩) }
theorem stepSt {I : Addr} {a c : Int} {n : Nat} : ∀ i (h h' : Heap) (o : Obj) (nw : List (Addr × Obj)), IsRangeIter h I (a + (i : Nat) * c) ((n : Int) - (i : Nat)) c → h.get? I = some o → h'.get? I = some o → (∀ b o, h₀.get? b = some o → h'.get? b = some o) → News h₀ L h' nw → True → IsRangeIter h' I (a + (i : Nat) * c) ((n : Int) - (i : Nat)) c :=
  fun i h h' o nw st e e' _ _ _ => by
    have st' : h.get? I = some _ := st
    show h'.get? I = some _
    rw [e', ← e]; exact st'
/-- a range of any step as a comprehension's source -/
noncomputable def SrcS (prog : Program) (w : World) (A : Around) (h₀ : Heap) (L : Addr) (m : Str → Option Value) (env : Env) (elt : Expr) (x : Str) (scope : Scope) (cl : List (Str × Addr)) (Fin : Shared → List Value → List (Addr × Obj) → Prop) (xv : Value) (s₁ : Shared) : Prop :=
  ∃ r a b c t u v n news, xv = .ref r ∧ A.handled = none ∧ Fr h₀ L s₁.heap m ∧ News h₀ L s₁.heap news ∧ IsRange s₁.heap r a b c t u v ∧ Builtin.Range.small a b c = true ∧ Builtin.Range.rangeSize a b c = ((n : Nat) : Int) ∧ n ≤ sizeLine ∧
    ∀ s₂ : Shared, (∃ h, s₂ = { s₁ with heap := h }) → CompRest prog w A h₀ L m env elt x scope cl s₂ (fun _ => True) (fun i v => ∃ t, v = .int (a + (i : Int) * c) t) (Fin s₂) n 0 [] news
theorem SrcS.intro {elt : Expr} {x : Str} {scope : Scope} {cl : List (Str × Addr)} {Fin : Shared → List Value → List (Addr × Obj) → Prop} {r : Addr} {a b c : Int} {t u v : Tok} {n : Nat} {news : List (Addr × Obj)} {s₁ : Shared}
    (hh : A.handled = none) (F : Fr h₀ L s₁.heap m) (N : News h₀ L s₁.heap news) (hr : IsRange s₁.heap r a b c t u v) (hsm : Builtin.Range.small a b c = true) (hn : Builtin.Range.rangeSize a b c = ((n : Nat) : Int)) (hsz : n ≤ sizeLine)
    (h : ∀ g, CompRest prog w A h₀ L m env elt x scope cl { s₁ with heap := g } (fun _ => True) (fun i v => ∃ t, v = .int (a + (i : Int) * c) t) (Fin { s₁ with heap := g }) n 0 [] news) :
    SrcS prog w A h₀ L m env elt x scope cl Fin (.ref r) s₁ := ⟨r, a, b, c, t, u, v, n, news, rfl, hh, F, N, hr, hsm, hn, hsz, fun _ ⟨g, e⟩ => e ▸ h g⟩
theorem ListComp_S {elt iter : Expr} {x : Str} {px : Pos} {scope : Scope} {cl : List (Str × Addr)} {pos : Pos} {Q : Value → Shared → Prop} (F₀ : Fr h₀ L s.heap m)
    (hclos : closureFor scope env = pure cl) (hcell : ∀ y ∈ scope.names, y.2 ≠ .cell) (hkind : scope.kind = .function)
    (hnames : ∀ y ∈ scope.names, y.2 = .local → scope.names.lookup y.1 = some .local) (hx : scope.names.lookup x = some .local)
    (h : wpAny (model prog w) A (eval iter env) (SrcS prog w A h₀ L m env elt x scope cl (fun s₂ => FinE h₀ L m s₂ Q)) E s)
    (hs : ∀ x, foldedSetIterable iter env x = pure x := by intro _; rfl) :
    wpAny (model prog w) A (eval (.ListComp elt [⟨.Name x px, iter, [], 0⟩] scope pos) env) Q E s := by
  rw [eval_ListComp]
  refine wpAny_comprehension_free (use := none) rfl hs hclos hkind hnames (wpAny_mono h (fun xv s₁ h₁ => ?_) fun _ _ e => e)
  obtain ⟨r, a, b, c, t, u, v, n, news, rfl, hh, F, N, hr, hsm, hn, hsz, R⟩ := h₁
  refine wpAny_pyIter_range hr hsm ?_
  refine block_U (stepWalks hh a c n) hsz (fun i h st => ⟨_, st⟩) stepSt hcell hkind hx (by show IsRangeIter _ _ _ _ _; rw [hn]; simpa using Heap.get?_push_size _ rfl) (fun b hb => ?_)
    (F.keeps fun _ _ e => Heap.get?_push_of_some _ e) (N.grown fun _ _ e => Heap.get?_push_of_some _ e) (Nat.ne_of_lt F.ns.lt) (next_is_new F) (fun p hp => Nat.ne_of_lt (Heap.lt_size (N p hp).1)) trivial (R _ ⟨_, rfl⟩) ?_
  · rw [List.mem_singleton.mp hb]
    show s₁.heap.objs.size < (s₁.heap.push _).objs.size
    rw [Heap.size_push]; exact Nat.lt_succ_self _
  · intro D C h tk m' ys news' F' N' o1 hn hC₀ hD₀ hCL hDL hCD offC fin
    refine ⟨m', hn, fun h'' hs'' => fin D h'' tk (F'.change hs'' hCL hC₀) (fun p hp => ?_) o1⟩
    refine ⟨hs''.extBut _ _ ?_ (N' p hp).1, (N' p hp).2⟩
    rcases List.mem_cons.mp hp with rfl | hp
    · exact Ne.symm hCD
    · exact offC p hp
end
theorem octB {v : Int} (h0 : 0 ≤ v) (h1 : v < 65536) : KBw.bInts #[(v / 256 % 256).toNat.toUInt8, (v / 1 % 256).toNat.toUInt8] = [v / 256, v % 256] := by
  show [(((v / 256 % 256).toNat.toUInt8.toNat : Nat) : Int), (((v / 1 % 256).toNat.toUInt8.toNat : Nat) : Int)] = _
  have e : ∀ n : Nat, n.toUInt8.toNat = n % 256 := fun n => by simp
  rw [e, e]
  congr 1
  · omega
  · congr 1
    omega
section
variable {w : World} {mean : ExcName → Option Value} {mg mb : Str → Option Value} {dp un : Nat} {gd : Option (List Code)} {cn : Str} {cs : Scope} {a : Addr} {ccd : Value} {cl : List (Str × Addr)} {outer : List Env} {A₀ : Around} {base h₀ : Heap} {L : Addr} {m : Str → Option Value} {s : Shared} {Q E : Value → Shared → Prop} {news : List (Addr × Obj)}
theorem octs_tells {v : Int} {t0 t1 : Tok} (B : Below A₀ base outer h₀) (F : Fr h₀ L s.heap m) (X : (hd.heap_1 w.params).In h₀) (N : News h₀ L s.heap (news)) (T : Top hd.view_1 (looseW hd.view_1 [Str.ofString "ShapeError", Str.ofString "write_kern"]) mean mg mb h₀) (hk : cs.kind = .function) (hroom : dp + 2 < recursionLimit) (hun : un + 16 < cLine) (h0 : 0 ≤ v) (h1 : v < 65536)
  (hret : ∀ b t h' tk', KBw.bInts b = [v / 256, v % 256] → Fr h₀ L h' m → News h₀ L h' news → Q (.bytes b t) { s with heap := h', toks := tk' }) :
  wpAny (model PySem.Challenge.rw_pb0162_01.row.prog w) (ktrTop dp un gd cn cs L a ccd cl outer) (call (.ref 68) [.int v t0, .int 2 t1]) Q E s := by
  k_with_none
  (k_with "binaryOp RShift int int" => (k_here; first | (with_reducible refine rsh16 ?_) | ((refine rshL 8 (by decide) ?_); (try simp only [show (2 : Int) ^ 8 = 256 from rfl])) | ((refine rshL 0 (by decide) ?_); (try simp only [show (2 : Int) ^ 0 = 1 from rfl]))))
  (k_with "binaryOp BitAnd int int" => (k_here; (refine andL 8 (by decide) ?_); (try simp only [show (2 : Int) ^ 8 = 256 from rfl])))
  (k_with "SrcS" => (k_here; k_dflt (refine SrcS.intro (n := 2) (by rfl) (by k_asm) (by k_asm) (by assumption) (by decide) (by decide) (by rw [PySem.sizeLine_eq]; omega) ?_); intro g'Z))
  (k_with "eval ListComp" => (k_here; k_dflt (refine ListComp_S (F₀ := by k_asm) (by rfl) (by decide) (by rfl) (by decide) (by rfl) ?_)))
  (k_with "CompEnd" => (k_here; (refine LCg.CompEnd.intro (by k_asm) (by k_asm) _ (fun p hp => hp) (by first | assumption | (simp only [LCg.Off3, and_true]; assumption)) (by first | exact True.intro | assumption) ?_); (try dsimp only)))
  revert X; k_fill; intro X
  refine wpAny_call ?_
  k_dflt (refine' code_defC ?k1 ?k2 ?k3 ?k4 ?k5 ?kA ?kF ?kK ?k6 ?k7 ?k8 ?k9 ?kB ?kD ?_ ?c2 ?c3 ?c4; (case kA => exact rfl); (case kF => exact rfl); (case kK => assumption); (case k1 => k_asm); (case k2 => k_asm); (case k3 => k_asm); (case k4 => k_asm); (case k5 => k_asm); (case k6 => k_is); (case k7 => k_is); (case k8 => ktr_room); (case k9 => exact BindsTo.of_eq rfl); (case kB => exact rfl); (case kD => decide +kernel); (case c2 => exact rfl); (case c3 => exact rfl); (case c4 => exact rfl); k_whole; intro g' L' h' tk' cells' FG' F' N' Y' B' X' T' l1; (try k_lt l1); k_cells Y'; (try simp only [List.cons_append, List.nil_append] at N'); (try dsimp only); (try k_lift B'); (try k_fold))
  k_steps
  exact hret _ _ _ _ (octB h0 h1) (by k_asm) (newsDrop (by k_asm) (by intro p9 hp9; (repeat' (first | exact hp9 | exact List.Mem.head _ | refine List.Mem.tail _ ?_ | refine List.mem_append_left _ ?_))))
end

end PB
namespace PB
theorem fresh13 : (if True then True else True) := by
  w_top off
  try (walk1; trivial)
  try simp
section
variable {prog : Program} {w : World} {A : Around} {E : Value → Shared → Prop} {s : Shared} {K : Frag} {C L fI : Addr} {h₀ : Heap} {m : Str → Option Value} {news : List (Addr × Obj)} {rest : List Value}
theorem cls_X {kw : List (Str × Value)} {Q : Value → Shared → Prop} (F : Fr h₀ L s.heap m) (N : News h₀ L s.heap news) (X₀ : K.In h₀) (hm : makesIn K C = true)
    (hi : findIn K (.ref C) "__init__" = some (some (.ref fI))) (hf : isFn K (.ref fI) = true)
    (h : ∀ x dx h', Fr h₀ L h' m → News h₀ L h' ((x, instObj C dx) :: (dx, emptyDict) :: news) → (∀ p ∈ news, p.1 < dx) → dx < x →
      codeX (model prog w) (A.under (.builtin "type.__call__" ⟨.ref C :: rest, kw⟩)) (.call (.ref fI) ⟨.ref x :: rest, kw⟩) (InitBack x (fun r s' => match r with | .ok (.ret v) => Q v s' | .ok _ => False | .error e => E e s')) { s with heap := h' }) :
    wpX (model prog w) A (call (.ref C) rest kw) Q E s := wpX_call (make_X F N (X₀.keeps F.keep) hm hi (beq_iff_eq.mp hf) h)
theorem bytearray_XN {Q : Value → Shared → Prop} (F : Fr h₀ L s.heap m) (N : News h₀ L s.heap news)
    (h : ∀ b h', Fr h₀ L h' m → News h₀ L h' ((b, baObj #[]) :: news) → (∀ p ∈ news, p.1 < b) → Q (.ref b) { s with heap := h' }) : wpX (model prog w) A (call (.type "bytearray") []) Q E s := by
  refine bytearray_X fun h' k e => h _ h' (F.keeps k) (fun p hp => ?_) (fun p hp => Heap.lt_size (N p hp).1)
  rcases List.mem_cons.mp hp with rfl | hp
  · exact ⟨e, Nat.ne_of_gt F.ns.lt, next_is_new F⟩
  · exact (N.grown k) p hp
end
section
variable {w : World} {mean : ExcName → Option Value} {mg mb : Str → Option Value} {dp un : Nat} {gd : Option (List Code)} {cn : Str} {cs : Scope} {a : Addr} {ccd : Value} {cl : List (Str × Addr)} {outer : List Env} {A₀ : Around} {base h₀ : Heap} {L : Addr} {m : Str → Option Value} {s : Shared} {Q E : Value → Shared → Prop} {news : List (Addr × Obj)}
noncomputable abbrev outDict (b : Addr) (t : Tok) (k : Int) : Obj := dictOf [⟨k, .str "made" t, .ref b⟩] 1
theorem outNew_X (B : Below A₀ base outer h₀) (F : Fr h₀ L s.heap m) (X : (hd.heap_1 w.params).In h₀) (N : News h₀ L s.heap (news)) (T : Top hd.view_1 (looseW hd.view_1 [Str.ofString "ShapeError", Str.ofString "write_kern"]) mean mg mb h₀) (hk : cs.kind = .function) (hroom : dp + 3 < recursionLimit) (hun : un + 24 < cLine)
 (hret : ∀ x dx b t k h' tk', Fr h₀ L h' m → News h₀ L h' ((b, baObj #[]) :: (x, instObj 153 dx) :: (dx, outDict b t k) :: news) → (∀ p ∈ news, p.1 < dx) → dx < x → x < b → Q (.ref x) {s with heap := h', toks := tk'}) :
  wpX (model PySem.Challenge.rw_pb0162_01.row.prog w) (ktrTop dp un gd cn cs L a ccd cl outer) (call (.ref 153) []) Q NoE s := by
  k_with_none
  revert X; k_fill; intro X
  (refine' cls_X ?k1 ?k2 ?k3 ?k4 ?k5 ?k6 ?_; (case k1 => k_asm); (case k2 => k_asm); (case k3 => k_asm); (case k4 => k_is); (case k5 => k_is); (case k6 => k_is); k_whole; intro x' d' h' F' N' l1 l2; (try k_lt l1); (try k_lt2 l2); (try k_sweep))
  k_dflt (refine' codeX_def ?k1 ?k2 ?k3 ?k4 ?k5 ?kA ?kF ?kK ?k6 ?k7 ?k8 ?k9 ?kB ?_ ?c2 ?c3 ?c4 ?c5; (case kA => exact rfl); (case kF => exact rfl); (case kK => first | assumption | exact rfl); (case k1 => k_asm); (case k2 => k_asm); (case k3 => k_asm); (case k4 => k_asm); (case k5 => k_asm); (case k6 => k_is); (case k7 => k_is); (case k8 => ktr_room); (case k9 => first | exact BindsTo.of_eq rfl | exact binds_K (by k_in) rfl (by k_is) rfl rfl rfl); (case c5 => decide); (case kB => exact locs rfl); (case c2 => exact rfl); (case c3 => exact rfl); (case c4 => exact rfl); k_whole; intro g' L' h' FG' F' N' B' X' T'; (try dsimp only); (try k_lift B'); (try k_fold))
  refine wpX_execs_cons (wpX_Assign_Attribute (wpX_Call ?_))
  k_steps
  k_dflt (refine' callWith_XT0 (bytearray_XN ?k1 ?k2 ?_); (case k1 => k_asm); (case k2 => k_asm); k_whole; intro b' h' F' N' l3; (try k_lt l3); (try k_sweep))
  k_steps
  refine (show wpX _ _ (execs [] _) _ _ _ from wpX_execs_nil ?_)
  k_steps
  exact hret _ _ _ _ _ _ _ (by k_asm) (newsDrop (by k_asm) (by intro p9 hp9; (repeat' (first | exact hp9 | exact List.Mem.head _ | refine List.Mem.tail _ ?_ | refine List.mem_append_left _ ?_)))) (by assumption) (by assumption) l3.1
end

end PB
namespace PB
theorem fresh14 : (if True then True else True) := by
  w_top off
  try (walk1; trivial)
  try simp
theorem bj_slot : Slot "bytes" "join" "bytes.join" :=
  .of (owner := "bytes") (n := "join") (by rw [typeLookup_type, builtinLookup_eq_fast]; kernel_rfl) (by decide +kernel) (by decide +kernel) (by decide +kernel)
    (by first | exact .inl (by decide +kernel) | exact .inr (by decide +kernel)) (by rw [isSubtype_type]; kernel_rfl)
theorem bj_entry : entryFor table "bytes.join" = some Builtin.«bytes.join» := by first | exact entryFor_of_fast (by kernel_rfl) | exact entryFor_of_tree (by kernel_rfl)
theorem bj_args (a b : Value) : argsOk "bytes.join" ⟨[a, b], []⟩ := by unfold argsOk; kernel_rfl
theorem bj_type : typeOf (.builtin "bytes.join") = pure (.type "method_descriptor") := by show builtinType _ = _; rw [builtinType_eq_fast]; kernel_rfl
theorem bj_plainAttrs : PlainAttrs "bytes" :=
  ⟨⟨"bytes.__getattribute__", by rw [typeLookup_type, builtinLookup_eq_fast]; kernel_rfl, by decide +kernel⟩, by rw [typeLookup_type, builtinLookup_eq_fast]; kernel_rfl⟩
noncomputable abbrev bV (b : Array UInt8 × Tok) : Value := .bytes b.1 b.2
theorem joined_fold (ps : List (Array UInt8)) : Builtin.Bytes.joined #[] ps = ps.foldl (· ++ ·) #[] := by
  unfold Builtin.Bytes.joined
  have e : ∀ (ps : List (Array UInt8)) (k : Nat) (acc : Array UInt8), (ps.zipIdx k).foldl (fun out (x : Array UInt8 × Nat) => (if x.2 > 0 then out ++ #[] else out) ++ x.1) acc = ps.foldl (· ++ ·) acc := by
    intro ps
    induction ps with
    | nil => intro k acc; rfl
    | cons p ps ih =>
      intro k acc
      rw [List.zipIdx_cons, List.foldl_cons, List.foldl_cons]
      have : (if k > 0 then acc ++ #[] else acc) = acc := by split <;> simp
      rw [this]
      exact ih _ _
  exact e ps 0 #[]
theorem joined_size (bs : List (Array UInt8 × Tok)) : (Builtin.Bytes.joined #[] (bs.map (·.1))).size = bs.foldl (fun k b => k + b.1.size) 0 := by
  rw [joined_fold]
  have e : ∀ (bs : List (Array UInt8 × Tok)) (acc : Array UInt8), ((bs.map (·.1)).foldl (· ++ ·) acc).size = bs.foldl (fun k b => k + b.1.size) acc.size := by
    intro bs
    induction bs with
    | nil => intro acc; rfl
    | cons p ps ih =>
      intro acc
      rw [List.map_cons, List.foldl_cons, List.foldl_cons, ih, Array.size_append]
  exact e bs #[]
theorem joined_ints (ps : List (Array UInt8)) : KBw.bInts (Builtin.Bytes.joined #[] ps) = ps.flatMap KBw.bInts := by
  rw [joined_fold]
  have e : ∀ (ps : List (Array UInt8)) (acc : Array UInt8), KBw.bInts (ps.foldl (· ++ ·) acc) = KBw.bInts acc ++ ps.flatMap KBw.bInts := by
    intro ps
    induction ps with
    | nil => intro acc; simp
    | cons p ps ih =>
      intro acc
      rw [List.foldl_cons, ih, List.flatMap_cons, ← List.append_assoc]
      congr 1
      simp [KBw.bInts]
  rw [e]
  rfl
section
variable {M : Model} {A : Around} {E : Value → Shared → Prop} {s : Shared} {l : Addr}
theorem anyIf_false {α : Type} {c : Bool} {t e : Sem α} {Q : α → Shared → Prop} (hc : c = false) (h : wpAny M A e Q E s) : wpAny M A (if c = true then t else e) Q E s := by
  subst hc
  exact h
theorem bj_letGo {taken : List (Value × Option Value)} {keep : List Value} {Q : Unit → Shared → Prop} (ht : ∀ x ∈ taken, x.2 = none) (h : Q () s) : wpAny M A (Builtin.Bytes.joinLetGo taken keep) Q E s := by
  induction taken with
  | nil => exact wpAny_pure h
  | cons x r ih =>
    obtain ⟨v, u⟩ := x
    obtain rfl : u = none := ht _ (.head _)
    unfold Builtin.Bytes.joinLetGo
    refine wpAny_bind (wpAny_letGo ?_)
    exact ih fun x hx => ht x (.tail _ hx)
theorem bj_tree {bs : List (Array UInt8 × Tok)} {n : Nat} {o : Obj} {t0 : Tok} {Q : Value → Shared → Prop} (ho : s.heap.get? l = some o) (hc : o.cls = .type "list") (hd : o.data = .seq (bs.map bV).toArray n)
    (h2 : 2 ≤ bs.length) (hz : bs.foldl (fun k b => k + b.1.size) 0 ≤ sizeLine) (h : ∀ t k, Q (.bytes (Builtin.Bytes.joined #[] (bs.map (·.1))) t) { s with toks := k }) :
    wpAny M A (Builtin.Bytes.joinM .bytes ⟨[.bytes #[] t0, .ref l], []⟩) (fun fin s' => ∃ v, fin = .done (.ret v) ∧ Q v s') E s := by
  unfold Builtin.Bytes.joinM
  refine wpAny_bind (wpAny_of_eq (a := (Value.bytes #[] t0, Value.ref l)) rfl ?_)
  obtain ⟨b0, b1, br, rfl⟩ : ∃ b0 b1 br, bs = b0 :: b1 :: br := by
    rcases bs with _ | ⟨b0, _ | ⟨b1, br⟩⟩
    · simp at h2
    · simp at h2
    · exact ⟨_, _, _, rfl⟩
  have hT : s.TypeIs (.ref l) "list" := ⟨_, ho, hc⟩
  show wpAny M A (Builtin.Bytes.joinItems (.ref l) >>= _) _ E s
  refine wpAny_bind ?_
  unfold Builtin.Bytes.joinItems
  refine wpAny_bind (wpAny_typeOf hT ?_)
  refine wpAny_pure ?_
  refine wpAny_bind (wpAny_seqItems ho hd ?_)
  dsimp only
  rw [show (Builtin.Bytes.Kind.bytes == Builtin.Bytes.Kind.bytes) = true from rfl]
  rw [if_pos rfl]
  refine (show wpAny M A (forIn [:(List.map bV (b0 :: b1 :: br)).toArray.size] _ _ >>= _) _ E s from ?_)
  generalize hbs : b0 :: b1 :: br = bs at hd h2 hz h ⊢
  clear hbs
  refine wpAny_bind ?_
  rw [Std.Legacy.Range.forIn_eq_forIn_range']
  have hszA : (bs.map bV).toArray.size = bs.length := by simp
  have hsz : ([:(bs.map bV).toArray.size] : Std.Legacy.Range).size = bs.length := by simp [Std.Legacy.Range.size]
  rw [hsz]
  refine wpAny_forIn_list _ (fun l b s' => s' = s ∧ ∃ i, l = List.range' i (bs.length - i) ∧ i ≤ bs.length ∧ b = (((bs.take i).map (·.1)).toArray, (bs.take i).map fun x => (bV x, none))) _ ?_ ?_ _ _ ⟨rfl, 0, rfl, Nat.zero_le _, rfl⟩
  · rintro x rest b s' ⟨rfl, i, e1, hi, rfl⟩
    have hlt : i < bs.length := by
      rcases Nat.lt_or_ge i bs.length with h' | h'
      · exact h'
      · rw [Nat.sub_eq_zero_of_le h'] at e1; simp at e1
    obtain ⟨k, hk⟩ : ∃ k, bs.length - i = k + 1 := ⟨bs.length - i - 1, by omega⟩
    rw [hk, List.range'_succ] at e1
    injection e1 with e2 e3
    subst e2
    refine wpAny_bind (wpAny_seqItems ho hd ?_)
    dsimp only
    refine anyIf_false (by
      rw [Bool.or_eq_false_iff]
      refine ⟨rfl, ?_⟩
      rw [List.any_eq_false]
      intro y hy
      obtain ⟨z, _, rfl⟩ := List.mem_map.mp hy
      exact Bool.false_ne_true) ?_
    have hget : (List.map bV bs).toArray.getD x Value.none = bV (bs[x]'hlt) := by simp [Array.getD, hlt]
    rw [hget]
    refine wpAny_bind (wpAny_holding (wpAny_of_eq take_eq ?_))
    dsimp only
    refine wpAny_bind (wpAny_seqItems ho hd ?_)
    dsimp only
    refine anyIf_false (by simp) ?_
    refine wpAny_pure ?_
    refine ⟨rfl, x + 1, ?_, hlt, ?_⟩
    · rw [e3]; congr 1; omega
    · rw [List.take_add_one, List.getElem?_eq_getElem hlt]
      simp only [Option.toList_some, List.map_append, List.map_cons, List.map_nil, List.push_toArray]
  · rintro b s' ⟨rfl, i, e1, hi, rfl⟩
    have hlt : i = bs.length := by
      rcases Nat.lt_or_ge i bs.length with h' | h'
      · obtain ⟨k, hk⟩ : ∃ k, bs.length - i = k + 1 := ⟨bs.length - i - 1, by omega⟩
        rw [hk, List.range'_succ] at e1; cases e1
      · omega
    subst hlt
    rw [List.take_length]
    refine wpAny_bind (show wpAny M A (pure (#[] : Array UInt8)) _ E s' from wpAny_pure ?_)
    refine anyIf_false ?_ ?_
    · have e : Array.foldl (fun (x1 : Nat) (x2 : Array UInt8) => x1 + x2.size) ((#[] : Array UInt8).size * ((List.map (fun x : Array UInt8 × Tok => x.fst) bs).toArray.size - 1)) (List.map (fun x : Array UInt8 × Tok => x.fst) bs).toArray = bs.foldl (fun k b => k + b.1.size) 0 := by
        simp [List.foldl_map]
      show decide (_ > sizeLine) = false
      rw [e]
      exact decide_eq_false (Nat.not_lt.mpr hz)
    · refine wpAny_bind ?_
      show wpAny M A (mkBytes _) _ E s'
      refine wpAny_mkBytes (hb := by
        show (Builtin.Bytes.joined #[] (bs.map (·.1))).size ≤ sizeLine
        rw [joined_size]
        exact hz) ?_
      refine wpAny_bind (wpAny_holding (wpAny_point ?_))
      refine wpAny_bind (bj_letGo ?_ ?_)
      · intro x hx
        obtain ⟨z, _, rfl⟩ := List.mem_map.mp hx
        rfl
      · exact wpAny_pure ⟨_, rfl, h _ _⟩
variable {prog : Program} {w : World} {h₀ : Heap} {L : Addr} {m : Str → Option Value} {news : List (Addr × Obj)}
theorem bj_call {bs : List (Array UInt8 × Tok)} {n : Nat} {t0 : Tok} {Q : Value → Shared → Prop} (N : News h₀ L s.heap news) (hm : (l, ({ cls := .type "list", data := .seq (bs.map bV).toArray n } : Obj)) ∈ news)
    (h2 : 2 ≤ bs.length) (hz : bs.foldl (fun k b => k + b.1.size) 0 ≤ sizeLine) (h : ∀ b t k, KBw.bInts b = bs.flatMap (fun x => KBw.bInts x.1) → Q (.bytes b t) { s with toks := k }) :
    wpAny (model prog w) A (call (.builtin "bytes.join") [.bytes #[] t0, .ref l]) Q E s := by
  refine wpAny_call_entry bj_slot (typeIs_bytes _ _ _) bj_entry ?_ (bj_args _ _)
  refine wpAny_mono (bj_tree (N.get hm) rfl rfl h2 hz (Q := Q) fun t k => h _ t k ?_) (fun fin s' h' => h') fun _ _ x => x
  rw [joined_ints, List.flatMap_map]
theorem bj_method {b : Array UInt8} {t0 : Tok} {pl : Sem Bool} {Q : Value × List Value → Shared → Prop} (h : Q (.builtin "bytes.join", [.bytes b t0]) s) : wpAny M A (getMethod (.bytes b t0) "join" pl) Q E s :=
  getMethod_builtin (typeIs_bytes _ _ _) bj_plainAttrs bj_slot bj_type (fun a e => nomatch e) h
end

end PB
namespace PB
theorem fresh15 : (if True then True else True) := by
  w_top off
  try (walk1; trivial)
  try simp
noncomputable def oct2 (v : Int) : List Int := [v / 256, v % 256]
section
open LCg
variable {prog : Program} {w : World} {A : Around} {h₀ : Heap} {L : Addr} {m : Str → Option Value} {env : Env}
/-- the turns of a comprehension by a word over the place, the elements so far and the ledger -/
theorem CompRest_inv {elt : Expr} {x : Str} {scope : Scope} {cl : List (Str × Addr)} {s : Shared} {S : List (Addr × Obj) → Prop} {P : Nat → Value → Prop} {Fin : List Value → List (Addr × Obj) → Prop} (J : Nat → List Value → List (Addr × Obj) → Prop) (n : Nat)
    {news₀ : List (Addr × Obj)} (h0 : J 0 [] news₀)
    (turn : ∀ i ys news v I oI C oC D m₂ h tk (E' : Value → Shared → Prop), i < n → J i ys news → P i v → NsObj oC m₂ → m₂ x = some v → Fr h₀ L h m → News h₀ L h ((I, oI) :: (C, oC) :: (D, lst ys) :: news) → Off3 I C D news → ((@Ne Nat I C) ∧ (@Ne Nat I D) ∧ (@Ne Nat C D)) →
      wpAny (model prog w) A (eval elt (compEnvC scope cl C env)) (CompEnd h₀ L m { s with heap := h, toks := tk } I oI C oC D (lst ys) S (fun y news' => J (i + 1) (ys ++ [y]) news')) E' { s with heap := h, toks := tk })
    (fin : ∀ ys news, J n ys news → Fin ys news) : CompRest prog w A h₀ L m env elt x scope cl s S P Fin n 0 [] news₀ := by
  have key : ∀ (k i : Nat) (ys : List Value) (news : List (Addr × Obj)), i + k = n → J i ys news → CompRest prog w A h₀ L m env elt x scope cl s S P Fin k i ys news := by
    intro k
    induction k with
    | zero =>
      intro i ys news e hJ
      obtain rfl : i = n := by omega
      exact fin _ _ hJ
    | succ k ih =>
      intro i ys news e hJ
      refine CompRest.succ fun v I oI C oC D m₂ h tk E' hP hO hm F N ho hd => ?_
      refine wpAny_mono (turn i ys news v I oI C oC D m₂ h tk E' (by omega) hJ hP hO hm F N ho hd) (fun y s' h' => ?_) fun _ _ e => e
      obtain ⟨h2, tk2, news', e2, F2, N2, o2, S2, J2⟩ := h'
      exact ⟨h2, tk2, news', e2, F2, N2, o2, S2, ih (i + 1) _ _ (by omega) J2⟩
  exact key n 0 [] news₀ (by omega) h0
end
theorem ints_at : ∀ {vs : List Value} {ns : List Int} {i : Nat} {v : Value}, IntsAre vs ns → vs.toArray[i]? = some v → ∃ n t, ns[i]? = some n ∧ v = .int n t
  | _, _, i, v, .nil, e => by simp at e
  | _, _, 0, v, .cons n t h, e => by
    simp at e
    exact ⟨n, t, by simp, e.symm⟩
  | _, _, i + 1, v, .cons n t h, e => by
    obtain ⟨n', t', a, b⟩ := ints_at (i := i) (v := v) h (by simpa using e)
    exact ⟨n', t', by simpa using a, b⟩
section
variable {w : World} {mean : ExcName → Option Value} {mg mb : Str → Option Value} {dp un : Nat} {gd : Option (List Code)} {cn : Str} {cs : Scope} {a : Addr} {ccd : Value} {cl : List (Str × Addr)} {outer : List Env} {A₀ : Around} {base h₀ : Heap} {L : Addr} {m : Str → Option Value} {s : Shared} {Q E : Value → Shared → Prop} {news : List (Addr × Obj)}
theorem ba_method {D : Addr} {xs : Array UInt8} {pl : Sem Bool} {M : Model} {A : Around} {Q : Value × List Value → Shared → Prop} (N : News h₀ L s.heap news) (hm : (D, baObj xs) ∈ news) (h : Q (.builtin "bytearray.extend", [.ref D]) s) :
    wpAny M A (getMethod (.ref D) "extend" pl) Q E s :=
  getMethod_builtin ⟨_, N.get hm, rfl⟩ ba_plainAttrs ba_slot_extend ba_type_extend (fun a e => by injection e with e; subst e; exact ⟨_, N.get hm, rfl⟩) h
theorem extend_XN {A : Around} {D : Addr} {xs b : Array UInt8} {t : Tok} {Q : Value → Shared → Prop} (F : Fr h₀ L s.heap m) (N : News h₀ L s.heap ((D, baObj xs) :: news)) (hb : ∀ p ∈ news, p.1 ≠ D) (hz : xs.size + b.size ≤ sizeLine)
    (h : ∀ h', Fr h₀ L h' m → News h₀ L h' ((D, baObj (xs ++ b)) :: news) → Q .none { s with heap := h' }) : wpX (model PySem.Challenge.rw_pb0162_01.row.prog w) A (call (.builtin "bytearray.extend") [.ref D, .bytes b t]) Q E s := by
  have z := N (D, baObj xs) (.head _)
  have hs : Heap.SameBut D s.heap (s.heap.update D (Obj.mapBytearray (· ++ b))) := Heap.SameBut.update ..
  refine extend_X z.1 hz (h _ (F.change hs z.2.1 z.2.2) (news_set (pre := []) N (fun _ h => (nomatch h)) hb hs ?_))
  exact Heap.get?_update_self (Obj.mapBytearray (· ++ b)) z.1 rfl
theorem oct2_len (ns : List Int) : (ns.flatMap oct2).length = 2 * ns.length := by
  induction ns with
  | nil => rfl
  | cons n ns ih => rw [List.flatMap_cons, List.length_append, ih, List.length_cons]; show 2 + _ = _; omega
theorem sizes_of : ∀ {bs : List (Array UInt8 × Tok)} {ns : List Int}, bs.map (fun b => KBw.bInts b.1) = ns.map oct2 → bs.length = ns.length ∧ (∀ k, bs.foldl (fun k b => k + b.1.size) k = k + 2 * ns.length) ∧ bs.flatMap (fun x => KBw.bInts x.1) = ns.flatMap oct2
  | [], [], _ => ⟨rfl, fun _ => rfl, rfl⟩
  | [], n :: ns, e => by cases e
  | b :: bs, [], e => by cases e
  | b :: bs, n :: ns, e => by
    rw [List.map_cons, List.map_cons] at e
    injection e with e1 e2
    obtain ⟨a1, a2, a3⟩ := sizes_of e2
    refine ⟨by rw [List.length_cons, List.length_cons, a1], fun k => ?_, ?_⟩
    · rw [List.foldl_cons, a2, ← KBw.ints_length, e1, List.length_cons]
      show k + 2 + 2 * ns.length = _
      omega
    · rw [List.flatMap_cons, List.flatMap_cons, a3, e1]
/-- an OctetsOut at x: its dict at dx, its bytearray at b -/
noncomputable abbrev outL (x dx b : Addr) (t : Tok) (k : Int) (xs : Array UInt8) (r : List (Addr × Obj)) : List (Addr × Obj) := (b, baObj xs) :: (x, instObj 153 dx) :: (dx, outDict b t k) :: r
theorem rows_X {xs : Array UInt8} {b x dx l : Addr} {t : Tok} {k : Int} {vs : List Value} {ns : List Int} {n : Nat}
 (B : Below A₀ base outer h₀) (F : Fr h₀ L s.heap m) (X : (hd.heap_1 w.params).In h₀) (N : News h₀ L s.heap ((b, baObj xs) :: (x, instObj 153 dx) :: (dx, outDict b t k) :: (l, ({ cls := .type "list", data := .seq vs.toArray n } : Obj)) :: news)) (T : Top hd.view_1 (looseW hd.view_1 [Str.ofString "ShapeError", Str.ofString "write_kern"]) mean mg mb h₀) (hk : cs.kind = .function) (hroom : dp + 4 < recursionLimit) (hun : un + 32 < cLine) (hi : IntsAre vs ns) (hr : ∀ v ∈ ns, 0 ≤ v ∧ v < 65536) (h2 : 2 ≤ ns.length) (hz : xs.size + 2 * ns.length ≤ 5000)
 (hb : ∀ p ∈ (x, instObj 153 dx) :: (dx, outDict b t k) :: (l, ({ cls := .type "list", data := .seq vs.toArray n } : Obj)) :: news, p.1 ≠ b)
 (hret : ∀ ys h' tk', KBw.bInts ys = ns.flatMap oct2 → Fr h₀ L h' m → News h₀ L h' ((b, baObj (xs ++ ys)) :: (x, instObj 153 dx) :: (dx, outDict b t k) :: (l, ({ cls := .type "list", data := .seq vs.toArray n } : Obj)) :: news) → Q .none {s with heap := h', toks := tk'}) :
 wpX (model PySem.Challenge.rw_pb0162_01.row.prog w) (ktrTop dp un gd cn cs L a ccd cl outer) (call (.ref 129) [.ref x, .ref l]) Q NoE s := by
  k_with_none
  (k_with "getMethod ref" => (k_here; k_dflt (refine ba_method (by k_asm) (by k_mem) ?_)))
  (k_with "eval ListComp" => (k_here; k_dflt (refine LCg.ListComp_U (F₀ := by k_asm) (by rfl) (by decide) (by rfl) (by decide) (by rfl) ?_)))
  (k_with "CompSrc" => (refine Stop.out ?_))
  (k_with "call ref" => (k_here; (with_reducible show wpAny _ _ (call (Value.ref 68) [Value.int _ _, Value.int _ _]) _ _ _); k_dflt (refine' octs_tells (by k_asm) (by k_asm) (by k_asm) (by k_asm) (by k_asm) (by first | exact rfl | assumption) (by ktr_room) (by ktr_units) (by first | assumption | omega) (by first | assumption | omega) ?_); intro b9Z t9Z h9Z tk9Z hb9Z F9Z N9Z; (try dsimp only); (try k_fold)))
  (k_with "CompEnd" => (refine Stop.out ?_))
  revert X; k_fill; intro X
  refine wpX_call ?_
  k_dflt (refine' codeX_def ?k1 ?k2 ?k3 ?k4 ?k5 ?kA ?kF ?kK ?k6 ?k7 ?k8 ?k9 ?kB ?_ ?c2 ?c3 ?c4 ?c5; (case kA => exact rfl); (case kF => exact rfl); (case kK => first | assumption | exact rfl); (case k1 => k_asm); (case k2 => k_asm); (case k3 => k_asm); (case k4 => k_asm); (case k5 => k_asm); (case k6 => k_is); (case k7 => k_is); (case k8 => ktr_room); (case k9 => first | exact BindsTo.of_eq rfl | exact binds_K (by k_in) rfl (by k_is) rfl rfl rfl); (case c5 => decide); (case kB => exact locs rfl); (case c2 => exact rfl); (case c3 => exact rfl); (case c4 => exact rfl); k_whole; intro g' L' h' FG' F' N' B' X' T'; (try dsimp only); (try k_lift B'); (try k_fold))
  refine wpX_execs_cons (wpX_Expr (methodCall_X ?_))
  k_steps
  refine callWith_XB ?_
  k_steps
  refine bj_method ?_
  k_steps
  refine Stop.go (LCg.CompSrc.ledger (by rfl) (by k_asm) (by k_asm) (by k_mem) ?_ fun g => ?_)
  · rw [List.size_toArray, hi.length, PySem.sizeLine_eq]; omega
  refine CompRest_inv (fun i ys nw => nw = (b, baObj xs) :: (x, instObj 153 dx) :: (dx, outDict b t k) :: (l, ({ cls := .type "list", data := .seq vs.toArray n } : Obj)) :: news ∧ ∃ bs : List (Array UInt8 × Tok), ys = bs.map bV ∧ bs.map (fun b => KBw.bInts b.1) = (ns.take i).map oct2) _ ⟨rfl, [], rfl, rfl⟩ ?_ ?_
  · rintro i ys _ v' I' oI' C' oC' D' m' h9 tk9 E' hlt ⟨rfl, bs, rfl, hbs⟩ hv' hC' hx' F9 N9 off' ne'
    obtain ⟨n9, t9, hn9, rfl⟩ := ints_at hi hv'
    obtain ⟨r0, r1⟩ := hr n9 (List.mem_of_getElem? hn9)
    k_steps
    refine Stop.go (LCg.CompEnd.intro (by k_asm) (by k_asm) _ (fun p hp => hp) off' (.inr ⟨_, .tail _ (.tail _ (.tail _ (.head _))), rfl, _, rfl⟩) ⟨rfl, bs ++ [(_, _)], (by rw [List.map_append]; rfl), ?_⟩)
    rw [List.map_append, hbs, List.take_add_one, hn9, List.map_append]
    congr 1
    show [KBw.bInts _] = [oct2 n9]
    congr 1
  · rintro ys _ ⟨rfl, bs, rfl, hbs⟩
    rw [show (List.take vs.toArray.size ns) = ns by rw [List.size_toArray, hi.length, List.take_length]] at hbs
    unfold LCg.FinE
    intro D h9 tk9 F9 N9 o9
    (try dsimp only)
    k_steps
    obtain ⟨c1, c2, c3⟩ := sizes_of hbs
    refine bj_call (by k_asm) (.head _) (by omega) (by rw [c2, PySem.sizeLine_eq]; omega) fun b8 t8 k8 hb8 => ?_
    rw [c3] at hb8
    have hs8 : b8.size = 2 * ns.length := by
      rw [← KBw.ints_length, hb8, oct2_len]
    k_steps
    refine extend_XN (by k_asm) (newsDrop N9 (fun p hp => .tail _ hp)) hb (by rw [hs8, PySem.sizeLine_eq]; omega) fun h8 F8 N8 => ?_
    (try dsimp only)
    refine wpX_execs_nil ?_
    k_steps
    exact hret _ _ _ hb8 (by k_asm) (newsDrop (by k_asm) (by intro p9 hp9; (repeat' (first | exact hp9 | exact List.Mem.head _ | refine List.Mem.tail _ ?_ | refine List.mem_append_left _ ?_))))
end

end PB
namespace PB
theorem fresh16 : (if True then True else True) := by
  w_top off
  try (walk1; trivial)
  try simp
section
variable {w : World} {mean : ExcName → Option Value} {mg mb : Str → Option Value} {dp un : Nat} {gd : Option (List Code)} {cn : Str} {cs : Scope} {a : Addr} {ccd : Value} {cl : List (Str × Addr)} {outer : List Env} {A₀ : Around} {base h₀ : Heap} {L : Addr} {m : Str → Option Value} {s : Shared} {Q E : Value → Shared → Prop} {news : List (Addr × Obj)}
theorem i16_X {xs : Array UInt8} {b x dx : Addr} {t t0 : Tok} {k v : Int}
 (B : Below A₀ base outer h₀) (F : Fr h₀ L s.heap m) (X : (hd.heap_1 w.params).In h₀) (N : News h₀ L s.heap ((b, baObj xs) :: (x, instObj 153 dx) :: (dx, outDict b t k) :: news)) (T : Top hd.view_1 (looseW hd.view_1 [Str.ofString "ShapeError", Str.ofString "write_kern"]) mean mg mb h₀) (hk : cs.kind = .function) (hroom : dp + 4 < recursionLimit) (hun : un + 32 < cLine) (h0 : -32768 ≤ v) (h1 : v ≤ 32767) (hz : xs.size ≤ 5000)
 (hb : ∀ p ∈ (x, instObj 153 dx) :: (dx, outDict b t k) :: news, p.1 ≠ b)
 (hret : ∀ ys h' tk', KBw.bInts ys = oct2 (v % 65536) → Fr h₀ L h' m → News h₀ L h' ((b, baObj (xs ++ ys)) :: (x, instObj 153 dx) :: (dx, outDict b t k) :: news) → Q .none {s with heap := h', toks := tk'}) :
 wpX (model PySem.Challenge.rw_pb0162_01.row.prog w) (ktrTop dp un gd cn cs L a ccd cl outer) (call (.ref 103) [.ref x, .int v t0]) Q NoE s := by
  k_with_none
  (k_with "getMethod ref" => (k_here; k_dflt (refine ba_method (by k_asm) (by k_mem) ?_)))
  (k_with "binaryOp BitAnd int int" => (k_here; (refine andL 16 (by decide) ?_); (try simp only [show (2 : Int) ^ 16 = 65536 from rfl])))
  (k_with "call ref" => (k_here; (with_reducible show wpAny _ _ (call (Value.ref 68) [Value.int _ _, Value.int _ _]) _ _ _); k_dflt (refine' octs_tells (by k_asm) (by k_asm) (by k_asm) (by k_asm) (by k_asm) (by first | exact rfl | assumption) (by ktr_room) (by ktr_units) (by first | assumption | omega) (by first | assumption | omega) ?_); intro b9Z t9Z h9Z tk9Z hb9Z F9Z N9Z; (try dsimp only); (try k_fold)))
  revert X; k_fill; intro X
  refine wpX_call ?_
  k_dflt (refine' codeX_def ?k1 ?k2 ?k3 ?k4 ?k5 ?kA ?kF ?kK ?k6 ?k7 ?k8 ?k9 ?kB ?_ ?c2 ?c3 ?c4 ?c5; (case kA => exact rfl); (case kF => exact rfl); (case kK => first | assumption | exact rfl); (case k1 => k_asm); (case k2 => k_asm); (case k3 => k_asm); (case k4 => k_asm); (case k5 => k_asm); (case k6 => k_is); (case k7 => k_is); (case k8 => ktr_room); (case k9 => first | exact BindsTo.of_eq rfl | exact binds_K (by k_in) rfl (by k_is) rfl rfl rfl); (case c5 => decide); (case kB => exact locs rfl); (case c2 => exact rfl); (case c3 => exact rfl); (case c4 => exact rfl); k_whole; intro g' L' h' FG' F' N' B' X' T'; (try dsimp only); (try k_lift B'); (try k_fold))
  refine wpX_execs_cons (wpX_If ?_)
  k_steps
  refine wpX_execs_nil ?_
  (try dsimp only)
  refine wpX_execs_cons (wpX_Expr (methodCall_X ?_))
  k_steps
  refine callWith_XB ?_
  k_steps
  have hs8 : ∀ {b8 : Array UInt8} {y z : Int}, KBw.bInts b8 = [y, z] → b8.size = 2 := fun {b8 y z} e => by rw [← KBw.ints_length, e]; rfl
  have hs9 := hs8 ‹KBw.bInts _ = [v % 65536 / 256, v % 65536 % 256]›
  refine extend_XN (by k_asm) (by k_asm) hb (by rw [hs9, PySem.sizeLine_eq]; omega) fun h8 F8 N8 => ?_
  (try dsimp only)
  refine wpX_execs_nil ?_
  k_steps
  exact hret _ _ _ (by assumption) (by k_asm) (by k_asm)
end

end PB
namespace PB
theorem fresh17 : (if True then True else True) := by
  w_top off
  try (walk1; trivial)
  try simp
theorem by_no_bytes : typeLookup (.type "bytearray") "__bytes__" = pure none := by rw [typeLookup_type, builtinLookup_eq_fast]; kernel_rfl
theorem by_no_index : typeLookup (.type "bytearray") "__index__" = pure none := by rw [typeLookup_type, builtinLookup_eq_fast]; kernel_rfl
theorem by_buffer : typeLookup (.type "bytearray") "__buffer__" = pure (some (.builtin "bytearray.__buffer__")) := by rw [typeLookup_type, builtinLookup_eq_fast]; kernel_rfl
section
variable {prog : Program} {w : World} {A : Around} {E : Value → Shared → Prop} {s : Shared} {l : Addr}
theorem by_slotOwn {M : Model} {x : Array UInt8} {Q : Bool → Shared → Prop} (ho : s.heap.get? l = some (baObj x)) (h : Q true s) : wpAny M A (Builtin.Bytes.slotIsOwn (.ref l) "__buffer__") Q E s := by
  have hT : s.TypeIs (.ref l) "bytearray" := ⟨_, ho, rfl⟩
  unfold Builtin.Bytes.slotIsOwn
  refine wpAny_bind (wpAny_specialOf hT by_buffer ?_)
  show wpAny M A (if (!("bytearray.__buffer__".endsWith ("." ++ "__buffer__"))) = true then _ else _) _ E s
  rw [if_neg (by decide +kernel)]
  rw [show ("bytearray.__buffer__".dropRight ("__buffer__".length + 1)) = "bytearray" from by decide +kernel]
  exact wpAny_isInstance hT bb_sub h
theorem by_new {x : Array UInt8} {Q : Value → Shared → Prop} (ho : s.heap.get? l = some (baObj x)) (hz : x.size ≤ sizeLine) (h : ∀ t k, Q (.bytes x t) { s with toks := k }) :
    codeAny (model prog w) A (.call (.builtin "bytes.__new__") ⟨[.type "bytes", .ref l], []⟩) (wants Q E) s := by
  refine codeAny_of_tree ?_
  show wpAny _ A.in1 (do checkBuiltinCall "bytes.__new__" ⟨[.type "bytes", .ref l], []⟩; again (.builtin "bytes.__new__" ⟨[.type "bytes", .ref l], []⟩)) _ _ s
  refine wpAny_bind (wpAny_of_eq (F.bm_newCall _) (wpAny_pure ⟨plainId_quiet F.bm_plain _, codeAny_builtin F.bm_entry ?_⟩))
  rw [Around.under_plainId F.bm_plain _]
  have hT : s.TypeIs (.ref l) "bytearray" := ⟨_, ho, rfl⟩
  unfold Builtin.«bytes.__new__»
  refine wpAny_bind (wpAny_of_eq (a := true) rfl ?_)
  refine bm_if_false rfl ?_
  refine wpAny_bind (wpAny_of_eq F.bm_sub ?_)
  refine bm_if_false rfl ?_
  refine wpAny_bind (wpAny_of_eq (F.bm_bind _) ?_)
  refine wpAny_bind (wpAny_of_eq (a := ()) rfl ?_)
  refine wpAny_bind (wpAny_of_eq (a := ()) rfl ?_)
  refine bm_if_false rfl ?_
  refine wpAny_bind (wpAny_specialOf hT by_no_bytes ?_)
  refine wpAny_bind (wpAny_bind ?_)
  show wpAny _ _ (load l >>= _) _ _ _
  refine wpAny_bind (wpAny_load ho ?_)
  refine wpAny_pure (wpAny_pure ?_)
  refine bm_if_false rfl ?_
  refine wpAny_bind (wpAny_specialOf hT by_no_index ?_)
  refine bm_if_true rfl ?_
  first
    | show wpAny _ _ (Builtin.Bytes.buffer? "bytes.__new__" (.ref l) true >>= _) _ _ _
    | (refine wpAny_bind ?_; show wpAny _ _ (Builtin.Bytes.buffer? "bytes.__new__" (.ref l) true >>= _) _ _ _)
  refine wpAny_bind ?_
  unfold Builtin.Bytes.buffer?
  refine wpAny_bind (wpAny_specialOf hT by_buffer ?_)
  dsimp only
  refine wpAny_bind (by_slotOwn ho ?_)
  refine bm_if_false rfl ?_
  refine wpAny_bind (wpAny_specialOf hT by_buffer ?_)
  (try dsimp only)
  refine wpAny_bind (bb_ownRelease ho ?_)
  refine bm_if_false rfl ?_
  refine wpAny_bind ?_
  unfold Builtin.Bytes.payload Builtin.Bytes.payload?
  refine wpAny_bind (wpAny_bind (wpAny_load ho ?_))
  refine wpAny_pure (wpAny_pure (wpAny_pure ?_))
  refine wpAny_bind (wpAny_rule (wpAny_bind (wpAny_mkBytes (hb := hz) ?_)))
  exact wpAny_pure (h _ _)
theorem by_call {x : Array UInt8} {Q : Value → Shared → Prop} (ho : s.heap.get? l = some (baObj x)) (hz : x.size ≤ sizeLine) (h : ∀ t k, Q (.bytes x t) { s with toks := k }) :
    wpAny (model prog w) A (call (.type "bytes") [.ref l]) Q E s := by
  refine callType_codes (Q₁ := fun obj s₁ => s₁.TypeIs obj "bytes" ∧ Q obj s₁) F.bm_called (F.bm_typeCall _) F.entry_object_init
    (by_new ho hz fun t k => ⟨PySem.W.typeIs_bytes _ _ _, h t k⟩) fun obj s₁ h₁ => ?_
  exact ⟨h₁.1, F.args_object_init_2 obj _, object_init_meets F.bm_called.init.lookup F.bm_called.made (by decide) prog w A.in1 _ s₁ ⟨h₁.1, rfl, h₁.2⟩⟩
end

end PB
namespace PB
theorem fresh18 : (if True then True else True) := by
  w_top off
  try (walk1; trivial)
  try simp
section
variable {w : World} {mean : ExcName → Option Value} {mg mb : Str → Option Value} {dp un : Nat} {gd : Option (List Code)} {cn : Str} {cs : Scope} {a : Addr} {ccd : Value} {cl : List (Str × Addr)} {outer : List Env} {A₀ : Around} {base h₀ : Heap} {L : Addr} {m : Str → Option Value} {s : Shared} {Q E : Value → Shared → Prop} {news : List (Addr × Obj)}
theorem octets_tells {xs : Array UInt8} {b x dx : Addr} {t : Tok} {k : Int}
 (B : Below A₀ base outer h₀) (F : Fr h₀ L s.heap m) (X : (hd.heap_1 w.params).In h₀) (N : News h₀ L s.heap ((b, baObj xs) :: (x, instObj 153 dx) :: (dx, outDict b t k) :: news)) (T : Top hd.view_1 (looseW hd.view_1 [Str.ofString "ShapeError", Str.ofString "write_kern"]) mean mg mb h₀) (hk : cs.kind = .function) (hroom : dp + 4 < recursionLimit) (hun : un + 32 < cLine) (hz : xs.size ≤ sizeLine)
 (hret : ∀ t9 h' tk', Fr h₀ L h' m → News h₀ L h' ((b, baObj xs) :: (x, instObj 153 dx) :: (dx, outDict b t k) :: news) → Q (.bytes xs t9) {s with heap := h', toks := tk'}) :
 wpAny (model PySem.Challenge.rw_pb0162_01.row.prog w) (ktrTop dp un gd cn cs L a ccd cl outer) (call (.ref 150) [.ref x]) Q E s := by
  k_with_none
  (k_with "call type:bytes" => (k_here; (with_reducible show wpAny _ _ (call (Value.type _) [Value.ref _]) _ _ _); refine Stop.out ?_))
  revert X; k_fill; intro X
  refine wpAny_call ?_
  k_dflt cell_enter
  k_steps
  refine Stop.go (by_call (News.get (by k_asm) (.head _)) hz fun t9 k9 => ?_)
  k_steps
  exact hret _ _ _ (by k_asm) (by k_asm)
end

end PB
namespace PB
theorem fresh19 : (if True then True else True) := by
  w_top off
  try (walk1; trivial)
  try simp
theorem whlif_yes {b : Bool} {p q : Prop} (hb : b = true) (h : p) : WhlIf b p q := by subst hb; exact h
theorem whlif_no {b : Bool} {p q : Prop} (hb : b = false) (h : q) : WhlIf b p q := by subst hb; exact h
theorem ints3 {a b c a' b' c' : Int} {t u v : Tok} (h1 : a = a') (h2 : b = b') (h3 : c = c') : IntsAre [.int a t, .int b u, .int c v] [a', b', c'] := by
  subst h1 h2 h3
  exact .cons _ _ (.cons _ _ (.cons _ _ .nil))
section
variable {w : World} {mean : ExcName → Option Value} {mg mb : Str → Option Value} {dp un : Nat} {gd : Option (List Code)} {cn : Str} {cs : Scope} {a : Addr} {ccd : Value} {cl : List (Str × Addr)} {outer : List Env} {A₀ : Around} {base h₀ : Heap} {L : Addr} {m : Str → Option Value} {s : Shared} {Q E : Value → Shared → Prop} {news : List (Addr × Obj)}
theorem row_tells {n : Int} {t0 : Tok} (p : Nat) (B : Below A₀ base outer h₀) (F : Fr h₀ L s.heap m) (X : (hd.heap_1 w.params).In h₀) (N : News h₀ L s.heap (news)) (T : Top hd.view_1 (looseW hd.view_1 [Str.ofString "ShapeError", Str.ofString "write_kern"]) mean mg mb h₀) (hk : cs.kind = .function) (hroom : dp + 1 < recursionLimit) (hun : un + 32 < cLine) (h0 : 2 ^ p ≤ n) (h1 : n < 2 ^ (p + 1)) (h2 : n < 16)
 (hret : ∀ l vs h' tk', IntsAre vs [6 * 2 ^ p, (p : Int), 6 * (n - 2 ^ p)] → Fr h₀ L h' m → News h₀ L h' ((l, ({ cls := .type "list", data := .seq vs.toArray 0 } : Obj)) :: news) → (∀ p ∈ news, p.1 < l) → Q (.ref l) {s with heap := h', toks := tk'}) :
 wpAny (model PySem.Challenge.rw_pb0162_01.row.prog w) (ktrTop dp un gd cn cs L a ccd cl outer) (call (.ref 164) [.int n t0]) Q E s := by
  k_with_none
  (k_with "exec While Compare cons nil" => (k_here; k_dflt (refine whl_start 100 ?_)))
  (k_with "WhlIf" => (refine whlif_yes (decide_eq_true (by first | (simp; omega) | (simp; done))) ?_))
  have hp : p = 0 ∨ p = 1 ∨ p = 2 ∨ p = 3 := by
    rcases p with _ | _ | _ | _ | p
    · simp
    · simp
    · simp
    · simp
    · exfalso
      have : (2 : Int) ^ 4 ≤ 2 ^ (p + 4) := by
        have := Nat.pow_le_pow_right (n := 2) (by decide) (show 4 ≤ p + 4 by omega)
        exact_mod_cast this
      have h0' : (2 : Int) ^ (p + 4) ≤ n := h0
      omega
  rcases hp with rfl | rfl | rfl | rfl
  all_goals (simp only [Nat.zero_add, Nat.reduceAdd, Int.reducePow] at h0 h1)
  all_goals (
  revert X; k_fill; intro X
  refine wpAny_call ?_
  k_dflt cell_enter
  k_steps
  · exfalso
    omega
  refine whlif_no (decide_eq_false ?_) ?_
  · simp
    omega
  k_steps
  refine hret _ _ _ _ ?_ (by k_asm) (by k_asm) (by assumption)
  refine ints3 ?_ ?_ ?_
  · rfl
  · rfl
  · show 6 * (n - _) = 6 * (n - _)
    congr 2)
end

end PB
namespace PB
theorem fresh20 : (if True then True else True) := by
  w_top off
  try (walk1; trivial)
  try simp
/-- an entry of the drawn pairs: the tuple's place, the pair, its ints' tokens, the distance and its token -/
structure PE where
  ad : Addr
  key : Int × Int
  t : Tok
  u : Tok
  val : Int
  tok : Tok
noncomputable def keyL (p : Int × Int) : List Int := [p.1, p.2]
theorem keyL_inj {p q : Int × Int} (h : keyL p = keyL q) : p = q := by
  unfold keyL at h
  injection h with h1 h2
  injection h2 with h2 _
  exact Prod.ext h1 h2
noncomputable def PE.ent (e : PE) : List Int × Addr × Value := (keyL e.key, e.ad, .int e.val e.tok)
noncomputable def PE.tup (e : PE) : Addr × Obj := (e.ad, T2 e.key e.t e.u)
noncomputable abbrev tkd (w : World) := tupleKind (intKind PySem.Challenge.rw_pb0162_01.row.prog w)
/-- the dict's object -/
noncomputable def DictP (w : World) (o : Obj) (P : List PE) : Prop := ∃ es ep, o.ExactDict ∧ o.data = .dict es ep ∧ es.toList = (P.map PE.ent).map (entryOfKey (tkd w))
theorem isKey {w : World} {h : Heap} {a : Addr} {p : Int × Int} {t u : Tok} (e : h.get? a = some (T2 p t u)) : (tkd w).is h (keyL p) a :=
  ⟨_, _, _, e, rfl, rfl, .cons (intKind_is _ _ _ _) (.cons (intKind_is _ _ _ _) .nil)⟩
theorem keys_nodup {P : List PE} (h : (P.map (·.key)).Nodup) : ((P.map PE.ent).map (·.1)).Nodup := by
  rw [List.map_map]
  have : (fun x : List Int × Addr × Value => x.1) ∘ PE.ent = keyL ∘ fun e : PE => e.key := rfl
  rw [this, ← List.map_map]
  exact List.Pairwise.map keyL (fun a b h q => h (keyL_inj q)) h
theorem DictP.dictOf {w : World} {h : Heap} {d : Addr} {o : Obj} {P : List PE} (x : DictP w o P) (ho : h.get? d = some o) (hT : ∀ e ∈ P, h.get? e.ad = some (T2 e.key e.t e.u)) (hn : (P.map (·.key)).Nodup) :
    h.DictOfH (tkd w) d (P.map PE.ent) := by
  obtain ⟨es, ep, h1, h2, h3⟩ := x
  refine ⟨o, es, ep, ho, h1, h2, h3, fun y hy => ?_, keys_nodup hn⟩
  obtain ⟨e, he, rfl⟩ := List.mem_map.mp hy
  exact isKey (hT e he)
theorem DictP.of {w : World} {h : Heap} {d : Addr} {o : Obj} {P : List PE} (ho : h.get? d = some o) (x : h.DictOfH (tkd w) d (P.map PE.ent)) : DictP w o P := by
  obtain ⟨o', es, ep, ho', h1, h2, h3, _⟩ := x
  obtain rfl := Option.some.inj (ho.symm.trans ho')
  exact ⟨es, ep, h1, h2, h3⟩
/-- the entry of a pair -/
noncomputable def look (P : List PE) (p : Int × Int) : Option PE := P.find? fun e => decide (e.key = p)
theorem atKey_look (P : List PE) (p : Int × Int) : atKey (P.map PE.ent) (keyL p) = (look P p).map fun e => (e.ad, .int e.val e.tok) := by
  unfold atKey look
  induction P with
  | nil => rfl
  | cons e P ih =>
    rw [List.map_cons, List.find?_cons, List.find?_cons]
    by_cases h : e.key = p
    · subst h
      simp [PE.ent]
    · have h' : ¬ keyL e.key = keyL p := fun q => h (keyL_inj q)
      simp only [PE.ent, h, h', decide_false]
      exact ih
theorem look_mem {P : List PE} {p : Int × Int} {e : PE} (h : look P p = some e) : e ∈ P ∧ e.key = p := by
  refine ⟨List.mem_of_find?_eq_some h, ?_⟩
  have := List.find?_some h
  exact of_decide_eq_true this
theorem look_of {P : List PE} {e : PE} (hn : (P.map (·.key)).Nodup) (he : e ∈ P) : look P e.key = some e := by
  induction P with
  | nil => cases he
  | cons x P ih =>
    rw [List.map_cons, List.nodup_cons] at hn
    unfold look
    rw [List.find?_cons]
    rcases List.mem_cons.mp he with rfl | he
    · simp
    · have : ¬ x.key = e.key := fun q => hn.1 (q ▸ List.mem_map_of_mem he)
      simp only [this, decide_false]
      exact ih hn.2 he
section
variable {w : World} {mean : ExcName → Option Value} {mg mb : Str → Option Value} {dp un : Nat} {gd : Option (List Code)} {cn : Str} {cs : Scope} {a : Addr} {ccd : Value} {cl : List (Str × Addr)} {outer : List Env} {A₀ : Around} {base h₀ : Heap} {L : Addr} {m : Str → Option Value} {s : Shared} {Q E : Value → Shared → Prop} {news : List (Addr × Obj)}
variable {A : Around} {P : List PE} {d : Addr} {dO : Obj} {e : PE}
theorem pairs_get {Q : Value → Shared → Prop} (N : News h₀ L s.heap news) (hu : A.units + 1 < cLine) (hd : (d, dO) ∈ news) (x : DictP w dO P) (hT : ∀ e ∈ P, e.tup ∈ news) (hn : (P.map (·.key)).Nodup) (he : e ∈ P)
    (h : ∀ k, Q (.int e.val e.tok) { s with toks := k }) : wpAny (model PySem.Challenge.rw_pb0162_01.row.prog w) A (getItem (.ref d) (.ref e.ad)) Q E s := by
  have hm := x.dictOf (N.get hd) (fun e he => N.get (hT e he)) hn
  refine wpAny_getItem_heap (knd := tkd w) (k := keyL e.key) (p := (e.ad, .int e.val e.tok)) hu (isKey (N.get (hT e he))) hm ?_ (h _)
  rw [atKey_look, look_of hn he]
  rfl
theorem pairs_sub {value slice : Expr} {Q : Value → Shared → Prop} (N : News h₀ L s.heap news) (hu : A.units + 1 < cLine) (hd : (d, dO) ∈ news) (x : DictP w dO P) (hT : ∀ e ∈ P, e.tup ∈ news) (hn : (P.map (·.key)).Nodup) (he : e ∈ P)
    (h : ∀ k, Q (.int e.val e.tok) { s with toks := k }) (hs : subscripted slice false (.ref d) (.ref e.ad) = operate [.ref d, .ref e.ad] (getItem (.ref d) (.ref e.ad)) := by with_unfolding_all rfl)
    (hg : ∀ r, letTemporaryGo value (.ref d) r = pure () := by intro _; with_unfolding_all rfl) : wpAny (model PySem.Challenge.rw_pb0162_01.row.prog w) A (subscriptTail value slice (.ref d) (.ref e.ad)) Q E s :=
  subscriptTail_builtin (x.dictOf (N.get hd) (fun e he => N.get (hT e he)) hn).typeIs F.slot_dict_getitem.lookup (pairs_get N hu hd x hT hn he h) hs hg
end

end PB
namespace PB
theorem fresh21 : (if True then True else True) := by
  w_top off
  try (walk1; trivial)
  try simp
/-- the octets of a subtable -/
noncomputable def rowsEnc (l : List Int) : List Int := l.flatMap oct2
noncomputable def headOf (n p : Nat) : List Int := [0, 14 + 6 * (n : Int), 1, n, 6 * 2 ^ p, p, 6 * ((n : Int) - 2 ^ p)]
noncomputable def pairEnc (e : PE) : List Int := rowsEnc [e.key.1, e.key.2] ++ oct2 (e.val % 65536)
noncomputable def subEnc (ws : List PE) (p : Nat) : List Int := rowsEnc (headOf ws.length p) ++ ws.flatMap pairEnc
theorem headOf_in {n p : Nat} (hp0 : (2 : Int) ^ p ≤ n) (hn : n < 16) : ∀ v ∈ headOf n p, 0 ≤ v ∧ v < 65536 := by
  have h1 : p < 2 ^ p := Nat.lt_two_pow_self
  have h2 : ((2 ^ p : Nat) : Int) = (2 : Int) ^ p := by simp
  intro v hv
  simp only [headOf, List.mem_cons, List.not_mem_nil, or_false] at hv
  rw [← h2] at hv hp0
  generalize 2 ^ p = q at hv hp0 h1
  omega
theorem rowsEnc_len (l : List Int) : (rowsEnc l).length = 2 * l.length := oct2_len l
theorem pairEnc_len (e : PE) : (pairEnc e).length = 6 := rfl
theorem pairsEnc_len (ws : List PE) : (ws.flatMap pairEnc).length = 6 * ws.length := by
  induction ws with
  | nil => rfl
  | cons e ws ih => rw [List.flatMap_cons, List.length_append, ih, pairEnc_len, List.length_cons]; omega
theorem headOf_len (n p : Nat) : (headOf n p).length = 7 := rfl
noncomputable abbrev lstW (ws : List PE) (n : Nat) : Obj := { cls := .type "list", data := .seq (ws.map fun e => Value.ref e.ad).toArray n }
section
variable {prog : Program} {w : World} {A : Around} {s : Shared} {env : Env} {h₀ : Heap} {x : Str} {body : List Stmt} {Q : Flow → Shared → Prop} {m : Str → Option Value} {news : List (Addr × Obj)} {W : Addr} {ws : List PE} {n : Nat}
/-- a loop over a list of entries' tuples, its turns in a clean context -/
theorem loopW_X (F : Fr h₀ env.locals s.heap m) (N : News h₀ env.locals s.heap ((W, lstW ws n) :: news)) (hW : ∀ q ∈ news, q.1 ≠ W) (hh : A.handled = none) (J : Nat → List (Addr × Obj) → Prop) (hj : J 0 news)
    (turn : ∀ i e news₁ h tk own, ws[i]? = some e → OwnOff own (news.map (·.1)) → J i news₁ → Fr h₀ env.locals h (fun y => if y = x then some (.ref e.ad) else m y) → News h₀ env.locals h (news₁ ++ own) →
      wpX (model prog w) A (execs body env) (InvPostN h₀ env.locals (fun m' nx => (∀ y, y ≠ x → m' y = m y) ∧ J (i + 1) nx) own (news.map (·.1)) { s with heap := h, toks := tk } Q) NoE { s with heap := h, toks := tk })
    (done : ∀ m₁ news₁ h tk, (∀ y, y ≠ x → m₁ y = m y) → J ws.length news₁ → Fr h₀ env.locals h m₁ → News h₀ env.locals h news₁ → Q .next { s with heap := h, toks := tk }) :
    wpAny (model prog w) A (pyIter (.ref W)) (fun it s₂ => LoopX prog w A h₀ env x body Q it s₂) NoE s := by
  have hl : s.heap.IsList W (ws.map fun e => Value.ref e.ad).toArray := ⟨_, N.get (.head _), rfl, n, rfl⟩
  have hlt : W < s.heap.objs.size := by obtain ⟨_, e, _⟩ := hl; exact Heap.lt_size e
  refine wpAny_pyIter_list hl ?_
  have up : ∀ b o, s.heap.get? b = some o → (s.heap.push { cls := .type "list_iterator", data := .fields #[.ref W, .int 0 0] }).get? b = some o := fun b o e => Heap.get?_push_of_some _ e
  have hsz : (ws.map fun e => Value.ref e.ad).toArray.size = ws.length := by simp
  have N1 : News h₀ env.locals s.heap news := fun p hp => N p (.tail _ hp)
  refine ⟨s.heap.objs.size, [s.heap.objs.size, W], [s.heap.objs.size], _, _, _, m, news, fun i m' nx => (∀ y, y ≠ x → m' y = m y) ∧ J i nx, rfl, Walks.list hh s.heap.objs.size W (Nat.ne_of_lt hlt) _, ?_, ?_, ?_, ⟨⟨_, Heap.get?_push_size _ rfl, rfl, rfl⟩, hl.push _⟩, F.keeps up, N1.grown up, ⟨fun _ _ => rfl, hj⟩, ?_, ?_⟩
  · intro q
    rcases List.mem_cons.mp q with q | q
    · exact Nat.ne_of_lt F.ns.lt q
    · exact (N (W, lstW ws n) (.head _)).2.1 (List.mem_singleton.mp q).symm
  · intro b hb
    rw [List.mem_singleton.mp hb]
    exact next_is_new F
  · intro q hq hf
    rcases List.mem_cons.mp hf with e | e
    · exact Nat.ne_of_lt (Heap.lt_size (N1 q hq).1) e
    · exact hW q hq (List.mem_singleton.mp e)
  · intro i v m₁ news₁ h tk own hi hP ha hoff hJ F1 N2
    have hP' : (ws.map fun e => Value.ref e.ad)[i]? = some v := by simpa using hP
    rw [List.getElem?_map] at hP'
    obtain ⟨e, he, rfl⟩ := Option.map_eq_some_iff.mp hP'
    have e9 : (fun y => if y = x then some (Value.ref e.ad) else m₁ y) = fun y => if y = x then some (Value.ref e.ad) else m y := by
      funext y
      by_cases hy : y = x
      · rw [if_pos hy, if_pos hy]
      · rw [if_neg hy, if_neg hy, hJ.1 y hy]
    have F2 := e9 ▸ F1
    exact turn i e news₁ h tk own he hoff hJ.2 F2 N2
  · intro m₁ news₁ h tk hJ F1 N2
    rw [hsz] at hJ
    exact done m₁ news₁ h tk hJ.1 hJ.2 F1 N2
end
section
variable {w : World} {mean : ExcName → Option Value} {mg mb : Str → Option Value} {dp un : Nat} {gd : Option (List Code)} {cn : Str} {cs : Scope} {a : Addr} {ccd : Value} {cl : List (Str × Addr)} {outer : List Env} {A₀ : Around} {base h₀ : Heap} {L : Addr} {m : Str → Option Value} {s : Shared} {Q E : Value → Shared → Prop} {news : List (Addr × Obj)}
theorem lenW {A : Around} {W : Addr} {ws : List PE} {n : Nat} {Q : Value → Shared → Prop} (N : News h₀ L s.heap news) (hm : (W, lstW ws n) ∈ news) (hl : ws.length < 1000) (h : ∀ t k, Q (.int ws.length t) { s with toks := k }) :
    wpAny (model PySem.Challenge.rw_pb0162_01.row.prog w) A (call (.builtin "len") [.ref W]) Q E s := by
  have e : ((ws.map fun e => Value.ref e.ad).toArray.size : Int) = ws.length := by simp
  refine call_len_list (items := (ws.map fun e => Value.ref e.ad).toArray) ⟨_, N.get hm, rfl, n, rfl⟩ (by rw [e]; omega) ?_
  rw [e]
  exact h _ _
theorem wpairs_X {xs : Array UInt8} {b x dx d W : Addr} {t : Tok} {k : Int} {n : Nat} {P ws : List PE} {dO : Obj} {p : Nat}
 (B : Below A₀ base outer h₀) (F : Fr h₀ L s.heap m) (X : (hd.heap_1 w.params).In h₀) (N : News h₀ L s.heap ((W, lstW ws n) :: (b, baObj xs) :: (x, instObj 153 dx) :: (dx, outDict b t k) :: (d, dO) :: news)) (T : Top hd.view_1 (looseW hd.view_1 [Str.ofString "ShapeError", Str.ofString "write_kern"]) mean mg mb h₀) (hk : cs.kind = .function) (hroom : dp + 6 < recursionLimit) (hun : un + 48 < cLine)
 (hO : DictP w dO P) (hT : ∀ e ∈ P, e.tup ∈ news) (hn : (P.map (·.key)).Nodup) (hsub : ∀ e ∈ ws, e ∈ P)
 (hk0 : ∀ e ∈ P, 0 ≤ e.key.1 ∧ e.key.1 < 65536 ∧ 0 ≤ e.key.2 ∧ e.key.2 < 65536 ∧ -32768 ≤ e.val ∧ e.val ≤ 32767)
 (hp0 : (2 : Int) ^ p ≤ ws.length) (hp1 : (ws.length : Int) < 2 ^ (p + 1)) (hw : ws.length < 16) (hz : xs.size ≤ 3000)
 (hb : ∀ q ∈ (x, instObj 153 dx) :: (dx, outDict b t k) :: (d, dO) :: news, q.1 ≠ b) (hW : ∀ q ∈ (b, baObj xs) :: (x, instObj 153 dx) :: (dx, outDict b t k) :: (d, dO) :: news, q.1 ≠ W)
 (hret : ∀ ys h' tk', KBw.bInts ys = subEnc ws p → Fr h₀ L h' m → News h₀ L h' ((b, baObj (xs ++ ys)) :: (x, instObj 153 dx) :: (dx, outDict b t k) :: (d, dO) :: news) → Q .none {s with heap := h', toks := tk'}) :
 wpX (model PySem.Challenge.rw_pb0162_01.row.prog w) (ktrTop dp un gd cn cs L a ccd cl outer) (call (.ref 171) [.ref x, .ref d, .ref W]) Q NoE s := by
  k_with_none
  (k_with "call builtin:len" => (k_here; k_dflt (refine lenW (by k_asm) (by k_mem) (by omega) ?_); intro t9Z k9Z; (try dsimp only)))
  (k_with "call ref" => (k_here; (with_reducible show wpAny _ _ (call (Value.ref 164) [Value.int _ _]) _ _ _); k_dflt (refine' row_tells _ (by k_asm) (by k_asm) (by k_asm) (by k_asm) (by k_asm) (by first | exact rfl | assumption) (by ktr_room) (by ktr_units) (by assumption) (by assumption) (by omega) ?_); intro l9Z vs9Z h9Z tk9Z hi9Z F9Z N9Z l9Z; (try dsimp only); (try k_fold)))
  (k_with "pyIter ref" => (refine Stop.out ?_))
  have hWb : b ≠ W := hW (b, baObj xs) (.head _)
  revert X; k_fill; intro X
  refine wpX_call ?_
  k_dflt (refine' codeX_def ?k1 ?k2 ?k3 ?k4 ?k5 ?kA ?kF ?kK ?k6 ?k7 ?k8 ?k9 ?kB ?_ ?c2 ?c3 ?c4 ?c5; (case kA => exact rfl); (case kF => exact rfl); (case kK => first | assumption | exact rfl); (case k1 => k_asm); (case k2 => k_asm); (case k3 => k_asm); (case k4 => k_asm); (case k5 => k_asm); (case k6 => k_is); (case k7 => k_is); (case k8 => ktr_room); (case k9 => first | exact BindsTo.of_eq rfl | exact binds_K (by k_in) rfl (by k_is) rfl rfl rfl); (case c5 => decide); (case kB => exact locs rfl); (case c2 => exact rfl); (case c3 => exact rfl); (case c4 => exact rfl); k_whole; intro g' L' h' FG' F' N' B' X' T'; (try dsimp only); (try k_lift B'); (try k_fold))
  refine wpX_execs_cons (wpX_Expr (methodCall_X ?_))
  k_steps
  refine callWith_XK (K := hd.heap_1 w.params) rfl ?_
  k_steps
  refine wpX_of0 ?_
  k_dflt (refine' rows_X (xs := xs) (b := b) (dx := dx) (t := t) (k := k) (ns := headOf ws.length p) (news := (W, lstW ws n) :: (d, dO) :: news) ?kB ?kF ?kX ?kN ?kT ?kk ?kr ?ku ?i ?r ?l2 ?z ?b ?_; (case i => assumption); (case kN => exact newsDrop (by k_asm) (by ((repeat (refine List.forall_mem_cons.mpr (And.intro (by (repeat (first | exact List.Mem.head _ | refine List.Mem.tail _ ?_))) ?_))); intro p9 hp9; (repeat' (first | exact hp9 | refine List.Mem.tail _ ?_ | refine List.mem_append_left _ ?_))))); (case kB => k_asm); (case kF => k_asm); (case kX => k_asm); (case kT => k_asm); (case kk => first | exact rfl | assumption); (case kr => ktr_room); (case ku => ktr_units))
  case r => exact headOf_in hp0 hw
  case l2 => rw [headOf_len]; omega
  case z => rw [headOf_len]; omega
  case b =>
    (repeat (refine List.forall_mem_cons.mpr (And.intro (by first | (refine hb _ ?_; (repeat (first | assumption | exact List.Mem.head _ | refine List.Mem.tail _ ?_ | refine List.mem_append_left _ ?_)); done) | (refine hW _ ?_; (repeat (first | assumption | exact List.Mem.head _ | refine List.Mem.tail _ ?_ | refine List.mem_append_left _ ?_)); done) | exact Ne.symm hWb | exact hWb | k_ne) ?_)))
    exact fun q hq => hb q (by (repeat (first | assumption | exact List.Mem.head _ | refine List.Mem.tail _ ?_ | refine List.mem_append_left _ ?_)))
  intro ys0 h9 tk9 hy0 F9 N9
  (try dsimp only)
  refine wpX_execs_cons (wpX_of0 (For_X (h₀ := g') (by rfl) (by rfl) ?_))
  k_steps
  refine Stop.go (loopW_X (ws := ws) (n := n) (news := (b, baObj (xs ++ ys0)) :: (x, instObj 153 dx) :: (dx, outDict b t k) :: (d, dO) :: news) (by k_asm) (newsDrop (by k_asm) (by ((repeat (refine List.forall_mem_cons.mpr (And.intro (by (repeat (first | exact List.Mem.head _ | refine List.Mem.tail _ ?_))) ?_))); intro p9 hp9; (repeat' (first | exact hp9 | refine List.Mem.tail _ ?_ | refine List.mem_append_left _ ?_))))) ?hW rfl
    (fun i nx => ∃ zs, nx = (b, baObj (xs ++ ys0 ++ zs)) :: (x, instObj 153 dx) :: (dx, outDict b t k) :: (d, dO) :: news ∧ KBw.bInts zs = (ws.take i).flatMap pairEnc) ?j ?turn ?done)
  case hW =>
    refine List.forall_mem_cons.mpr (And.intro (hW (b, baObj xs) (.head _)) ?_)
    exact fun q hq => hW q (.tail _ hq)
  case j => exact ⟨#[], by simp, rfl⟩
  case turn =>
    rintro i e _ h8 tk8 own hi hoff ⟨zs, rfl, hzs⟩ F8 N8
    have hmem := List.mem_of_getElem? hi
    have s0 : ys0.size = 14 := by rw [← KBw.ints_length, hy0, oct2_len]; rfl
    have s1 : zs.size ≤ 90 := by
      rw [← KBw.ints_length, hzs, pairsEnc_len, List.length_take]
      omega
    obtain ⟨nw, hnw⟩ : ∃ nw, news ++ own = nw := ⟨_, rfl⟩
    have hTw : ∀ e ∈ P, e.tup ∈ nw := fun e he => hnw ▸ List.mem_append_left _ (hT e he)
    have hbw : ∀ q ∈ nw, q.1 ≠ b := fun q hq => by
      rw [← hnw] at hq
      rcases List.mem_append.mp hq with hq | hq
      · exact hb q (by (repeat (first | assumption | exact List.Mem.head _ | refine List.Mem.tail _ ?_ | refine List.mem_append_left _ ?_)))
      · exact hoff q hq b (.head _)
    simp only [List.cons_append, hnw] at N8
    have N7 : News g' L' h8 ((e.ad, T2 e.key e.t e.u) :: (b, baObj (xs ++ ys0 ++ zs)) :: (x, instObj 153 dx) :: (dx, outDict b t k) :: (d, dO) :: nw) := by
      intro q hq
      rcases List.mem_cons.mp hq with rfl | hq
      · exact N8 _ (.tail _ (.tail _ (.tail _ (.tail _ (hTw e (hsub e hmem))))))
      · exact N8 _ hq
    refine wpX_execs_cons (wpX_Expr (methodCall_X ?_))
    k_steps
    refine callWith_XK (K := hd.heap_1 w.params) rfl ?_
    k_steps
    refine wpX_of0 ?_
    k_dflt (refine' rows_X (xs := xs ++ ys0 ++ zs) (b := b) (dx := dx) (t := t) (k := k) (ns := [e.key.1, e.key.2]) (news := (d, dO) :: nw) ?kB ?kF ?kX ?kN ?kT ?kk ?kr ?ku ?i ?r ?l2 ?z ?b ?_; (case kN => exact newsDrop (by k_asm) (by ((repeat (refine List.forall_mem_cons.mpr (And.intro (by (repeat (first | exact List.Mem.head _ | refine List.Mem.tail _ ?_))) ?_))); intro p9 hp9; (repeat' (first | exact hp9 | refine List.Mem.tail _ ?_ | refine List.mem_append_left _ ?_))))); (case i => exact .cons _ _ (.cons _ _ .nil)); (case kB => k_asm); (case kF => k_asm); (case kX => k_asm); (case kT => k_asm); (case kk => first | exact rfl | assumption); (case kr => ktr_room); (case ku => ktr_units))
    case r =>
      obtain ⟨c1, c2, c3, c4, _⟩ := hk0 e (hsub e hmem)
      intro v hv
      simp only [List.mem_cons, List.not_mem_nil, or_false] at hv
      rcases hv with rfl | rfl
      · exact ⟨c1, c2⟩
      · exact ⟨c3, c4⟩
    case l2 => exact Nat.le_refl _
    case z =>
      rw [Array.size_append, Array.size_append, s0]
      show _ + 2 * 2 ≤ _
      omega
    case b =>
      (repeat (refine List.forall_mem_cons.mpr (And.intro (by first | (refine hb _ ?_; (repeat (first | assumption | exact List.Mem.head _ | refine List.Mem.tail _ ?_ | refine List.mem_append_left _ ?_)); done) | (refine hW _ ?_; (repeat (first | assumption | exact List.Mem.head _ | refine List.Mem.tail _ ?_ | refine List.mem_append_left _ ?_)); done) | exact Ne.symm hWb | exact hWb | k_ne) ?_)))
      exact hbw
    intro ys1 h7 tk7 hy1 F7 N6
    (try dsimp only)
    refine wpX_execs_cons (wpX_Expr (methodCall_X ?_))
    k_steps
    refine callWith_XK (K := hd.heap_1 w.params) rfl ?_
    k_steps
    refine pairs_sub (P := P) (dO := dO) (show News _ _ _ _ by k_asm) (by ktr_units) (by (repeat (first | assumption | exact List.Mem.head _ | refine List.Mem.tail _ ?_ | refine List.mem_append_left _ ?_))) hO (fun e he => ?hTT) hn (hsub e hmem) fun k6 => ?_
    case hTT => exact .tail _ (.tail _ (.tail _ (.tail _ (.tail _ (hTw e he)))))
    k_steps
    have s2 : ys1.size = 4 := by rw [← KBw.ints_length, hy1, oct2_len]; rfl
    obtain ⟨_, _, _, _, c5, c6⟩ := hk0 e (hsub e hmem)
    refine wpX_of0 ?_
    k_dflt (refine' i16_X (xs := xs ++ ys0 ++ zs ++ ys1) (b := b) (dx := dx) (t := t) (k := k) (news := (d, dO) :: nw) ?kB ?kF ?kX ?kN ?kT ?kk ?kr ?ku c5 c6 ?z ?b ?_; (case kN => exact newsDrop (by k_asm) (by ((repeat (refine List.forall_mem_cons.mpr (And.intro (by (repeat (first | exact List.Mem.head _ | refine List.Mem.tail _ ?_))) ?_))); intro p9 hp9; (repeat' (first | exact hp9 | refine List.Mem.tail _ ?_ | refine List.mem_append_left _ ?_))))); (case kB => k_asm); (case kF => k_asm); (case kX => k_asm); (case kT => k_asm); (case kk => first | exact rfl | assumption); (case kr => ktr_room); (case ku => ktr_units))
    case z =>
      rw [Array.size_append, Array.size_append, Array.size_append, s0, s2]
      omega
    case b =>
      (repeat (refine List.forall_mem_cons.mpr (And.intro (by first | (refine hb _ ?_; (repeat (first | assumption | exact List.Mem.head _ | refine List.Mem.tail _ ?_ | refine List.mem_append_left _ ?_)); done) | (refine hW _ ?_; (repeat (first | assumption | exact List.Mem.head _ | refine List.Mem.tail _ ?_ | refine List.mem_append_left _ ?_)); done) | exact Ne.symm hWb | exact hWb | k_ne) ?_)))
      exact hbw
    intro ys2 h5 tk5 hy2 F5 N5
    (try dsimp only)
    refine wpX_execs_nil ?_
    refine InvEndN.intro F5 N5 ⟨fun y hy => if_neg hy, zs ++ (ys1 ++ ys2), rfl, ?_⟩ ?_ ?_ ?_
    · rw [KBw.ints_app hzs (KBw.ints_app hy1 hy2), List.take_add_one, hi, List.flatMap_append]
      congr 1
    · rfl
    · rw [show xs ++ ys0 ++ (zs ++ (ys1 ++ ys2)) = xs ++ ys0 ++ zs ++ ys1 ++ ys2 from by simp only [Array.append_assoc]]
      refine List.forall_mem_cons.mpr (And.intro (.head _) ?_)
      refine List.forall_mem_cons.mpr (And.intro (.tail _ (.head _)) ?_)
      refine List.forall_mem_cons.mpr (And.intro (.tail _ (.tail _ (.head _))) ?_)
      refine List.forall_mem_cons.mpr (And.intro (.tail _ (.tail _ (.tail _ (.head _)))) ?_)
      exact fun q hq => .tail _ (.tail _ (.tail _ (.tail _ (hnw ▸ List.mem_append_left _ hq))))
    · exact fun q hq => .tail _ (.tail _ (.tail _ (.tail _ (hnw ▸ List.mem_append_right _ hq))))
  case done =>
    rintro m₁ _ h8 tk8 hm ⟨zs, rfl, hzs⟩ F8 N8
    refine (show wpX _ _ (execs [] _) _ _ _ from wpX_execs_nil ?_)
    k_steps
    refine hret (ys0 ++ zs) _ _ ?_ (by k_asm) ?_
    · rw [KBw.ints_app hy0 hzs, List.take_length]
      rfl
    · rw [← Array.append_assoc]
      k_asm
end

end PB
namespace PB
theorem fresh22 : (if True then True else True) := by
  w_top off
  try (walk1; trivial)
  try simp
/-- a dict by its raw entries -/
noncomputable def RawD (h : Heap) (d : Addr) (es : Array DictEntry) (ep : Nat) : Prop := ∃ o, h.get? d = some o ∧ o.ExactDict ∧ o.data = .dict es ep
section
variable {prog : Program} {w : World} {A : Around} {E : Value → Shared → Prop} {s : Shared} {d it : Addr} {es : Array DictEntry} {ep i : Nat}
theorem RawD.typeIs (x : RawD s.heap d es ep) : s.TypeIs (.ref d) "dict" := let ⟨o, ho, hc, _⟩ := x; ⟨o, ho, hc.1⟩
theorem RawD.at' {h h' : Heap} (x : RawD h d es ep) (e : ∀ o, h.get? d = some o → h'.get? d = some o) : RawD h' d es ep := let ⟨o, ho, r⟩ := x; ⟨o, e _ ho, r⟩
theorem raw_iter {Q : Value → Shared → Prop} (hd : (d == sysModules) = false) (x : RawD s.heap d es ep)
    (hQ : Q (.ref s.heap.objs.size) { s with heap := s.heap.push { cls := .type "dict_keyiterator", data := .fields #[.ref d, .int 0 0, .int es.size 0, .int ep 0] } }) : wpAny (model prog w) A (pyIter (.ref d)) Q E s := by
  have hT := x.typeIs
  obtain ⟨o, ho, _, hdat⟩ := x
  refine wpAny_pyIter_slot hT F.slot_dict_iter (wpAny_call_entry F.slot_dict_iter hT F.entry_dict_iter ?_ (F.args_dict_iter_1 _))
  unfold Builtin.«dict.__iter__»
  refine wpAny_bind ?_
  unfold Builtin.Dict.dictSlotNone
  refine wpAny_bind (wpAny_notOrdered_dict hT ?_)
  show wpAny _ _ (pure (Value.ref d)) _ _ s
  refine wpAny_pure ?_
  show wpAny _ _ (Builtin.Dict.showsAll d >>= _) _ _ s
  unfold Builtin.Dict.showsAll
  rw [if_neg (by rw [hd]; exact Bool.false_ne_true)]
  refine wpAny_bind (wpAny_pure (wpAny_bind (wpAny_dictEntries ho hdat (wpAny_bind (wpAny_dictEpoch ho hdat ?_)))))
  exact wpAny_bind (wpAny_newObj_type (wpAny_pure ⟨_, rfl, "dict_keyiterator", _, ⟨_, Heap.get?_push_size _ rfl, rfl⟩, F.slot_dict_keyiterator_next.lookup, hQ⟩))
/-- both ways of a step of the keys' iterator -/
theorem raw_next {Q : Option Value → Shared → Prop} (hh : A.handled = none) (hit : s.heap.IsKeyIter it d i es.size ep) (x : RawD s.heap d es ep)
    (hQ : ∀ (hi : i < es.size) h', h'.IsKeyIter it d (i + 1) es.size ep → Heap.SameBut it s.heap h' → Q (some es[i].key) { s with heap := h' })
    (hE : es.size ≤ i → ∀ h', Heap.ExtBut it s.heap h' → Q none { s with heap := h' }) : wpAny (model prog w) A (pyNext (.ref it)) Q E s := by
  obtain ⟨o, ho, hc, hd⟩ := id hit
  obtain ⟨od, hod, _, hdd⟩ := x
  unfold pyNext
  refine wpAny_bind (wpAny_attempt (wpAny_callSpecial?_slot (name := Str.ofString "__next__") hit.typeIs F.slot_dict_keyiterator_next
    (wpAny_call_entry F.slot_dict_keyiterator_next hit.typeIs F.entry_dict_keyiterator_next ?_ (F.args_dict_keyiterator_next_1 _))))
  refine wpAny_bind (wpAny_pure (wpAny_bind (wpAny_bind ?_)))
  refine wpAny_bind (wpAny_typeNameOfWhole_keyiter hit.typeIs (wpAny_pure (wpAny_bind (wpAny_fieldsOf ho hd ?_))))
  simp only [show Builtin.Dict_items.ownsTuple "dict_keyiterator" = false from by decide, Bool.false_eq_true, if_false]
  show wpAny _ _ (if (Value.ref d == Value.none) = true then _ else _) _ _ s
  rw [if_neg (show ¬ ((Value.ref d == Value.none) = true) from Bool.false_ne_true)]
  refine wpAny_bind (wpAny_pure (wpAny_bind (wpAny_dictEntries hod hdd ?_)))
  rw [if_neg (by simp)]
  refine wpAny_bind (wpAny_pure (wpAny_bind (wpAny_dictEpoch hod hdd ?_)))
  rw [if_neg (by simp)]
  refine wpAny_pure ?_
  by_cases hi : i < es.size
  · simp only [show ¬ ((i : Int) < 0) from by omega, if_false, Int.toNat_natCast, Array.getElem?_eq_getElem hi]
    refine wpAny_bind (wpAny_bind (wpAny_typeNameOfWhole_keyiter hit.typeIs (wpAny_pure (wpAny_bind (wpAny_isOneOf_keyiter hit.typeIs ?_)))))
    show wpAny _ _ (setField (.ref it) 1 (rawInt ((i : Int) + 1)) >>= _) _ _ s
    refine wpAny_bind (wpAny_setField ho hd (by simp) ?_)
    have hit' : (s.heap.update it (Obj.mapFields (·.setIfInBounds 1 (rawInt ((i : Int) + 1))))).IsKeyIter it d (i + 1) es.size ep :=
      ⟨_, Heap.get?_update_self _ ho (Obj.isFreed_of_fields (Obj.data_mapFields hd _)), (Obj.cls_mapFields ..).trans hc, by rw [Obj.data_mapFields hd]; simp [rawInt]⟩
    refine wpAny_bind (wpAny_holding ?_)
    refine wpAny_bind (wpAny_isOneOf_keyiter (s := { s with heap := s.heap.update it (Obj.mapFields (·.setIfInBounds 1 (rawInt ((i : Int) + 1)))) }) hit'.typeIs ?_)
    show wpAny _ _ (pure es[i].key) _ _ _
    exact wpAny_pure (wpAny_pure ⟨_, rfl, wpAny_pure (hQ hi _ hit' (Heap.SameBut.update ..))⟩)
  · have hge : es.size ≤ i := by omega
    simp only [show ¬ ((i : Int) < 0) from by omega, if_false, Int.toNat_natCast, Array.getElem?_eq_none hge]
    refine wpAny_bind (wpAny_bind (wpAny_typeNameOfWhole_keyiter hit.typeIs (wpAny_pure ?_)))
    show wpAny _ _ (setField (.ref it) 0 .none >>= _) _ _ s
    refine wpAny_bind (wpAny_setField ho hd (by simp) ?_)
    show wpAny _ _ (newExc (.type "StopIteration") [] >>= _) _ _ _
    refine wpAny_bind ?_
    simp only [newExc, newTuple]
    refine wpAny_bind (wpAny_newObj_type ?_ (by size_fits))
    refine wpAny_bind (m := firstArgMember _ _) (wpAny_of_eq (a := Value.none) (by first | rfl | (simp only [firstArgMember]; rfl)) ?_)
    refine wpAny_newObj_type ?_ (by size_fits)
    simp only [raiseNew]
    refine wpAny_bind (wpAny_handled ?_)
    rw [show A.in1.handled = none from hh]
    refine wpAny_bind (wpAny_pure (wpAny_throw ?_))
    refine wpAny_bind (wpAny_isInstance (T := "StopIteration") (b := true) ⟨_, Heap.get?_push_size _ rfl, rfl⟩ isSubtype_stop ?_)
    exact wpAny_pure (hE hge _ (((Heap.SameBut.update ..).extBut.push _).push _))
theorem rawWalks {I : Addr} (hh : A.handled = none) (hne : d ≠ I) : Walks prog w A I [I, d] [I] es.size (fun i v => ∃ hi : i < es.size, v = es[i].key) (fun i h => h.IsKeyIter I d i es.size ep ∧ RawD h d es ep) where
  sub := fun b hb => by simp at hb; simp [hb]
  frame := fun _ _ _ st hk => ⟨st.1.at fun o e => hk I (by simp) o e, st.2.at' fun o e => hk d (by simp) o e⟩
  item := fun i s Q E hi st hQ => raw_next hh st.1 st.2
    (fun hi' h' hit' hs' => hQ _ h' s.toks ⟨hi', rfl⟩ ⟨hit', st.2.at' fun o e => hs'.extBut d o hne e⟩ fun b o hb e => hs'.extBut b o (fun h => hb (by simp [h])) e) fun hge => absurd hi (by omega)
  done := fun s Q E st hQ => raw_next hh st.1 st.2 (fun hi => absurd hi (by omega)) fun _ h' he' => hQ h' s.toks fun b o hb e => he' b o (fun h => hb (by simp [h])) e
  self := fun _ _ _ _ st hQ => wpAny_pyIter_keyiter st.1 hQ
theorem rawSrc (lo : (d == sysModules) = false) : KdlSrc prog w "dict" d d es.size (fun i v => ∃ hi : i < es.size, v = es[i].key) (fun h => RawD h d es ep) where
  type := fun _ hm => hm.typeIs
  there := fun _ ⟨_, ho, _⟩ => ⟨Heap.lt_size ho, Heap.lt_size ho⟩
  keep := fun _ _ hm hk => hm.at' fun o e => hk d (.inl rfl) o e
  notList := by decide
  notTuple := by decide
  hint := fun _ _ _ _ hm hq => kdl_hint_dict hm.typeIs hq
  iter := fun _ _ hh hm => ⟨_, _, (fun _ _ hq => raw_iter lo hm hq), rawWalks hh (Nat.ne_of_lt (let ⟨_, ho, _⟩ := hm; Heap.lt_size ho)),
    ⟨⟨_, Heap.get?_push_size _ rfl, rfl, rfl⟩, hm.at' fun o e => Heap.get?_push_of_some _ e⟩⟩
end

end PB
namespace PB
theorem fresh23 : (if True then True else True) := by
  w_top off
  try (walk1; trivial)
  try simp
/-- a decision tree run by the keys' codes, its questions in range -/
noncomputable def Run {α : Type} (c : Nat → Int) (n : Nat) : KasT α → (α → Prop) → Prop
  | .ret a, Q => Q a
  | .ask i j k, Q => i < n ∧ j < n ∧ Run c n (k (decide (c i < c j))) Q
theorem Run.mono {α : Type} {c : Nat → Int} {n : Nat} {Q Q' : α → Prop} (hq : ∀ a, Q a → Q' a) : ∀ t : KasT α, Run c n t Q → Run c n t Q'
  | .ret a, h => hq a h
  | .ask _ _ k, h => ⟨h.1, h.2.1, Run.mono hq (k _) h.2.2⟩
theorem Run.bind {α β : Type} {c : Nat → Int} {n : Nat} {f : α → KasT β} {Q : β → Prop} : ∀ t : KasT α, Run c n t (fun a => Run c n (f a) Q) → Run c n (t.bind f) Q
  | .ret a, h => h
  | .ask _ _ k, h => ⟨h.1, h.2.1, Run.bind (k _) h.2.2⟩
theorem Run.wp {α : Type} {c : Nat → Int} {n : Nat} {cmp : Nat → Nat → (Bool → Shared → Prop) → Shared → Prop} {s : Shared} {Q : α → Shared → Prop}
    (hc : ∀ i j (C : Bool → Shared → Prop), i < n → j < n → C (decide (c i < c j)) s → cmp i j C s) : ∀ t : KasT α, Run c n t (fun a => Q a s) → t.kasWp cmp Q s
  | .ret _, h => h
  | .ask i j k, h => hc i j _ h.1 h.2.1 (Run.wp hc (k _) h.2.2)
/-- the code at a place -/
noncomputable def Cd (c : Nat → Int) (p : Array Nat) (k : Nat) : Int := c (p.getD k 0)
noncomputable def IsP (n : Nat) (p : Array Nat) : Prop := p.toList.Perm (List.range n)
noncomputable def Up (c : Nat → Int) (p : Array Nat) (k : Nat) : Prop := ∀ i j, i < j → j < k → Cd c p i < Cd c p j
section
variable {c : Nat → Int} {n : Nat} {p : Array Nat}
theorem IsP.size (h : IsP n p) : p.size = n := by
  have := List.Perm.length_eq h
  simpa using this
theorem IsP.lt (h : IsP n p) {k : Nat} (hk : k < n) : p.getD k 0 < n := by
  have hs := h.size
  have e : p.getD k 0 = p[k]'(by omega) := by simp [Array.getD, hs, hk]
  rw [e]
  have hm : p[k]'(by omega) ∈ p.toList := by simp
  have := (List.Perm.mem_iff h).mp hm
  simpa using this
theorem IsP.inj (h : IsP n p) {i j : Nat} (hi : i < n) (hj : j < n) (e : p.getD i 0 = p.getD j 0) : i = j := by
  have hs := h.size
  have hn : p.toList.Nodup := (List.Perm.nodup_iff h).mpr List.nodup_range
  have e1 : p.getD i 0 = p.toList[i]'(by simp; omega) := by simp [Array.getD, hs, hi]
  have e2 : p.getD j 0 = p.toList[j]'(by simp; omega) := by simp [Array.getD, hs, hj]
  rw [e1, e2] at e
  exact (List.getElem_inj hn).mp e
theorem Cd_ne (hc : ∀ i j, i < n → j < n → i ≠ j → c i ≠ c j) (h : IsP n p) {i j : Nat} (hi : i < n) (hj : j < n) (hij : i ≠ j) : Cd c p i ≠ Cd c p j :=
  hc _ _ (h.lt hi) (h.lt hj) fun e => hij (h.inj hi hj e)
theorem Up.more {k : Nat} (h : Up c p k) (h1 : 1 ≤ k) (h2 : Cd c p (k - 1) < Cd c p k) : Up c p (k + 1) := by
  intro i j hij hj
  by_cases e : j = k
  · subst e
    by_cases e2 : i = j - 1
    · subst e2; exact h2
    · have := h i (j - 1) (by omega) (by omega)
      omega
  · exact h i j hij (by omega)
theorem Up.upTo {k m : Nat} (h : Up c p k) (h1 : 1 ≤ k) (hs : ∀ j, k ≤ j → j < m → Cd c p (j - 1) < Cd c p j) (hm : k ≤ m) : Up c p m := by
  induction m with
  | zero => omega
  | succ m ih =>
    by_cases e : k = m + 1
    · subst e; exact h
    · have hm' : k ≤ m := by omega
      have := ih (fun j a b => hs j a (by omega)) hm'
      exact this.more (by omega) (hs m hm' (by omega))
theorem asc_run (hc : ∀ i j, i < n → j < n → i ≠ j → c i ≠ c j) (h : IsP n p) : ∀ (f m : Nat), 1 ≤ m → m + f ≤ n →
    Run c n (kas_asc p f m) fun r => m ≤ r ∧ r ≤ m + f ∧ (∀ j, m ≤ j → j < r → Cd c p (j - 1) < Cd c p j) ∧ (r < m + f → Cd c p r < Cd c p (r - 1))
  | 0, m, h1, h2 => ⟨Nat.le_refl _, Nat.le_refl _, fun j a b => absurd a (by omega), fun a => absurd a (by omega)⟩
  | f + 1, m, h1, h2 => by
    refine ⟨h.lt (by omega), h.lt (by omega), ?_⟩
    by_cases q : c (p.getD m 0) < c (p.getD (m - 1) 0)
    · rw [decide_eq_true q]
      dsimp only
      rw [if_pos rfl]
      exact ⟨Nat.le_refl _, by omega, fun j a b => absurd a (by omega), fun _ => q⟩
    · rw [decide_eq_false q]
      dsimp only
      rw [if_neg Bool.false_ne_true]
      refine Run.mono (fun r hr => ?_) _ (asc_run hc h f (m + 1) (by omega) (by omega))
      obtain ⟨r1, r2, r3, r4⟩ := hr
      refine ⟨by omega, by omega, fun j a b => ?_, fun a => r4 (by omega)⟩
      by_cases e : j = m
      · subst e
        have := Cd_ne hc h (i := j) (j := j - 1) (by omega) (by omega) (by omega)
        have q' : ¬ Cd c p j < Cd c p (j - 1) := q
        omega
      · exact r3 j (by omega) b
theorem desc_run (hc : ∀ i j, i < n → j < n → i ≠ j → c i ≠ c j) (h : IsP n p) : ∀ (f m : Nat), 1 ≤ m → m + f ≤ n →
    Run c n (kas_desc f p m 0) fun r => r.1 = p ∧ r.2.2 = 0 ∧ m ≤ r.2.1 ∧ r.2.1 ≤ m + f ∧ (∀ j, m ≤ j → j < r.2.1 → Cd c p j < Cd c p (j - 1))
  | 0, m, h1, h2 => ⟨rfl, rfl, Nat.le_refl _, Nat.le_refl _, fun j a b => absurd a (Nat.not_le.mpr b)⟩
  | f + 1, m, h1, h2 => by
    refine ⟨h.lt (by omega), h.lt (by omega), ?_⟩
    by_cases q : c (p.getD m 0) < c (p.getD (m - 1) 0)
    · rw [decide_eq_true q]
      dsimp only
      rw [if_pos rfl, if_neg (Nat.lt_irrefl 0)]
      refine Run.mono (fun r hr => ?_) _ (desc_run hc h f (m + 1) (by omega) (by omega))
      obtain ⟨r0, r1, r2, r3, r4⟩ := hr
      refine ⟨r0, r1, by omega, by omega, fun j a b => ?_⟩
      by_cases e : j = m
      · subst e; exact q
      · exact r4 j (by omega) b
    · rw [decide_eq_false q]
      dsimp only
      rw [if_neg Bool.false_ne_true]
      refine ⟨h.lt (by omega), h.lt (by omega), ?_⟩
      have ne := Cd_ne hc h (i := m) (j := m - 1) (by omega) (by omega) (by omega)
      have q' : ¬ Cd c p m < Cd c p (m - 1) := q
      have q2 : Cd c p (m - 1) < Cd c p m := by omega
      rw [decide_eq_true (show c (p.getD (m - 1) 0) < c (p.getD m 0) from q2)]
      dsimp only
      rw [if_pos rfl]
      exact ⟨rfl, rfl, Nat.le_refl _, by show m ≤ m + (f + 1); omega, fun j a b => absurd a (Nat.not_le.mpr b)⟩
theorem getD_of {p q : Array Nat} {i j : Nat} (h : p[i]? = q[j]?) : p.getD i 0 = q.getD j 0 := by
  rw [Array.getD_eq_getD_getElem?, Array.getD_eq_getD_getElem?, h]
theorem rev_Cd (h : IsP n p) {r : Nat} (hr : r ≤ n) (k : Nat) : Cd c (kas_rev p 0 r) k = if k < r then Cd c p (r - 1 - k) else Cd c p k := by
  have e := getElem?_mirror_all (xs := p) (i := 0) (j := r) (by rw [h.size]; exact hr) k
  unfold Cd kas_rev
  split
  · rename_i hk
    rw [if_pos ⟨Nat.zero_le _, hk⟩] at e
    rw [getD_of e]
    congr 2
    omega
  · rename_i hk
    rw [if_neg (fun q => hk q.2)] at e
    rw [getD_of e]
theorem rev_isP (h : IsP n p) (i j : Nat) : IsP n (kas_rev p i j) := (Array.Perm.toList (mirror_perm p i j _)).trans h
theorem count_run (hc : ∀ i j, i < n → j < n → i ≠ j → c i ≠ c j) (h : IsP n p) (h1 : 1 ≤ n) :
    Run c n (kas_count n p) fun r => 1 ≤ r.1 ∧ r.1 ≤ n ∧ IsP n r.2 ∧ Up c r.2 r.1 := by
  unfold kas_count
  refine Run.bind _ (Run.mono (fun r hr => ?_) _ (asc_run hc h (n - 1) 1 (Nat.le_refl _) (by omega)))
  obtain ⟨r1, r2, r3, r4⟩ := hr
  have up1 : Up c p 1 := fun i j a b => by omega
  have up : Up c p r := up1.upTo (Nat.le_refl _) r3 r1
  by_cases e : r = n
  · rw [if_pos (beq_iff_eq.mpr e)]
    exact ⟨r1, by omega, h, up⟩
  · rw [if_neg (fun q => e (beq_iff_eq.mp q))]
    by_cases g : r > 1
    · rw [if_pos g]
      refine ⟨h.lt (by omega), h.lt (by omega), ?_⟩
      have := up 0 (r - 1) (by omega) (by omega)
      rw [decide_eq_true (show c (p.getD 0 0) < c (p.getD (r - 1) 0) from this)]
      dsimp only
      rw [if_pos rfl]
      exact ⟨r1, by omega, h, up⟩
    · rw [if_neg g]
      obtain rfl : r = 1 := by omega
      have first := r4 (by omega)
      unfold kas_descPart
      refine Run.bind _ (Run.mono (fun x hx => ?_) _ (desc_run hc h (n - 2) 2 (by omega) (by omega)))
      obtain ⟨y, m, q⟩ := x
      obtain ⟨x0, x1, x2, x3, x4⟩ := hx
      dsimp only at x0 x1 x2 x3 x4 ⊢
      subst x0 x1
      rw [if_neg (Nat.lt_irrefl 0)]
      unfold kas_tail3
      have h' := rev_isP h 0 m
      have down : ∀ i j, i < j → j < m → Cd c y j < Cd c y i := by
        intro i j hij hj
        induction j with
        | zero => omega
        | succ j ih =>
          have st : Cd c y (j + 1) < Cd c y j := by
            by_cases e0 : j = 0
            · subst e0; exact first
            · exact x4 (j + 1) (by omega) hj
          by_cases e1 : i = j
          · subst e1; exact st
          · have := ih (by omega) (by omega)
            omega
      have up' : Up c (kas_rev y 0 m) m := by
        intro i j hij hj
        rw [rev_Cd h (by omega), rev_Cd h (by omega), if_pos (by omega), if_pos hj]
        exact down _ _ (by omega) (by omega)
      refine Run.bind _ (Run.mono (fun z hz => ?_) _ (asc_run hc h' (n - m) m (by omega) (by omega)))
      obtain ⟨z1, z2, z3, z4⟩ := hz
      exact ⟨by show 1 ≤ z; omega, by show z ≤ n; omega, h', up'.upTo (by omega) z3 z1⟩
theorem place_run (hc : ∀ i j, i < n → j < n → i ≠ j → c i ≠ c j) (h : IsP n p) {k : Nat} (hk : k < n) (up : Up c p k) : ∀ (f l r : Nat), r - l ≤ f → l ≤ r → r ≤ k → (∀ j, j < l → Cd c p j < Cd c p k) → (∀ j, r ≤ j → j < k → Cd c p k < Cd c p j) →
    Run c n (kas_place p k f l r) fun x => x ≤ k ∧ (∀ j, j < x → Cd c p j < Cd c p k) ∧ (∀ j, x ≤ j → j < k → Cd c p k < Cd c p j)
  | 0, l, r, h1, h2, h3, a, b => by
    obtain rfl : l = r := by omega
    exact ⟨h3, a, b⟩
  | f + 1, l, r, h1, h2, h3, a, b => by
    unfold kas_place
    by_cases e : l ≥ r
    · rw [if_pos e]
      obtain rfl : l = r := by omega
      exact ⟨h3, a, b⟩
    · rw [if_neg e]
      have m1 : (l + r) / 2 < r := by omega
      have m0 : l ≤ (l + r) / 2 := by omega
      generalize (l + r) / 2 = m at m1 m0 ⊢
      refine ⟨h.lt hk, h.lt (by omega), ?_⟩
      by_cases q : c (p.getD k 0) < c (p.getD m 0)
      · rw [decide_eq_true q]
        dsimp only
        rw [if_pos rfl]
        refine place_run hc h hk up f l m (by omega) m0 (by omega) a fun j j1 j2 => ?_
        have q' : Cd c p k < Cd c p m := q
        by_cases e1 : j = m
        · subst e1; exact q'
        · have := up m j (by omega) j2
          omega
      · rw [decide_eq_false q]
        dsimp only
        rw [if_neg Bool.false_ne_true]
        have q' : ¬ Cd c p k < Cd c p m := q
        have ne := Cd_ne hc h (i := k) (j := m) hk (by omega) (by omega)
        refine place_run hc h hk up f (m + 1) r (by omega) (by omega) h3 (fun j j1 => ?_) b
        by_cases e1 : j = m
        · subst e1; omega
        · have := up j m (by omega) (by omega)
          omega
theorem bubble_Cd (h : IsP n p) {k l : Nat} (hk : k < n) (hl : l ≤ k) (i : Nat) : Cd c (bubble p k (k - l)) i = if i = l then Cd c p k else if l < i ∧ i ≤ k then Cd c p (i - 1) else Cd c p i := by
  have e := getElem?_bubble (xs := p) (src := k) (by rw [h.size]; exact hk) (k - l) (by omega) i
  rw [show k - (k - l) = l by omega] at e
  unfold Cd
  split
  · rename_i q
    rw [if_pos q] at e
    rw [getD_of e]
  · rename_i q
    rw [if_neg q] at e
    split
    · rename_i q2
      rw [if_pos q2] at e
      rw [getD_of e]
    · rename_i q2
      rw [if_neg q2] at e
      rw [getD_of e]
theorem bin_run (hc : ∀ i j, i < n → j < n → i ≠ j → c i ≠ c j) : ∀ (f : Nat) (p : Array Nat) (k : Nat), IsP n p → k + f = n → Up c p k → Run c n (kas_bin f p k) fun q => IsP n q ∧ Up c q n
  | 0, p, k, h, e, up => ⟨h, by
    obtain rfl : k = n := by omega
    exact up⟩
  | f + 1, p, k, h, e, up => by
    unfold kas_bin
    refine Run.bind _ (Run.mono (fun l hl => ?_) _ (place_run hc h (by omega) up k 0 k (by omega) (by omega) (Nat.le_refl _) (fun j hj => by omega) fun j a b => by omega))
    obtain ⟨l1, l2, l3⟩ := hl
    have h' : IsP n (bubble p k (k - l)) := (Array.Perm.toList (bubble_perm p k _)).trans h
    refine bin_run hc f _ (k + 1) h' (by omega) fun i j hij hj => ?_
    rw [bubble_Cd h (by omega) l1, bubble_Cd h (by omega) l1]
    have u := up
    by_cases i1 : i = l
    · rw [if_pos i1, if_neg (by omega), if_pos (by omega)]
      exact l3 _ (by omega) (by omega)
    · rw [if_neg i1]
      by_cases j1 : j = l
      · rw [if_pos j1, if_neg (by omega)]
        exact l2 _ (by omega)
      · rw [if_neg j1]
        by_cases i2 : l < i ∧ i ≤ k
        · rw [if_pos i2, if_pos (by omega)]
          exact u _ _ (by omega) (by omega)
        · rw [if_neg i2]
          by_cases j2 : l < j ∧ j ≤ k
          · rw [if_pos j2]
            by_cases e3 : i = j - 1
            · omega
            · exact u _ _ (by omega) (by omega)
          · rw [if_neg j2]
            exact u _ _ (by omega) (by omega)
theorem sort_run (hc : ∀ i j, i < n → j < n → i ≠ j → c i ≠ c j) (h1 : 1 ≤ n) : Run c n (kas_sort n) fun q => IsP n q ∧ Up c q n := by
  unfold kas_sort
  have h0 : IsP n (List.toArray (List.range n)) := List.Perm.refl _
  refine Run.bind _ (Run.mono (fun r hr => ?_) _ (count_run hc h0 h1))
  obtain ⟨r1, r2, r3, r4⟩ := hr
  by_cases e : r.1 < n
  · rw [if_pos e, show max r.1 1 = r.1 by omega]
    exact bin_run hc _ _ _ r3 (by omega) r4
  · rw [if_neg e]
    exact ⟨r3, by rw [show n = r.1 by omega]; exact r4⟩
end

end PB
namespace PB
theorem fresh24 : (if True then True else True) := by
  w_top off
  try (walk1; trivial)
  try simp
section
variable {prog : Program} {w : World} {A : Around} {E : Value → Shared → Prop} {s : Shared} {h₀ : Heap} {L : Addr} {m : Str → Option Value} {news : List (Addr × Obj)}
/-- sort of a list of none or one -/
theorem short_sort {D : Addr} {vs : List Value} {n : Nat} {Q : Value → Shared → Prop} (F : Fr h₀ L s.heap m) (N : News h₀ L s.heap ((D, W.listOf vs.toArray n) :: news)) (hne : ∀ p ∈ news, p.1 ≠ D) (h1 : vs.length < 2)
    (h : ∀ n' h', Fr h₀ L h' m → News h₀ L h' ((D, W.listOf vs.toArray n') :: news) → Q .none { s with heap := h' }) : wpAny (model prog w) A (call (.builtin "list.sort") [.ref D]) Q E s := by
  have nz := N (D, W.listOf vs.toArray n) (.head _)
  have N0 : News h₀ L s.heap news := fun p hp => N p (.tail _ hp)
  have hsz : vs.toArray.size < 2 := by rw [List.size_toArray]; exact h1
  refine wpAny_call_entry slot_list_sort ⟨_, nz.1, rfl⟩ entry_list_sort ?_ (args_list_sort _)
  rw [list_sort_plain]
  have s1 := Heap.SameBut.update s.heap D (Obj.mapSeq fun _ => (#[] : Array Value))
  obtain ⟨e1, ho1⟩ : ∃ e1, (s.heap.update D (Obj.mapSeq fun _ => (#[] : Array Value))).get? D = some (seqObj "list" #[] e1) := ⟨_, get?_update_seq nz.1 fun _ => #[]⟩
  refine wpAny_bind (listItems_at nz.1 rfl ?_)
  refine wpAny_bind (listUpdate_at nz.1 rfl ?_ (by rw [List.size_toArray, sizeLine_eq]; omega) (Nat.zero_le _))
  refine wpAny_bind (seqEpoch_at ho1 rfl ?_)
  refine wpAny_bind (wpAny_newTuple ?_ (by show vs.length ≤ _; rw [sizeLine_eq]; omega))
  refine wpAny_bind (wpAny_newList ?_ (Nat.zero_le _))
  refine wpAny_holding ?_
  show wpAny (model prog w) _ _ _ E { s with heap := ((s.heap.update D (Obj.mapSeq fun _ => (#[] : Array Value))).push (seqObj "tuple" vs.toArray 0)).push (seqObj "list" #[] 0) }
  dsimp only
  rw [if_pos hsz, if_pos hsz]
  refine wpAny_bind (wpAny_pure ?_)
  rw [StateT.run_pure]
  refine wpAny_bind (wpAny_pure ?_)
  have F3 : Fr h₀ L (((s.heap.update D (Obj.mapSeq fun _ => (#[] : Array Value))).push (seqObj "tuple" vs.toArray 0)).push (seqObj "list" #[] 0)) m := ((kas_fr F s1 nz.2.1 nz.2.2).push _).push _
  have N2 : News h₀ L (((s.heap.update D (Obj.mapSeq fun _ => (#[] : Array Value))).push (seqObj "tuple" vs.toArray 0)).push (seqObj "list" #[] 0)) news :=
    (kas_news N0 s1 hne).grown fun b x e => Heap.get?_push_of_some _ (Heap.get?_push_of_some _ e)
  have ho3 : (((s.heap.update D (Obj.mapSeq fun _ => (#[] : Array Value))).push (seqObj "tuple" vs.toArray 0)).push (seqObj "list" #[] 0)).get? D = some (seqObj "list" #[] e1) :=
    Heap.get?_push_of_some _ (Heap.get?_push_of_some _ ho1)
  generalize ((s.heap.update D (Obj.mapSeq fun _ => (#[] : Array Value))).push (seqObj "tuple" vs.toArray 0)).push (seqObj "list" #[] 0) = h3 at F3 N2 ho3 ⊢
  refine wpAny_bind (seqEpoch_at ho3 rfl ?_)
  have out : (arrOf (SortSt.mk' general' (vs.toArray.zip vs.toArray) #[] 7 none)).map (·.2) = vs.toArray := by
    show (vs.toArray.zip vs.toArray).map (·.2) = vs.toArray
    rcases vs with _ | ⟨v, _ | ⟨v', r⟩⟩
    · simp
    · simp
    · rw [List.length_cons, List.length_cons] at h1
      omega
  rw [out]
  refine wpAny_bind (listUpdate_at ho3 rfl ?_ (Nat.zero_le _) (by rw [List.size_toArray, sizeLine_eq]; omega))
  have s2 := Heap.SameBut.update h3 D (Obj.mapSeq fun _ => vs.toArray)
  obtain ⟨c2, hc2⟩ : ∃ c2, (h3.update D (Obj.mapSeq fun _ => vs.toArray)).get? D = some (seqObj "list" vs.toArray c2) := ⟨_, get?_update_seq ho3 fun _ => vs.toArray⟩
  have hf : failedOf (SortSt.mk' general' (vs.toArray.zip vs.toArray) #[] 7 none) = none := rfl
  rw [hf]
  simp only [bne_self_eq_false, Bool.false_eq_true, if_false]
  refine wpAny_pure ⟨_, rfl, h c2 _ (kas_fr F3 s2 nz.2.1 nz.2.2) fun p hp => ?_⟩
  rcases List.mem_cons.mp hp with rfl | hp
  · exact ⟨hc2, nz.2⟩
  · exact kas_news N2 s2 hne p hp
end
noncomputable def code (p : Int × Int) : Int := 65536 * p.1 + p.2
noncomputable def dfl : PE := ⟨0, (0, 0), 0, 0, 0, 0⟩
theorem getD_lt {α : Type} {l : List α} {i : Nat} {d : α} (h : i < l.length) : l.getD i d = l[i] := by simp [h]
theorem getD_map_lt {α β : Type} {l : List α} {f : α → β} {i : Nat} {d : β} {d' : α} (h : i < l.length) : (l.map f).getD i d = f (l.getD i d') := by simp [h]
theorem katTups {h : Heap} : ∀ {P : List PE}, (∀ e ∈ P, h.get? e.ad = some (T2 e.key e.t e.u)) → KatTups h (P.map fun e => Value.ref e.ad) (P.map fun e => Value.int e.key.1 e.t)
  | [], _ => .nil
  | e :: P, hT => .cons (hT e (.head _)) rfl rfl rfl (katTups fun e he => hT e (.tail _ he))
/-- the ranges of an entry -/
noncomputable def InR (e : PE) : Prop := 0 ≤ e.key.1 ∧ e.key.1 < 65536 ∧ 0 ≤ e.key.2 ∧ e.key.2 < 65536 ∧ -32768 ≤ e.val ∧ e.val ≤ 32767
theorem code_inj {a b : PE} (ha : InR a) (hb : InR b) (h : code a.key = code b.key) : a.key = b.key := by
  obtain ⟨a1, a2, a3, a4, _⟩ := ha
  obtain ⟨b1, b2, b3, b4, _⟩ := hb
  unfold code at h
  refine Prod.ext ?_ ?_ <;> omega
section
variable {prog : Program} {w : World} {A : Around} {E : Value → Shared → Prop} {s : Shared} {h₀ : Heap} {L : Addr} {m : Str → Option Value} {news : List (Addr × Obj)}
theorem cmp_pair {a b : PE} {C : Bool → Shared → Prop} (ha : s.heap.get? a.ad = some (T2 a.key a.t a.u)) (hb : s.heap.get? b.ad = some (T2 b.key b.t b.u)) (ra : InR a) (rb : InR b) (h : C (decide (code a.key < code b.key)) s) :
    wpAny (model prog w) A (keyLt' (tuples' true) (.ref a.ad) (.ref b.ad)) C (fun _ _ => False) s := by
  obtain ⟨a1, a2, a3, a4, _⟩ := ra
  obtain ⟨b1, b2, b3, b4, _⟩ := rb
  refine kat_lt ha rfl hb rfl ?_
  refine kat_cons (wpAny_eqBool_int (kat_go (fun e => kat_yes (kat_cons (wpAny_eqBool_int (kat_go (fun e2 => kat_yes (kat_nil ?_)) fun e2 => kat_no (kat_one _ _ (lt_int ?_)))))) fun e => kat_no (oneLt_int ?_)))
  · have e' := beq_iff_eq.mp e
    have e2' := beq_iff_eq.mp e2
    have : decide (code a.key < code b.key) = false := decide_eq_false (by unfold code; omega)
    rw [this] at h
    exact h
  · have e' := beq_iff_eq.mp e
    have e2' := beq_eq_false_iff_ne.mp e2
    have : decide (code a.key < code b.key) = decide (a.key.2 < b.key.2) := decide_eq_decide.mpr (by unfold code; omega)
    rw [this] at h
    exact h
  · have e' := beq_eq_false_iff_ne.mp e
    have : decide (code a.key < code b.key) = decide (a.key.1 < b.key.1) := decide_eq_decide.mpr (by unfold code; omega)
    rw [this] at h
    exact h
end

end PB
namespace PB
theorem fresh25 : (if True then True else True) := by
  w_top off
  try (walk1; trivial)
  try simp
section
variable {w : World} {A : Around} {E : Value → Shared → Prop} {s : Shared} {h₀ : Heap} {L : Addr} {m : Str → Option Value} {news : List (Addr × Obj)}
theorem sorted_dict {P : List PE} {d : Addr} {dO : Obj} {Q : Value → Shared → Prop} (F : Fr h₀ L s.heap m) (N : News h₀ L s.heap news) (hh : A.handled = none) (lo : (d == sysModules) = false) (hd : (d, dO) ∈ news) (hO : DictP w dO P) (hT : ∀ e ∈ P, e.tup ∈ news)
    (hn : (P.map (·.key)).Nodup) (hr : ∀ e ∈ P, InR e) (hP : P.length < 64)
    (h : ∀ D ws n' h' tk, ws.Perm P → ws.Pairwise (fun a b => code a.key < code b.key) → Fr h₀ L h' m → News h₀ L h' ((D, lstW ws n') :: news) → (∀ q ∈ news, q.1 < D) → Q (.ref D) { s with heap := h', toks := tk }) :
    wpAny (model PySem.Challenge.rw_pb0162_01.row.prog w) A (call (.builtin "sorted") [.ref d]) Q E s := by
  obtain ⟨es, ep, h1, h2, h3⟩ := hO
  have hes : es.size = P.length := by rw [← Array.length_toList, h3]; simp
  refine kdu_sorted (rawSrc (es := es) (ep := ep) lo) hh F N ⟨dO, N.get hd, h1, h2⟩ (by rw [hes, sizeLine_eq]; omega) fun D h' tk vs F' N' hlt hl hv => ?_
  have hvs : vs = P.map fun e => Value.ref e.ad := by
    apply List.ext_getElem?
    intro j
    by_cases hj : j < P.length
    · have hj' : j < vs.length := by omega
      obtain ⟨hi, e⟩ := hv j vs[j] (List.getElem?_eq_getElem hj')
      rw [List.getElem?_eq_getElem hj', e, List.getElem?_map, List.getElem?_eq_getElem hj]
      have : es[j] = es.toList[j]'(by simpa using hi) := by simp
      rw [this]
      simp only [h3, List.getElem_map]
      rfl
    · rw [List.getElem?_eq_none (by omega), List.getElem?_eq_none (by simp; omega)]
  subst hvs
  have hne : ∀ p ∈ news, p.1 ≠ D := fun p hp => Nat.ne_of_lt (hlt p hp)
  by_cases h2' : P.length < 2
  · refine short_sort F' N' hne (by simpa using h2') fun n' h9 F9 N9 => ?_
    refine h D P n' h9 tk (List.Perm.refl _) ?_ F9 N9 hlt
    rcases P with _ | ⟨a, _ | ⟨b, r⟩⟩
    · exact .nil
    · exact List.pairwise_singleton _ _
    · rw [List.length_cons, List.length_cons] at h2'; omega
  · have hlen : (P.map fun e => Value.ref e.ad).length = P.length := by simp
    refine kat_lsort (vs := P.map fun e => Value.ref e.ad) F' N' (UpdF.head hne) rfl (by rw [hlen]; omega) (by rw [hlen]; exact hP) fun e1 h9 F9 N9 => ?_
    have hT9 : ∀ e ∈ P, h9.get? e.ad = some (T2 e.key e.t e.u) := fun e he => (N9 _ (.tail _ (hT e he))).1
    refine kat_kind (katTups hT9) (by simp; omega) (T := .type "int") (fun v hv => ?_) (by decide) ?_
    · obtain ⟨e, _, rfl⟩ := List.mem_map.mp hv
      exact Looks.of_pure rfl
    · rw [hlen]
      have dist : ∀ i j, i < P.length → j < P.length → i ≠ j → code (P.getD i dfl).key ≠ code (P.getD j dfl).key := by
        intro i j hi hj hij e
        rw [getD_lt hi, getD_lt hj] at e
        have e2 := code_inj (hr _ (List.getElem_mem hi)) (hr _ (List.getElem_mem hj)) e
        have hi' : i < (P.map (·.key)).length := by simpa using hi
        have hj' : j < (P.map (·.key)).length := by simpa using hj
        exact hij ((List.getElem_inj (h₀ := hi') (h₁ := hj') hn).mp (by simpa using e2))
      refine Run.wp (c := fun i => code (P.getD i dfl).key) (n := P.length) (fun i j C hi hj hC => ?_) _ (Run.mono (fun p hp => ?_) _ (sort_run dist (by omega)))
      · show wpAny _ _ (keyLt' _ ((P.map fun e => Value.ref e.ad).getD i Value.none) ((P.map fun e => Value.ref e.ad).getD j Value.none)) _ _ _
        rw [getD_map_lt (d' := dfl) hi, getD_map_lt (d' := dfl) hj]
        have mi : P.getD i dfl ∈ P := by rw [getD_lt hi]; exact List.getElem_mem hi
        have mj : P.getD j dfl ∈ P := by rw [getD_lt hj]; exact List.getElem_mem hj
        exact cmp_pair (hT9 _ mi) (hT9 _ mj) (hr _ mi) (hr _ mj) hC
      · obtain ⟨hp1, hp2⟩ := hp
        refine KasFin.intro F9 N9 (UpdF.head hne) fun h8 c F8 N8 => ?_
        have ein : ∀ i ∈ p.toList, i < P.length := fun i hi => by simpa using (List.Perm.mem_iff hp1).mp hi
        have eq : (p.toList.map fun i => (P.map fun e => Value.ref e.ad).getD i Value.none) = (p.toList.map fun i => P.getD i dfl).map fun e => Value.ref e.ad := by
          rw [List.map_map]
          exact List.map_congr_left fun i hi => getD_map_lt (d' := dfl) (ein i hi)
        rw [eq] at N8
        refine h D (p.toList.map fun i => P.getD i dfl) c h8 tk ?_ ?_ F8 N8 hlt
        · have : (List.range P.length).map (fun i => P.getD i dfl) = P := by
            apply List.ext_getElem
            · simp
            · intro i a b
              simp [b]
          have q := hp1.map fun i => P.getD i dfl
          rw [this] at q
          exact q
        · rw [List.pairwise_iff_getElem]
          intro i j hi hj hij
          rw [List.length_map, Array.length_toList, hp1.size] at hi hj
          have := hp2 i j hij hj
          have hs := hp1.size
          have g : ∀ k (hk : k < P.length), (p.toList.map fun i => P.getD i dfl)[k]'(by rw [List.length_map, Array.length_toList, hs]; exact hk) = P.getD (p.getD k 0) dfl := by
            intro k hk
            rw [List.getElem_map]
            congr 1
            simp [Array.getD, hs, hk]
          rw [g i hi, g j hj]
          exact this
end

end PB
namespace PB
theorem fresh26 : (if True then True else True) := by
  w_top off
  try (walk1; trivial)
  try simp
section
variable {prog : Program} {w : World} {A : Around} {s : Shared} {env : Env} {h₀ : Heap} {x : Str} {body : List Stmt} {Q : Flow → Shared → Prop} {m : Str → Option Value} {news : List (Addr × Obj)} {r : Addr} {a b c : Int} {t u v : Tok} {n : Nat}
/-- a loop over a range, its turns in a clean context -/
theorem loopR_X (F : Fr h₀ env.locals s.heap m) (N : News h₀ env.locals s.heap news) (hr : IsRange s.heap r a b c t u v) (hsm : Builtin.Range.small a b c = true) (hn : Builtin.Range.rangeSize a b c = ((n : Nat) : Int)) (hh : A.handled = none) (J : Nat → List (Addr × Obj) → Prop) (hj : J 0 news)
    (turn : ∀ i t news₁ h tk own, i < n → OwnOff own (news.map (·.1)) → J i news₁ → Fr h₀ env.locals h (fun y => if y = x then some (.int (a + (i : Int) * c) t) else m y) → News h₀ env.locals h (news₁ ++ own) →
      wpX (model prog w) A (execs body env) (InvPostN h₀ env.locals (fun m' nx => (∀ y, y ≠ x → m' y = m y) ∧ J (i + 1) nx) own (news.map (·.1)) { s with heap := h, toks := tk } Q) NoE { s with heap := h, toks := tk })
    (done : ∀ o news₁ h tk, J n news₁ → Fr h₀ env.locals h (fun y => if y = x then o else m y) → News h₀ env.locals h news₁ → Q .next { s with heap := h, toks := tk }) :
    wpAny (model prog w) A (pyIter (.ref r)) (fun it s₂ => LoopX prog w A h₀ env x body Q it s₂) NoE s := by
  refine wpAny_pyIter_range hr hsm ?_
  have up : ∀ o' b o, s.heap.get? b = some o → (s.heap.push o').get? b = some o := fun _ b o e => Heap.get?_push_of_some _ e
  refine ⟨s.heap.objs.size, [s.heap.objs.size], [s.heap.objs.size], n, _, _, m, news, fun i m' nx => (∀ y, y ≠ x → m' y = m y) ∧ J i nx, rfl, stepWalks hh a c n, ?_, ?_, ?_, ?_, F.keeps (up _), N.grown (up _), ⟨fun _ _ => rfl, hj⟩, ?_, ?_⟩
  · exact fun q => Nat.ne_of_lt F.ns.lt (List.mem_singleton.mp q)
  · intro b hb
    rw [List.mem_singleton.mp hb]
    exact next_is_new F
  · exact fun q hq hf => Nat.ne_of_lt (Heap.lt_size (N q hq).1) (List.mem_singleton.mp hf)
  · show IsRangeIter _ _ _ _ _
    rw [hn]
    simpa using Heap.get?_push_size _ rfl
  · intro i v m₁ news₁ h tk own hi hP ha hoff hJ F1 N2
    obtain ⟨t9, rfl⟩ := hP
    have e9 : (fun y => if y = x then some (Value.int (a + (i : Int) * c) t9) else m₁ y) = fun y => if y = x then some (Value.int (a + (i : Int) * c) t9) else m y := by
      funext y
      by_cases hy : y = x
      · rw [if_pos hy, if_pos hy]
      · rw [if_neg hy, if_neg hy, hJ.1 y hy]
    have F2 := e9 ▸ F1
    exact turn i t9 news₁ h tk own hi hoff hJ.2 F2 N2
  · intro m₁ news₁ h tk hJ F1 N2
    have e9 : m₁ = fun y => if y = x then m₁ x else m y := by
      funext y
      by_cases hy : y = x
      · rw [if_pos hy, hy]
      · rw [if_neg hy, hJ.1 y hy]
    exact done (m₁ x) news₁ h tk hJ.2 (e9 ▸ F1) N2
end
noncomputable def nsub (n most : Nat) : Nat := (n + most - 1) / most
noncomputable def chunk (ws : List PE) (most i : Nat) : List PE := (ws.drop (most * i)).take most
noncomputable def encAll (ws : List PE) (most : Nat) : List Int := rowsEnc [0, nsub ws.length most] ++ (List.range (nsub ws.length most)).flatMap fun i => subEnc (chunk ws most i) (Nat.log2 (chunk ws most i).length)
theorem nsub_fdiv {n most : Nat} (h : 1 ≤ most) : Int.fdiv ((n : Int) + most - 1) most = ((nsub n most : Nat) : Int) := by
  rw [Int.fdiv_eq_ediv_of_nonneg _ (by omega), show (n : Int) + most - 1 = ((n + most - 1 : Nat) : Int) by omega]
  rfl
theorem nsub_le {n most : Nat} (h : 1 ≤ most) : nsub n most ≤ n := by
  unfold nsub
  rcases Nat.eq_zero_or_pos n with rfl | hn
  · rw [Nat.div_eq_of_lt (by omega)]; exact Nat.le_refl _
  · rw [Nat.div_le_iff_le_mul_add_pred (by omega)]
    have := Nat.mul_le_mul_right n h
    omega
theorem chunk_len (ws : List PE) (most i : Nat) : (chunk ws most i).length = min most (ws.length - most * i) := by
  unfold chunk
  rw [List.length_take, List.length_drop]
theorem slice_chunk (ws : List PE) (most i : Nat) :
    slicePick (ws.map fun e => Value.ref e.ad).toArray (some (0 + (i : Int) * most)) (some (0 + (i : Int) * most + most)) none = ((chunk ws most i).map fun e => Value.ref e.ad).toArray := by
  have e1 : (0 + (i : Int) * most) = ((most * i : Nat) : Int) := by rw [Int.zero_add, Int.natCast_mul, Int.mul_comm]
  have e2 : (0 + (i : Int) * most + most) = ((most * i + most : Nat) : Int) := by rw [e1]; simp
  rw [e2, e1, slicePick_plain]
  simp only [Option.elim, clipAt_nat]
  unfold chunk
  congr 1
  rw [List.map_take, List.map_drop]
  have hsz : (ws.map fun e => Value.ref e.ad).toArray.size = ws.length := by simp
  rw [hsz]
  generalize most * i = a
  show ((ws.map fun e => Value.ref e.ad).drop _).take _ = _
  have hl : (ws.map fun e => Value.ref e.ad).length = ws.length := by simp
  generalize (ws.map fun e => Value.ref e.ad) = l at hl
  rw [← hl]
  rcases Nat.le_total a l.length with h | h
  · rw [Nat.min_eq_left h, List.take_eq_take_iff, List.length_drop]
    omega
  · rw [Nat.min_eq_right h, List.drop_length, List.drop_eq_nil_of_le h, List.take_nil, List.take_nil]
theorem flat_len {α : Type} {f : α → List Int} {k : Nat} : ∀ l : List α, (∀ x ∈ l, (f x).length ≤ k) → (l.flatMap f).length ≤ k * l.length
  | [], _ => Nat.zero_le _
  | x :: l, h => by
    rw [List.flatMap_cons, List.length_append, List.length_cons]
    have h1 := h x (.head _)
    have h2 := flat_len l fun y hy => h y (.tail _ hy)
    rw [Nat.mul_add]
    omega
theorem subEnc_len (ws : List PE) (p : Nat) : (subEnc ws p).length = 14 + 6 * ws.length := by
  unfold subEnc
  rw [List.length_append, rowsEnc_len, headOf_len, pairsEnc_len]
theorem range_size {n most : Nat} (h : 1 ≤ most) : Builtin.Range.rangeSize 0 (n : Int) (most : Int) = ((nsub n most : Nat) : Int) := by
  unfold Builtin.Range.rangeSize
  rw [if_pos (by omega)]
  rcases Nat.eq_zero_or_pos n with rfl | hn
  · rw [if_neg (by omega)]
    unfold nsub
    rw [Nat.div_eq_of_lt (by omega)]
    rfl
  · rw [if_pos (by omega)]
    unfold nsub
    have e : (n : Int) - 0 - 1 = ((n - 1 : Nat) : Int) := by omega
    rw [e, show n + most - 1 = (n - 1) + most by omega, Nat.add_div_right _ (by omega)]
    simp
theorem range_small {n most : Nat} (h : 1 ≤ most) (hn : n < 1000) (hm : most < 1000) : Builtin.Range.small 0 (n : Int) (most : Int) = true := by
  unfold Builtin.Range.small
  rw [range_size h]
  have := nsub_le (n := n) h
  have f : ∀ x : Int, 0 ≤ x → x < 4000 → Builtin.Range.rangeFitsLong x = true := fun x a b => by
    simp [Builtin.Range.rangeFitsLong]
    omega
  rw [f 0 (by omega) (by omega), f n (by omega) (by omega), f most (by omega) (by omega), f (nsub n most : Nat) (by omega) (by omega), if_pos (by omega), f ((n : Int) + (most - 1)) (by omega) (by omega)]
  simp
section
variable {w : World} {mean : ExcName → Option Value} {mg mb : Str → Option Value} {dp un : Nat} {gd : Option (List Code)} {cn : Str} {cs : Scope} {a : Addr} {ccd : Value} {cl : List (Str × Addr)} {outer : List Env} {A₀ : Around} {base h₀ : Heap} {L : Addr} {m : Str → Option Value} {s : Shared} {Q E : Value → Shared → Prop} {news : List (Addr × Obj)}
theorem wkern_X {d : Addr} {P : List PE} {dO : Obj} {most : Nat} {t0 : Tok}
 (B : Below A₀ base outer h₀) (F : Fr h₀ L s.heap m) (X : (hd.heap_1 w.params).In h₀) (N : News h₀ L s.heap ((d, dO) :: news)) (T : Top hd.view_1 (looseW hd.view_1 [Str.ofString "ShapeError", Str.ofString "write_kern"]) mean mg mb h₀) (hk : cs.kind = .function) (hroom : dp + 7 < recursionLimit) (hun : un + 64 < cLine) (lo : (d == sysModules) = false)
 (hO : DictP w dO P) (hT : ∀ e ∈ P, e.tup ∈ news) (hn : (P.map (·.key)).Nodup) (hr : ∀ e ∈ P, InR e) (hP : P.length < 16) (hm0 : 1 ≤ most) (hm1 : most < 16)
 (hret : ∀ bs t9 ws h' tk', ws.Perm P → ws.Pairwise (fun a b => code a.key < code b.key) → KBw.bInts bs = encAll ws most → Fr h₀ L h' m → News h₀ L h' ((d, dO) :: news) → Q (.bytes bs t9) {s with heap := h', toks := tk'}) :
 wpX (model PySem.Challenge.rw_pb0162_01.row.prog w) (ktrTop dp un gd cn cs L a ccd cl outer) (call (.ref 179) [.ref d, .int most t0]) Q NoE s := by
  k_with_none
  (k_with "call builtin:len" => (k_here; k_dflt (refine lenW (by k_asm) (by k_mem) (by omega) ?_); intro t9Z k9Z; (try dsimp only)))
  (k_with "pyIter ref" => (refine Stop.out ?_))
  (k_with "call builtin:sorted" => (refine Stop.out ?_))
  (k_with "call ref" => (k_here; (with_reducible show wpAny _ _ (call (Value.ref 150) [Value.ref _]) _ _ _); refine Stop.out ?_))
  revert X; k_fill; intro X
  refine wpX_call ?_
  k_dflt (refine' codeX_def ?k1 ?k2 ?k3 ?k4 ?k5 ?kA ?kF ?kK ?k6 ?k7 ?k8 ?k9 ?kB ?_ ?c2 ?c3 ?c4 ?c5; (case kA => exact rfl); (case kF => exact rfl); (case kK => first | assumption | exact rfl); (case k1 => k_asm); (case k2 => k_asm); (case k3 => k_asm); (case k4 => k_asm); (case k5 => k_asm); (case k6 => k_is); (case k7 => k_is); (case k8 => ktr_room); (case k9 => first | exact BindsTo.of_eq rfl | exact binds_K (by k_in) rfl (by k_is) rfl rfl rfl); (case c5 => decide); (case kB => exact locs rfl); (case c2 => exact rfl); (case c3 => exact rfl); (case c4 => exact rfl); k_whole; intro g' L' h' FG' F' N' B' X' T'; (try dsimp only); (try k_lift B'); (try k_fold))
  refine wpX_execs_cons (wpX_of ?_)
  k_steps
  refine Stop.go (sorted_dict (P := P) (dO := dO) (by k_asm) (by k_asm) (by rfl) lo (by k_mem) hO (fun e he => .tail _ (hT e he)) hn hr (by omega) fun D ws n9 h9 tk9 hperm hsort F9 N9 l9 => ?_)
  have hwl : ws.length = P.length := hperm.length_eq
  k_steps
  k_lt l9
  refine wpX_execs_cons (wpX_Assign_Name (wpX_Call ?_))
  k_steps
  refine callWith_XK0 (K := hd.heap_1 w.params) (by k_in) rfl ?_
  refine wpX_of0 ?_
  k_dflt (refine' outNew_X ?kB ?kF ?kX ?kN ?kT ?kk ?kr ?ku ?_; (case kB => k_asm); (case kF => k_asm); (case kX => k_asm); (case kN => k_asm); (case kT => k_asm); (case kk => first | exact rfl | assumption); (case kr => ktr_room); (case ku => ktr_units))
  intro x dx b t k h8 tk8 F8 N8 l1 l2 l3
  have lN : ∀ q ∈ news, q.1 < dx := fun q hq => l1 q (.tail _ (.tail _ hq))
  k_lt l1
  have l23 : dx < b := Nat.lt_trans l2 l3
  k_lt2 l2
  k_lt2 l3
  k_steps
  (try dsimp only)
  refine wpX_execs_cons (wpX_Expr (methodCall_X ?_))
  k_steps
  refine callWith_XK (K := hd.heap_1 w.params) rfl ?_
  k_steps
  refine wpX_of0 ?_
  k_dflt (refine' rows_X (xs := #[]) (b := b) (dx := dx) (t := t) (k := k) (ns := [0, Int.fdiv ((ws.length : Int) + most - 1) most]) (news := (D, lstW ws n9) :: (d, dO) :: news) ?kB ?kF ?kX ?kN ?kT ?kk ?kr ?ku ?i ?r ?l2 ?z ?b ?_; (case kN => exact newsDrop (by k_asm) (by ((repeat (refine List.forall_mem_cons.mpr (And.intro (by (repeat (first | exact List.Mem.head _ | refine List.Mem.tail _ ?_))) ?_))); intro p9 hp9; (repeat' (first | exact hp9 | refine List.Mem.tail _ ?_ | refine List.mem_append_left _ ?_))))); (case i => exact .cons _ _ (.cons _ _ .nil)); (case kB => k_asm); (case kF => k_asm); (case kX => k_asm); (case kT => k_asm); (case kk => first | exact rfl | assumption); (case kr => ktr_room); (case ku => ktr_units))
  case r =>
    rw [nsub_fdiv hm0]
    have := nsub_le (n := ws.length) hm0
    intro v hv
    simp only [List.mem_cons, List.not_mem_nil, or_false] at hv
    omega
  case l2 => exact Nat.le_refl _
  case z => exact Nat.le_of_ble_eq_true rfl
  case b =>
    (repeat (refine List.forall_mem_cons.mpr (And.intro (by k_ne) ?_)))
    exact fun q hq => Nat.ne_of_lt (Nat.lt_trans (lN q hq) l23)
  intro ys0 h7 tk7 hy0 F7 N7
  (try dsimp only)
  refine wpX_execs_cons (wpX_of0 (For_X (h₀ := g') (by rfl) (by rfl) ?_))
  k_steps
  refine Stop.go (loopR_X (n := nsub ws.length most) (news := (b, baObj (#[] ++ ys0)) :: (x, instObj 153 dx) :: (dx, outDict b t k) :: (D, lstW ws n9) :: (d, dO) :: news) (by k_asm) (newsDrop (by k_asm) (by ((repeat (refine List.forall_mem_cons.mpr (And.intro (by (repeat (first | exact List.Mem.head _ | refine List.Mem.tail _ ?_))) ?_))); intro p9 hp9; (repeat' (first | exact hp9 | refine List.Mem.tail _ ?_ | refine List.mem_append_left _ ?_))))) (by assumption) ?hsm ?hn rfl
    (fun i nx => ∃ zs, nx = (b, baObj (#[] ++ ys0 ++ zs)) :: (x, instObj 153 dx) :: (dx, outDict b t k) :: (D, lstW ws n9) :: (d, dO) :: news ∧ KBw.bInts zs = (List.range i).flatMap fun i => subEnc (chunk ws most i) (Nat.log2 (chunk ws most i).length)) ?j ?turn ?done)
  case hsm => exact range_small hm0 (by omega) (by omega)
  case hn => exact range_size hm0
  case j => exact ⟨#[], by simp, rfl⟩
  case turn =>
    rintro i t6 _ h6 tk6 own hi hoff ⟨zs, rfl, hzs⟩ F6 N6
    obtain ⟨nw, hnw⟩ : ∃ nw, news ++ own = nw := ⟨_, rfl⟩
    have s0 : ys0.size = 4 := by rw [← KBw.ints_length, hy0, oct2_len]; rfl
    have s1 : zs.size ≤ 110 * i := by
      rw [← KBw.ints_length, hzs]
      have := flat_len (k := 110) (f := fun i => subEnc (chunk ws most i) (Nat.log2 (chunk ws most i).length)) (List.range i) fun j _ => by
        rw [subEnc_len, chunk_len]
        omega
      simpa using this
    have hmi : most * i < ws.length := by
      have hle := (Nat.le_div_iff_mul_le (show 0 < most by omega)).mp (show i + 1 ≤ (ws.length + most - 1) / most from hi)
      rw [Nat.add_mul, Nat.mul_comm] at hle
      omega
    have hin : i < 16 := Nat.lt_of_lt_of_le hi (Nat.le_trans (nsub_le hm0) (by omega))
    have hcl := chunk_len ws most i
    have hbw : ∀ q ∈ nw, q.1 ≠ b := fun q hq => by
      rw [← hnw] at hq
      rcases List.mem_append.mp hq with hq | hq
      · exact Nat.ne_of_lt (Nat.lt_trans (lN q hq) l23)
      · exact hoff q hq b (.head _)
    simp only [List.cons_append, hnw] at N6
    refine wpX_execs_cons (wpX_Expr (wpX_Call ?_))
    k_steps
    refine callWith_XK (K := hd.heap_1 w.params) rfl ?_
    k_steps
    refine wpX_of0 ?_
    k_dflt (refine' wpairs_X (xs := #[] ++ ys0 ++ zs) (b := b) (dx := dx) (t := t) (k := k) (n := 0) (P := P) (ws := chunk ws most i) (dO := dO) (p := Nat.log2 (chunk ws most i).length) (news := (D, lstW ws n9) :: nw) ?kB ?kF ?kX ?kN ?kT ?kk ?kr ?ku hO ?hT hn ?hsub hr ?hp0 ?hp1 ?hw ?hz ?b ?W ?_; (case kN => (show News _ _ _ ((_, ({ cls := .type "list", data := .seq ((chunk ws most i).map fun e => Value.ref e.ad).toArray 0 } : Obj)) :: _)); rw [← slice_chunk]; exact newsDrop (by k_asm) (by ((repeat (refine List.forall_mem_cons.mpr (And.intro (by (repeat (first | exact List.Mem.head _ | refine List.Mem.tail _ ?_))) ?_))); intro p9 hp9; (repeat' (first | exact hp9 | refine List.Mem.tail _ ?_ | refine List.mem_append_left _ ?_))))); (case kB => k_asm); (case kF => k_asm); (case kX => k_asm); (case kT => k_asm); (case kk => first | exact rfl | assumption); (case kr => ktr_room); (case ku => ktr_units))
    case hT => exact fun e he => .tail _ (hnw ▸ List.mem_append_left _ (hT e he))
    case hsub => exact fun e he => hperm.mem_iff.mp (List.mem_of_mem_drop (List.mem_of_mem_take he))
    case hp0 =>
      have := Nat.log2_self_le (n := (chunk ws most i).length) (by omega)
      exact_mod_cast this
    case hp1 =>
      have := Nat.lt_log2_self (n := (chunk ws most i).length)
      exact_mod_cast this
    case hw => omega
    case hz =>
      rw [Array.size_append, Array.size_append, s0]
      show 0 + 4 + zs.size ≤ 3000
      omega
    case b =>
      (repeat (refine List.forall_mem_cons.mpr (And.intro (by k_ne) ?_)))
      exact hbw
    case W =>
      intro q hq
      refine Nat.ne_of_lt (Nat.lt_succ_of_lt (Heap.lt_size (N6 q ?_).1))
      revert q
      exact (by ((repeat (refine List.forall_mem_cons.mpr (And.intro (by (repeat (first | exact List.Mem.head _ | refine List.Mem.tail _ ?_))) ?_))); intro p9 hp9; (repeat' (first | exact hp9 | refine List.Mem.tail _ ?_ | refine List.mem_append_left _ ?_))))
    intro ys h5 tk5 hy F5 N5
    (try dsimp only)
    refine wpX_execs_nil ?_
    refine InvEndN.intro F5 N5 ⟨fun y hy => if_neg hy, zs ++ ys, rfl, ?_⟩ ?_ ?_ ?_
    · rw [KBw.ints_app hzs hy, List.range_succ, List.flatMap_append, List.flatMap_singleton]
    · rfl
    · rw [show #[] ++ ys0 ++ (zs ++ ys) = #[] ++ ys0 ++ zs ++ ys from by simp only [Array.append_assoc]]
      (repeat (refine List.forall_mem_cons.mpr (And.intro (by (repeat (first | exact List.Mem.head _ | refine List.Mem.tail _ ?_))) ?_)))
      exact fun q hq => .tail _ (.tail _ (.tail _ (.tail _ (.tail _ (hnw ▸ List.mem_append_left _ hq)))))
    · exact fun q hq => .tail _ (.tail _ (.tail _ (.tail _ (.tail _ (hnw ▸ List.mem_append_right _ hq)))))
  case done =>
    rintro o6 _ h6 tk6 ⟨zs, rfl, hzs⟩ F6 N6
    (try dsimp only)
    refine wpX_execs_cons (wpX_of ?_)
    k_steps
    have s0 : ys0.size = 4 := by rw [← KBw.ints_length, hy0, oct2_len]; rfl
    have s1 : zs.size ≤ 110 * nsub ws.length most := by
      rw [← KBw.ints_length, hzs]
      have := flat_len (k := 110) (f := fun i => subEnc (chunk ws most i) (Nat.log2 (chunk ws most i).length)) (List.range (nsub ws.length most)) fun j _ => by
        rw [subEnc_len, chunk_len]
        omega
      simpa using this
    have s2 := nsub_le (n := ws.length) hm0
    show wpAny _ _ (call (.ref 150) [.ref x]) _ _ _
    k_dflt (refine' octets_tells (xs := #[] ++ ys0 ++ zs) (b := b) (dx := dx) (t := t) (k := k) (news := (D, lstW ws n9) :: (d, dO) :: news) ?kB ?kF ?kX ?kN ?kT ?kk ?kr ?ku ?z ?_; (case kB => k_asm); (case kF => k_asm); (case kX => k_asm); (case kN => k_asm); (case kT => k_asm); (case kk => first | exact rfl | assumption); (case kr => ktr_room); (case ku => ktr_units))
    case z =>
      rw [Array.size_append, Array.size_append, s0, sizeLine_eq]
      show 0 + 4 + zs.size ≤ _
      omega
    intro t9 h5 tk5 F5 N5
    (try dsimp only)
    k_steps
    refine hret _ _ ws _ _ hperm hsort ?_ (by k_asm) (newsDrop (by k_asm) (by ((repeat (refine List.forall_mem_cons.mpr (And.intro (by (repeat (first | exact List.Mem.head _ | refine List.Mem.tail _ ?_))) ?_))); intro p9 hp9; (repeat' (first | exact hp9 | refine List.Mem.tail _ ?_ | refine List.mem_append_left _ ?_)))))
    have e0 : KBw.bInts (#[] ++ ys0) = rowsEnc [0, nsub ws.length most] := by
      rw [← nsub_fdiv hm0, show #[] ++ ys0 = ys0 from by simp]
      exact hy0
    rw [KBw.ints_app e0 hzs]
    rfl
end

end PB
namespace PB
theorem fresh27 : (if True then True else True) := by
  w_top off
  try (walk1; trivial)
  try simp
/-- the words of a subtable, of all -/
noncomputable def pairW (e : PE) : List Int := [e.key.1, e.key.2, e.val % 65536]
noncomputable def subW (c : List PE) (p : Nat) : List Int := headOf c.length p ++ c.flatMap pairW
noncomputable def subA (ws : List PE) (most i : Nat) : List Int := subW (chunk ws most i) (Nat.log2 (chunk ws most i).length)
noncomputable def allW (ws : List PE) (most k : Nat) : List Int := [0, ((nsub ws.length most : Nat) : Int)] ++ (List.range k).flatMap (subA ws most)
theorem rowsEnc_app (a b : List Int) : rowsEnc (a ++ b) = rowsEnc a ++ rowsEnc b := List.flatMap_append
theorem subEnc_words (c : List PE) (p : Nat) : subEnc c p = rowsEnc (subW c p) := by
  unfold subEnc subW
  rw [rowsEnc_app]
  congr 1
  unfold rowsEnc
  rw [List.flatMap_assoc]
  rfl
theorem encAll_words (ws : List PE) (most : Nat) : encAll ws most = rowsEnc (allW ws most (nsub ws.length most)) := by
  unfold encAll allW
  rw [rowsEnc_app]
  congr 1
  have e : (fun i => subEnc (chunk ws most i) (Nat.log2 (chunk ws most i).length)) = fun i => rowsEnc (subA ws most i) := funext fun i => subEnc_words _ _
  rw [e]
  show _ = List.flatMap oct2 _
  rw [List.flatMap_assoc]
  rfl
theorem rows_at : ∀ (V : List Int) (j : Nat), (rowsEnc V).getD (2 * j) 0 = V.getD j 0 / 256 ∧ (rowsEnc V).getD (2 * j + 1) 0 = V.getD j 0 % 256
  | [], j => by simp [rowsEnc]
  | v :: V, 0 => by simp [rowsEnc, oct2]
  | v :: V, j + 1 => by
    have := rows_at V j
    have e : rowsEnc (v :: V) = v / 256 :: v % 256 :: rowsEnc V := rfl
    rw [e, show 2 * (j + 1) = 2 * j + 1 + 1 from by omega]
    simpa using this
theorem two_words (V : List Int) {i : Int} (j : Nat) (hi : i = 2 * (j : Int)) : two (rowsEnc V) i = V.getD j 0 := by
  subst hi
  unfold two
  rw [show (2 * (j : Int)).toNat = 2 * j by omega, show (2 * (j : Int) + 1).toNat = 2 * j + 1 by omega, (rows_at V j).1, (rows_at V j).2]
  omega
theorem getD_right {l r : List Int} {i : Nat} : (l ++ r).getD (l.length + i) 0 = r.getD i 0 := by
  simp [List.getD_eq_getElem?_getD, List.getElem?_append_right]
theorem getD_left {l r : List Int} {i : Nat} (h : i < l.length) : (l ++ r).getD i 0 = l.getD i 0 := by
  simp [List.getD_eq_getElem?_getD, List.getElem?_append_left h]
theorem flat3 {suf : List Int} : ∀ {c : List PE} {j r : Nat} {e : PE}, c[j]? = some e → r < 3 → (c.flatMap pairW ++ suf).getD (3 * j + r) 0 = (pairW e).getD r 0
  | [], j, r, e, h, _ => by simp at h
  | a :: c, 0, r, e, h, hr => by
    obtain rfl : a = e := by simpa using h
    rw [List.flatMap_cons, List.append_assoc, getD_left (by show 3 * 0 + r < 3; omega), Nat.mul_zero, Nat.zero_add]
  | a :: c, j + 1, r, e, h, hr => by
    rw [List.flatMap_cons, List.append_assoc, show 3 * (j + 1) + r = (pairW a).length + (3 * j + r) by show _ = 3 + _; omega, getD_right]
    exact flat3 (by simpa using h) hr
section
variable {pre suf : List Int} {c : List PE} {p : Nat}
theorem sub_head {V : List Int} (hV : V = pre ++ (subW c p ++ suf)) {i : Nat} {a : Int} (hi : i < 7) (ha : a = 2 * ((pre.length + i : Nat) : Int)) : two (rowsEnc V) a = (headOf c.length p).getD i 0 := by
  rw [two_words V _ ha, hV, getD_right]
  unfold subW
  rw [List.append_assoc, getD_left (by rw [headOf_len]; exact hi)]
theorem sub_pair {V : List Int} (hV : V = pre ++ (subW c p ++ suf)) {j r : Nat} {e : PE} {a : Int} (hj : c[j]? = some e) (hr : r < 3) (ha : a = 2 * ((pre.length + (7 + (3 * j + r)) : Nat) : Int)) : two (rowsEnc V) a = (pairW e).getD r 0 := by
  rw [two_words V _ ha, hV, getD_right]
  unfold subW
  rw [List.append_assoc, show 7 + (3 * j + r) = (headOf c.length p).length + (3 * j + r) by rw [headOf_len], getD_right]
  exact flat3 hj hr
theorem subW_len (c : List PE) (p : Nat) : (subW c p).length = 7 + 3 * c.length := by
  unfold subW
  rw [List.length_append, headOf_len]
  congr 1
  induction c with
  | nil => rfl
  | cons a c ih => rw [List.flatMap_cons, List.length_append, ih, List.length_cons]; show 3 + _ = _; omega
theorem sub_of {V : List Int} {b : Int} (hV : V = pre ++ (subW c (Nat.log2 c.length) ++ suf)) (hb : b = 2 * (pre.length : Int)) (h0 : c ≠ []) (h16 : c.length < 16) : Sub (rowsEnc V) b c.length (Nat.log2 c.length) := by
  have hne : c.length ≠ 0 := fun q => h0 (List.eq_nil_of_length_eq_zero q)
  have lo := Nat.log2_self_le hne
  have up := Nat.lt_log2_self (n := c.length)
  have hp : Nat.log2 c.length ≤ 3 := by
    have := (Nat.log2_lt hne (k := 4)).mpr h16
    omega
  have hc : ((2 ^ Nat.log2 c.length : Nat) : Int) = (2 : Int) ^ Nat.log2 c.length := by simp
  have hlen : (rowsEnc V).length = 2 * (pre.length + (7 + 3 * c.length) + suf.length) := by
    rw [rowsEnc_len, hV, List.length_append, List.length_append, subW_len]
    omega
  refine ⟨by omega, by rw [hlen]; omega, ?_, ?_, ?_, ?_, lo, up, hp⟩
  · rw [sub_head hV (i := 3) (by decide) (by omega)]; rfl
  · rw [sub_head hV (i := 4) (by decide) (by omega), hc]; rfl
  · rw [sub_head hV (i := 5) (by decide) (by omega)]; rfl
  · rw [sub_head hV (i := 6) (by decide) (by omega), Int.natCast_sub lo, hc]; rfl
theorem sub_next {V : List Int} {b : Int} (hV : V = pre ++ (subW c p ++ suf)) (hb : b = 2 * (pre.length : Int)) : two (rowsEnc V) (b + 2) = 14 + 6 * c.length := by
  rw [sub_head hV (i := 1) (by decide) (by omega)]; rfl
theorem sub_key {V : List Int} {b : Int} (hV : V = pre ++ (subW c p ++ suf)) (hb : b = 2 * (pre.length : Int)) {j : Nat} {e : PE} (hj : c[j]? = some e) : keyAt (rowsEnc V) (b + 14) j = e.key := by
  unfold keyAt
  rw [sub_pair hV hj (r := 0) (by decide) (by omega), sub_pair hV hj (r := 1) (by decide) (by omega)]
  rfl
theorem sub_val {V : List Int} {b : Int} (hV : V = pre ++ (subW c p ++ suf)) (hb : b = 2 * (pre.length : Int)) {j : Nat} {e : PE} (hj : c[j]? = some e) : two (rowsEnc V) (b + 14 + 6 * (j : Int) + 4) = e.val % 65536 := by
  rw [sub_pair hV hj (r := 2) (by decide) (by omega)]
  rfl
end
/- the search -/
section
variable {K : Nat → Int × Int} {n : Nat} {pr : Int × Int}
theorem srch_lt : ∀ {k j : Nat}, j < n → srch K n pr k j < n
  | 0, j, h => h
  | k + 1, j, h => by
    rw [srch]
    split
    · next c => exact srch_lt c.1
    · exact srch_lt h
theorem srch0_lt {p : Nat} (h : 2 ^ p ≤ n) : srch0 K n p pr < n := by
  have : 0 < 2 ^ p := Nat.pow_pos (by decide)
  refine srch_lt ?_
  split <;> omega
theorem srch_finds {j₀ : Nat} (hj₀ : j₀ < n) (hK : ∀ i, i < n → (geB pr (K i) = true ↔ i ≤ j₀)) : ∀ {k j : Nat}, j ≤ j₀ → j₀ < j + 2 ^ k → srch K n pr k j = j₀
  | 0, j, h1, h2 => by
    rw [srch]
    simp at h2
    omega
  | k + 1, j, h1, h2 => by
    rw [Nat.pow_succ] at h2
    rw [srch]
    split
    · next c => exact srch_finds hj₀ hK ((hK _ c.1).mp c.2) (by omega)
    · next c =>
      refine srch_finds hj₀ hK h1 (Nat.lt_of_not_le fun q => c ⟨by omega, (hK _ (by omega)).mpr q⟩)
theorem srch0_finds {p j₀ : Nat} (hj₀ : j₀ < n) (hK : ∀ i, i < n → (geB pr (K i) = true ↔ i ≤ j₀)) (lo : 2 ^ p ≤ n) (up : n < 2 ^ (p + 1)) : srch0 K n p pr = j₀ := by
  have h0 : 0 < 2 ^ p := Nat.pow_pos (by decide)
  rw [Nat.pow_succ] at up
  unfold srch0
  split
  · next c => exact srch_finds hj₀ hK ((hK _ (by omega)).mp c.2) (by omega)
  · next c =>
    refine srch_finds hj₀ hK (Nat.zero_le _) ?_
    rcases Nat.lt_or_ge j₀ (0 + 2 ^ p) with q | q
    · exact q
    · exact absurd ⟨by omega, (hK _ (by omega)).mpr (by omega)⟩ c
end
theorem geB_code {a b : PE} (ha : InR a) (hb : InR b) : geB a.key b.key = true ↔ code b.key ≤ code a.key := by
  obtain ⟨a1, a2, a3, a4, _⟩ := ha
  obtain ⟨b1, b2, b3, b4, _⟩ := hb
  unfold geB code
  split
  · rw [decide_eq_true_iff]; omega
  · rw [decide_eq_true_iff]; omega
noncomputable def lk (c : List PE) (pr : Int × Int) : Option Int := (look c pr).map (·.val)
theorem signed_mod {v : Int} (h0 : -32768 ≤ v) (h1 : v ≤ 32767) : signed (v % 65536) = v := by
  unfold signed
  split <;> omega
theorem look_none {c : List PE} {pr : Int × Int} (h : ∀ e ∈ c, e.key ≠ pr) : look c pr = none := by
  unfold look
  rw [List.find?_eq_none]
  intro e he
  simpa using h e he
/-- what the search finds in a subtable is what its chunk holds -/
theorem found_sub {V pre suf : List Int} {c : List PE} {b : Int} {pr : Int × Int} (hV : V = pre ++ (subW c (Nat.log2 c.length) ++ suf)) (hb : b = 2 * (pre.length : Int)) (h0 : c ≠ [])
    (hs : c.Pairwise fun a b => code a.key < code b.key) (hr : ∀ e ∈ c, InR e) : found (rowsEnc V) b c.length (Nat.log2 c.length) pr = lk c pr := by
  have hne : c.length ≠ 0 := fun q => h0 (List.eq_nil_of_length_eq_zero q)
  have lo := Nat.log2_self_le hne
  have up := Nat.lt_log2_self (n := c.length)
  have key : ∀ {j : Nat} (hj : j < c.length), keyAt (rowsEnc V) (b + 14) j = c[j].key := fun hj => sub_key hV hb (List.getElem?_eq_getElem hj)
  have hlt := srch0_lt (K := keyAt (rowsEnc V) (b + 14)) (pr := pr) lo
  unfold found
  split
  · next q =>
    rw [key hlt] at q
    have hm : c[srch0 (keyAt (rowsEnc V) (b + 14)) c.length (Nat.log2 c.length) pr] ∈ c := List.getElem_mem hlt
    rw [sub_val hV hb (List.getElem?_eq_getElem hlt)]
    obtain ⟨_, _, _, _, v0, v1⟩ := hr _ hm
    rw [signed_mod v0 v1]
    unfold lk
    have hn : (c.map (·.key)).Nodup := by
      refine List.Pairwise.map _ (fun a b h e => ?_) hs
      rw [e] at h
      exact Int.lt_irrefl _ h
    have := look_of hn hm
    rw [q] at this
    rw [this]
    rfl
  · next q =>
    symm
    unfold lk
    rw [look_none]
    · rfl
    intro e he hk
    obtain ⟨j₀, hj₀, rfl⟩ := List.mem_iff_getElem.mp he
    subst hk
    refine q ?_
    have := srch0_finds (K := keyAt (rowsEnc V) (b + 14)) (pr := c[j₀].key) hj₀ (fun i hi => ?_) lo up
    · rw [this, key hj₀]
    · rw [key hi, geB_code (hr _ he) (hr _ (List.getElem_mem hi))]
      rw [List.pairwise_iff_getElem] at hs
      constructor
      · intro h
        rcases Nat.lt_or_ge j₀ i with q | q
        · have := hs j₀ i hj₀ hi q
          omega
        · exact q
      · intro h
        rcases Nat.lt_or_ge i j₀ with q | q
        · have := hs i j₀ hi hj₀ q
          omega
        · obtain rfl : i = j₀ := by omega
          exact Int.le_refl _
/-- the chunks make up the whole -/
theorem chunks_take (ws : List PE) (most : Nat) : ∀ k, (List.range k).flatMap (chunk ws most) = ws.take (most * k)
  | 0 => by simp
  | k + 1 => by
    rw [List.range_succ, List.flatMap_append, chunks_take ws most k, List.flatMap_singleton, Nat.mul_add, Nat.mul_one, List.take_add]
    rfl
theorem chunks_all {ws : List PE} {most : Nat} (h : 1 ≤ most) : (List.range (nsub ws.length most)).flatMap (chunk ws most) = ws := by
  rw [chunks_take, List.take_of_length_le]
  unfold nsub
  have := Nat.lt_mul_div_succ (ws.length + most - 1) (show 0 < most by omega)
  rw [Nat.mul_add] at this
  omega
theorem lk_app {a b : List PE} {pr : Int × Int} (hn : ((a ++ b).map (·.key)).Nodup) : (lk (a ++ b) pr).toList = (lk a pr).toList ++ (lk b pr).toList := by
  unfold lk
  cases ha : look a pr with
  | none =>
    have : look (a ++ b) pr = look b pr := by
      unfold look at ha ⊢
      rw [List.find?_append, ha]; rfl
    rw [this]; rfl
  | some e =>
    obtain ⟨he, rfl⟩ := look_mem ha
    have h1 : look (a ++ b) e.key = some e := look_of hn (List.mem_append_left _ he)
    have h2 : look b e.key = none := by
      refine look_none fun x hx q => ?_
      rw [List.map_append, List.nodup_append] at hn
      exact hn.2.2 _ (List.mem_map_of_mem he) _ (List.mem_map_of_mem hx) q.symm
    rw [h1, h2]
    rfl
theorem heard_all {pr : Int × Int} : ∀ (cs : List (List PE)), ((cs.flatten).map (·.key)).Nodup → cs.filterMap (fun c => lk c pr) = (lk cs.flatten pr).toList
  | [], _ => rfl
  | c :: cs, hn => by
    rw [List.flatten_cons] at hn ⊢
    rw [lk_app hn]
    have hn' : ((cs.flatten).map (·.key)).Nodup := by
      rw [List.map_append, List.nodup_append] at hn
      exact hn.2.1
    rw [← heard_all cs hn', List.filterMap_cons]
    cases lk c pr <;> rfl
/-- where the subtables begin -/
noncomputable def offs (ws : List PE) (most i : Nat) : Int := 2 * ((allW ws most i).length : Int)
section
variable {ws : List PE} {most i : Nat}
theorem allW_split {k : Nat} (hi : i < k) : ∃ suf, allW ws most k = allW ws most i ++ (subA ws most i ++ suf) := by
  have e : ∃ suf, List.range k = List.range i ++ (i :: suf) := by
    refine ⟨(List.range k).drop (i + 1), ?_⟩
    have h1 : (List.range k).take i = List.range i := by rw [List.take_range, Nat.min_eq_left (Nat.le_of_lt hi)]
    have h2 : (List.range k).drop i = i :: (List.range k).drop (i + 1) := by
      rw [List.drop_eq_getElem_cons (by simpa using hi)]
      simp
    rw [← h1, ← h2, List.take_append_drop]
  obtain ⟨suf, e⟩ := e
  refine ⟨suf.flatMap (subA ws most), ?_⟩
  unfold allW
  rw [e, List.flatMap_append, List.flatMap_cons, List.append_assoc]
theorem offs_succ : offs ws most (i + 1) = offs ws most i + (14 + 6 * ((chunk ws most i).length : Int)) := by
  unfold offs allW
  rw [List.range_succ, List.flatMap_append, List.flatMap_singleton, ← List.append_assoc, List.length_append, subA, subW_len]
  omega
theorem chunk_ne (hm : 1 ≤ most) (hi : i < nsub ws.length most) : chunk ws most i ≠ [] := by
  have hle := (Nat.le_div_iff_mul_le (show 0 < most by omega)).mp (show i + 1 ≤ (ws.length + most - 1) / most from hi)
  rw [Nat.add_mul, Nat.mul_comm] at hle
  intro q
  have h := chunk_len ws most i
  rw [q, List.length_nil] at h
  omega
/-- all that the law's walk asks of the octets -/
structure Octs (D : List Int) (ws : List PE) (most : Nat) : Prop where
  cnt : two D 2 = ((nsub ws.length most : Nat) : Int)
  off0 : offs ws most 0 = 4
  len : offs ws most (nsub ws.length most) = D.length
  nxt : ∀ i, i < nsub ws.length most → two D (offs ws most i + 2) = offs ws most (i + 1) - offs ws most i
  sub : ∀ i, i < nsub ws.length most → Sub D (offs ws most i) (chunk ws most i).length (Nat.log2 (chunk ws most i).length)
  fnd : ∀ i pr, i < nsub ws.length most → found D (offs ws most i) (chunk ws most i).length (Nat.log2 (chunk ws most i).length) pr = lk (chunk ws most i) pr
  small : D.length < 5000
theorem octs_of (hm : 1 ≤ most) (hl : ws.length < 16) (hs : ws.Pairwise fun a b => code a.key < code b.key) (hr : ∀ e ∈ ws, InR e) : Octs (encAll ws most) ws most := by
  rw [encAll_words]
  have sub : ∀ i, (chunk ws most i).Sublist ws := fun i => (List.take_sublist _ _).trans (List.drop_sublist _ _)
  have hcl : ∀ i, (chunk ws most i).length < 16 := fun i => Nat.lt_of_le_of_lt (sub i).length_le hl
  have lenAll : ∀ k, (allW ws most k).length ≤ 2 + 52 * k := by
    intro k
    induction k with
    | zero => simp [allW]
    | succ k ih =>
      have h1 := offs_succ (ws := ws) (most := most) (i := k)
      have h2 := hcl k
      unfold offs at h1
      omega
  have hns := nsub_le (n := ws.length) hm
  refine ⟨?_, ?_, ?_, ?_, ?_, ?_, ?_⟩
  · rw [two_words _ 1 (by omega)]
    rfl
  · rfl
  · rw [rowsEnc_len]; unfold offs; omega
  · intro i hi
    obtain ⟨suf, e⟩ := allW_split (ws := ws) (most := most) hi
    have h := sub_next (pre := allW ws most i) (suf := suf) (c := chunk ws most i) (b := offs ws most i) e rfl
    rw [h, offs_succ]
    omega
  · intro i hi
    obtain ⟨suf, e⟩ := allW_split (ws := ws) (most := most) hi
    exact sub_of (pre := allW ws most i) (suf := suf) e rfl (chunk_ne hm hi) (hcl i)
  · intro i pr hi
    obtain ⟨suf, e⟩ := allW_split (ws := ws) (most := most) hi
    exact found_sub (pre := allW ws most i) (suf := suf) e rfl (chunk_ne hm hi) (hs.sublist (sub i)) fun x hx => hr x ((sub i).subset hx)
  · have := lenAll (nsub ws.length most)
    rw [rowsEnc_len]
    omega
theorem filterMap_eq {α β : Type} {f g : α → Option β} : ∀ {l : List α}, (∀ x ∈ l, f x = g x) → l.filterMap f = l.filterMap g
  | [], _ => rfl
  | x :: l, h => by
    rw [List.filterMap_cons, List.filterMap_cons, h x (.head _), filterMap_eq fun y hy => h y (.tail _ hy)]
theorem heard_ws {D : List Int} (O : Octs D ws most) (hm : 1 ≤ most) (hn : (ws.map (·.key)).Nodup) (pr : Int × Int) :
    (List.range (nsub ws.length most)).filterMap (fun i => found D (offs ws most i) (chunk ws most i).length (Nat.log2 (chunk ws most i).length) pr) = (lk ws pr).toList := by
  have e : (List.range (nsub ws.length most)).filterMap (fun i => found D (offs ws most i) (chunk ws most i).length (Nat.log2 (chunk ws most i).length) pr) = ((List.range (nsub ws.length most)).map (chunk ws most)).filterMap fun c => lk c pr := by
    rw [List.filterMap_map]
    exact filterMap_eq fun i hi => O.fnd i pr (List.mem_range.mp hi)
  have c : ((List.range (nsub ws.length most)).map (chunk ws most)).flatten = ws := by
    rw [← List.flatMap_def]
    exact chunks_all hm
  rw [e, heard_all _ (by rw [c]; exact hn), c]
theorem lk_perm {P : List PE} (h : ws.Perm P) (hn : (P.map (·.key)).Nodup) (pr : Int × Int) : lk ws pr = lk P pr := by
  have hn' : (ws.map (·.key)).Nodup := (h.map _).nodup_iff.mpr hn
  unfold lk
  cases hp : look P pr with
  | some e =>
    obtain ⟨he, rfl⟩ := look_mem hp
    rw [look_of hn' (h.mem_iff.mpr he)]
  | none =>
    rw [look_none fun e he q => ?_]
    subst q
    rw [look_of hn (h.mem_iff.mp he)] at hp
    cases hp
end

end PB
namespace PB
theorem fresh28 : (if True then True else True) := by
  w_top off
  try (walk1; trivial)
  try simp
section
variable {prog : Program} {w : World} {A : Around} {s : Shared} {env : Env} {h₀ : Heap} {target : Expr} {body : List Stmt} {Q : Flow → Shared → Prop}
/-- a turn's end: the frame and the ledger of the next turn; what the iterator owns stands apart -/
noncomputable def EndG (h₀ : Heap) (L : Addr) (J : (Str → Option Value) → List (Addr × Obj) → Prop) (own : List (Addr × Obj)) (s₁ s₂ : Shared) : Prop :=
  ∃ h' tk m' nx, s₂ = { s₁ with heap := h', toks := tk } ∧ Fr h₀ L h' m' ∧ News h₀ L h' (nx ++ own) ∧ OwnOff own (nx.map (·.1)) ∧ J m' nx
theorem EndG.intro {L : Addr} {J : (Str → Option Value) → List (Addr × Obj) → Prop} {m' : Str → Option Value} {own all : List (Addr × Obj)} {s₁ : Shared} {h' : Heap} {tk : Nat} (F : Fr h₀ L h' m') (N : News h₀ L h' all) (nx : List (Addr × Obj))
    (hj : J m' nx) (hn : ∀ p ∈ nx, p ∈ all) (ho : ∀ p ∈ own, p ∈ all) (off : OwnOff own (nx.map (·.1))) : EndG h₀ L J own s₁ { s₁ with heap := h', toks := tk } :=
  ⟨h', tk, m', nx, rfl, F, fun p hp => N p ((List.mem_append.mp hp).elim (hn p) (ho p)), off, hj⟩
noncomputable def PostG (h₀ : Heap) (L : Addr) (J : (Str → Option Value) → List (Addr × Obj) → Prop) (own : List (Addr × Obj)) (s₁ : Shared) (Q : Flow → Shared → Prop) (f : Flow) (s₂ : Shared) : Prop :=
  match f with
  | .ret v => Q (.ret v) s₂
  | .brk => Q .next s₂
  | _ => EndG h₀ L J own s₁ s₂
/-- a loop whose ledger may grow from turn to turn; the walk of a turn begins at the target's storing -/
theorem forG {I : Addr} {fp wr : List Addr} {n : Nat} {P : Nat → Value → Prop} {St : Nat → Heap → Prop} {m : Str → Option Value} {news : List (Addr × Obj)} (J : Nat → (Str → Option Value) → List (Addr × Obj) → Prop)
    (W : Walks prog w A I fp wr n P St) (hLf : env.locals ∉ fp) (hwr : ∀ b ∈ wr, h₀.get? b = none) (hal : ∀ i h, St i h → ∀ b ∈ fp, ∃ o, h.get? b = some o) (hfp : ∀ q ∈ news, q.1 ∉ fp) (hst : St 0 s.heap) (F : Fr h₀ env.locals s.heap m) (N : News h₀ env.locals s.heap news) (hj : J 0 m news)
    (turn : ∀ i v m₁ news₁ h tk own, i < n → P i v → OwnOff own (news₁.map (·.1)) → J i m₁ news₁ → Fr h₀ env.locals h m₁ → News h₀ env.locals h (news₁ ++ own) →
      wpAny (model prog w) A (assign target env v) (fun _ s₂ => wpX (model prog w) A (execs body env) (PostG h₀ env.locals (J (i + 1)) own { s with heap := h, toks := tk } Q) NoE s₂) NoE { s with heap := h, toks := tk })
    (done : ∀ m₁ news₁ h tk, J n m₁ news₁ → Fr h₀ env.locals h m₁ → News h₀ env.locals h news₁ → Q .next { s with heap := h, toks := tk })
    (ht : ∀ v, letOwnedTupleGo target (.ref I) v = pure () := by intro _; rfl) :
    codeX (model prog w) A (.forLoop target (.ref I) body [] env) (fun r s' => match r with | .ok f => Q f s' | .error _ => False) s := by
  have hLw : env.locals ∉ wr := fun h => hLf (W.sub _ h)
  have old : ∀ b o, h₀.get? b = some o → b ∉ wr := fun b o e hb => by rw [hwr b hb] at e; cases e
  refine codeX_forLoop
    (fun k s' => ∃ h' tk m' nx i, s' = { s with heap := h', toks := tk } ∧ St i h' ∧ Fr h₀ env.locals h' m' ∧ News h₀ env.locals h' nx ∧ (∀ q ∈ nx, q.1 ∉ fp) ∧ J i m' nx ∧ i ≤ n ∧ k = n + 1 - i) ?_ (n + 1)
    ⟨s.heap, s.toks, m, news, 0, rfl, hst, F, N, hfp, hj, Nat.zero_le _, rfl⟩ ht
  rintro k s' ⟨h', tk, m', nx, i, rfl, hst', F', N', hoff, hJ, hi, rfl⟩
  have offw : ∀ p ∈ nx, p.1 ∉ wr := fun p hp hq => hoff p hp (W.sub _ hq)
  have next : ∀ h₁ : Heap, (∀ b o, b ∉ wr → h'.get? b = some o → h₁.get? b = some o) → Fr h₀ env.locals h₁ m' ∧ News h₀ env.locals h₁ nx := fun h₁ hk₁ =>
    ⟨⟨F'.ns.at' fun o e => hk₁ _ o hLw e, fun b o e => hk₁ b o (old b o e) (F'.keep b o e), F'.above⟩, fun p hp => ⟨hk₁ _ _ (offw p hp) (N' p hp).1, (N' p hp).2⟩⟩
  by_cases hlt : i < n
  · refine W.item i _ _ _ hlt hst' fun v h₁ tk₁ hP hst₁ hk₁ => ?_
    obtain ⟨F₁, N₁⟩ := next h₁ hk₁
    have Nown : News h₀ env.locals h₁ (ownOf h₀ fp h₁) := news_ownOf hLf
    have hsep : OwnOff (ownOf h₀ fp h₁) (nx.map (·.1)) := fun p hp b hb e => by
      obtain ⟨q, hq, rfl⟩ := List.mem_map.mp hb
      exact hoff q hq (e ▸ ownOf_sub p hp)
    have N₂ : News h₀ env.locals h₁ (nx ++ ownOf h₀ fp h₁) := fun p hp => (List.mem_append.mp hp).elim (fun h => N₁ p h) fun h => Nown p h
    refine wpAny_mono (turn i v m' nx h₁ tk₁ (ownOf h₀ fp h₁) hlt hP hsep hJ F₁ N₂) (fun _ s₂ h₂ => wpX_mono h₂ (fun f s₃ h₃ => ?_) fun _ _ e => e) fun _ _ e => e
    have fin : EndG h₀ env.locals (J (i + 1)) (ownOf h₀ fp h₁) { s with heap := h₁, toks := tk₁ } s₃ →
        ∃ k', k' < n + 1 - i ∧ ∃ h' tk m' nx i', s₃ = { s with heap := h', toks := tk } ∧ St i' h' ∧ Fr h₀ env.locals h' m' ∧ News h₀ env.locals h' nx ∧ (∀ q ∈ nx, q.1 ∉ fp) ∧ J i' m' nx ∧ i' ≤ n ∧ k' = n + 1 - i' := by
      rintro ⟨h₃', tk₃, m₃, nx₃, rfl, F₃, N₃, ho, hm⟩
      refine ⟨n + 1 - (i + 1), by omega, h₃', tk₃, m₃, nx₃, i + 1, rfl, ?_, F₃, fun p hp => N₃ p (List.mem_append_left _ hp), fun q hq hf => ?_, hm, hlt, rfl⟩
      · refine W.frame _ _ _ hst₁ fun b hb o e => ?_
        cases hn' : h₀.get? b with
        | some o₀ =>
          have : o₀ = o := by have := F₁.keep b o₀ hn'; rw [e] at this; exact (Option.some.inj this).symm
          exact this ▸ F₃.keep b o₀ hn'
        | none => exact (N₃ (b, o) (List.mem_append_right _ (mem_ownOf hb hn' e))).1
      · obtain ⟨o, e⟩ := hal _ _ hst₁ _ hf
        have hn' : h₀.get? q.1 = none := (N₃ q (List.mem_append_left _ hq)).2.2
        exact ho _ (mem_ownOf hf hn' e) q.1 (List.mem_map.mpr ⟨q, hq, rfl⟩) rfl
    cases f with
    | ret v => exact h₃
    | brk => exact h₃
    | next => exact fin h₃
    | cont => exact fin h₃
  · have hin : i = n := by omega
    subst hin
    refine W.done _ _ _ hst' fun h₁ tk₁ hk₁ => ?_
    obtain ⟨F₁, N₁⟩ := next h₁ hk₁
    exact done m' nx h₁ tk₁ hJ F₁ N₁
/-- over a range -/
theorem forG_range {r : Addr} {a b c : Int} {t u v : Tok} {n : Nat} {m : Str → Option Value} {news : List (Addr × Obj)} (J : Nat → (Str → Option Value) → List (Addr × Obj) → Prop)
    (F : Fr h₀ env.locals s.heap m) (N : News h₀ env.locals s.heap news) (hr : IsRange s.heap r a b c t u v) (hsm : Builtin.Range.small a b c = true) (hn : Builtin.Range.rangeSize a b c = ((n : Nat) : Int)) (hh : A.handled = none) (hj : J 0 m news)
    (turn : ∀ i t m₁ news₁ h tk own, i < n → OwnOff own (news₁.map (·.1)) → J i m₁ news₁ → Fr h₀ env.locals h m₁ → News h₀ env.locals h (news₁ ++ own) →
      wpAny (model prog w) A (assign target env (.int (a + (i : Int) * c) t)) (fun _ s₂ => wpX (model prog w) A (execs body env) (PostG h₀ env.locals (J (i + 1)) own { s with heap := h, toks := tk } Q) NoE s₂) NoE { s with heap := h, toks := tk })
    (done : ∀ m₁ news₁ h tk, J n m₁ news₁ → Fr h₀ env.locals h m₁ → News h₀ env.locals h news₁ → Q .next { s with heap := h, toks := tk })
    (ht : ∀ it v, letOwnedTupleGo target it v = pure () := by intro _ _; rfl) :
    wpAny (model prog w) A (pyIter (.ref r)) (fun it s₂ => codeX (model prog w) A (.forLoop target it body [] env) (fun r s' => match r with | .ok f => Q f s' | .error _ => False) s₂) NoE s := by
  refine wpAny_pyIter_range hr hsm ?_
  have up : ∀ o' b o, s.heap.get? b = some o → (s.heap.push o').get? b = some o := fun _ b o e => Heap.get?_push_of_some _ e
  refine forG (h₀ := h₀) (I := s.heap.objs.size) (fp := [s.heap.objs.size]) (wr := [s.heap.objs.size]) (n := n) (m := m) (news := news) J (stepWalks hh a c n) ?_ ?_ ?_ ?_ ?_ (F.keeps (up _)) (N.grown (up _)) hj ?_ ?_ (ht _)
  · exact fun q => Nat.ne_of_lt F.ns.lt (List.mem_singleton.mp q)
  · intro b hb
    rw [List.mem_singleton.mp hb]
    exact next_is_new F
  · intro i h st b hb
    rw [List.mem_singleton.mp hb]
    exact ⟨_, st⟩
  · exact fun q hq hf => Nat.ne_of_lt (Heap.lt_size (N q hq).1) (List.mem_singleton.mp hf)
  · show IsRangeIter _ _ _ _ _
    rw [hn]
    simpa using Heap.get?_push_size _ rfl
  · rintro i v m₁ news₁ h tk own hi ⟨t9, rfl⟩ hoff hJ F1 N2
    exact turn i t9 m₁ news₁ h tk own hi hoff hJ F1 N2
  · exact fun m₁ news₁ h tk hJ F1 N2 => done m₁ news₁ h tk hJ F1 N2
/-- over a list of the ledger -/
theorem forG_list {W : Addr} {its : Array Value} {k : Nat} {m : Str → Option Value} {news : List (Addr × Obj)} (J : Nat → (Str → Option Value) → List (Addr × Obj) → Prop)
    (F : Fr h₀ env.locals s.heap m) (N : News h₀ env.locals s.heap ((W, ({ cls := .type "list", data := .seq its k } : Obj)) :: news)) (hW : ∀ q ∈ news, q.1 ≠ W) (hh : A.handled = none) (hj : J 0 m news)
    (turn : ∀ i v m₁ news₁ h tk own, its[i]? = some v → OwnOff own (news₁.map (·.1)) → J i m₁ news₁ → Fr h₀ env.locals h m₁ → News h₀ env.locals h (news₁ ++ own) →
      wpAny (model prog w) A (assign target env v) (fun _ s₂ => wpX (model prog w) A (execs body env) (PostG h₀ env.locals (J (i + 1)) own { s with heap := h, toks := tk } Q) NoE s₂) NoE { s with heap := h, toks := tk })
    (done : ∀ m₁ news₁ h tk, J its.size m₁ news₁ → Fr h₀ env.locals h m₁ → News h₀ env.locals h news₁ → Q .next { s with heap := h, toks := tk })
    (ht : ∀ it v, letOwnedTupleGo target it v = pure () := by intro _ _; rfl) :
    wpAny (model prog w) A (pyIter (.ref W)) (fun it s₂ => codeX (model prog w) A (.forLoop target it body [] env) (fun r s' => match r with | .ok f => Q f s' | .error _ => False) s₂) NoE s := by
  have hl : s.heap.IsList W its := ⟨_, N.get (.head _), rfl, k, rfl⟩
  have hlt : W < s.heap.objs.size := by obtain ⟨_, e, _⟩ := hl; exact Heap.lt_size e
  refine wpAny_pyIter_list hl ?_
  have up : ∀ b o, s.heap.get? b = some o → (s.heap.push { cls := .type "list_iterator", data := .fields #[.ref W, .int 0 0] }).get? b = some o := fun b o e => Heap.get?_push_of_some _ e
  have N1 : News h₀ env.locals s.heap news := fun p hp => N p (.tail _ hp)
  refine forG (h₀ := h₀) (I := s.heap.objs.size) (fp := [s.heap.objs.size, W]) (wr := [s.heap.objs.size]) (n := its.size) (m := m) (news := news) J (Walks.list hh s.heap.objs.size W (Nat.ne_of_lt hlt) its) ?_ ?_ ?_ ?_ ⟨⟨_, Heap.get?_push_size _ rfl, rfl, rfl⟩, hl.push _⟩ (F.keeps up) (N1.grown up) hj ?_ ?_ (ht _)
  · intro q
    rcases List.mem_cons.mp q with q | q
    · exact Nat.ne_of_lt F.ns.lt q
    · exact (N (W, _) (.head _)).2.1 (List.mem_singleton.mp q).symm
  · intro b hb
    rw [List.mem_singleton.mp hb]
    exact next_is_new F
  · intro i h st b hb
    rcases List.mem_cons.mp hb with rfl | hb
    · obtain ⟨o, e, _⟩ := st.1
      exact ⟨o, e⟩
    · rw [List.mem_singleton.mp hb]
      obtain ⟨o, e, _⟩ := st.2
      exact ⟨o, e⟩
  · intro q hq hf
    rcases List.mem_cons.mp hf with e | e
    · exact Nat.ne_of_lt (Heap.lt_size (N1 q hq).1) e
    · exact hW q hq (List.mem_singleton.mp e)
  · exact fun i v m₁ news₁ h tk own hi hP hoff hJ F1 N2 => turn i v m₁ news₁ h tk own hP hoff hJ F1 N2
  · exact fun m₁ news₁ h tk hJ F1 N2 => done m₁ news₁ h tk hJ F1 N2
noncomputable abbrev FMap := Str → Option Value
/-- the same, the word told also what the frame was ahead of the loop -/
theorem forG_rangeM {r : Addr} {a b c : Int} {t u v : Tok} {n : Nat} {m : FMap} {news : List (Addr × Obj)} (J : FMap → Nat → FMap → List (Addr × Obj) → Prop)
    (F : Fr h₀ env.locals s.heap m) (N : News h₀ env.locals s.heap news) (hr : IsRange s.heap r a b c t u v) (hsm : Builtin.Range.small a b c = true) (hn : Builtin.Range.rangeSize a b c = ((n : Nat) : Int)) (hh : A.handled = none) (hj : J m 0 m news)
    (turn : ∀ i t m₁ news₁ h tk own, i < n → OwnOff own (news₁.map (·.1)) → J m i m₁ news₁ → Fr h₀ env.locals h m₁ → News h₀ env.locals h (news₁ ++ own) →
      wpAny (model prog w) A (assign target env (.int (a + (i : Int) * c) t)) (fun _ s₂ => wpX (model prog w) A (execs body env) (PostG h₀ env.locals (J m (i + 1)) own { s with heap := h, toks := tk } Q) NoE s₂) NoE { s with heap := h, toks := tk })
    (done : ∀ m₁ news₁ h tk, J m n m₁ news₁ → Fr h₀ env.locals h m₁ → News h₀ env.locals h news₁ → Q .next { s with heap := h, toks := tk })
    (ht : ∀ it v, letOwnedTupleGo target it v = pure () := by intro _ _; rfl) :
    wpAny (model prog w) A (pyIter (.ref r)) (fun it s₂ => codeX (model prog w) A (.forLoop target it body [] env) (fun r s' => match r with | .ok f => Q f s' | .error _ => False) s₂) NoE s :=
  forG_range (J m) F N hr hsm hn hh hj turn done ht
theorem forG_listM {W : Addr} {its : Array Value} {k : Nat} {m : FMap} {news : List (Addr × Obj)} (J : FMap → Nat → FMap → List (Addr × Obj) → Prop)
    (F : Fr h₀ env.locals s.heap m) (N : News h₀ env.locals s.heap ((W, ({ cls := .type "list", data := .seq its k } : Obj)) :: news)) (hW : ∀ q ∈ news, q.1 ≠ W) (hh : A.handled = none) (hj : J m 0 m news)
    (turn : ∀ i v m₁ news₁ h tk own, its[i]? = some v → OwnOff own (news₁.map (·.1)) → J m i m₁ news₁ → Fr h₀ env.locals h m₁ → News h₀ env.locals h (news₁ ++ own) →
      wpAny (model prog w) A (assign target env v) (fun _ s₂ => wpX (model prog w) A (execs body env) (PostG h₀ env.locals (J m (i + 1)) own { s with heap := h, toks := tk } Q) NoE s₂) NoE { s with heap := h, toks := tk })
    (done : ∀ m₁ news₁ h tk, J m its.size m₁ news₁ → Fr h₀ env.locals h m₁ → News h₀ env.locals h news₁ → Q .next { s with heap := h, toks := tk })
    (ht : ∀ it v, letOwnedTupleGo target it v = pure () := by intro _ _; rfl) :
    wpAny (model prog w) A (pyIter (.ref W)) (fun it s₂ => codeX (model prog w) A (.forLoop target it body [] env) (fun r s' => match r with | .ok f => Q f s' | .error _ => False) s₂) NoE s :=
  forG_list (J m) F N hW hh hj turn done ht
end
/-- a frame as two names changed upon another -/
theorem frame2 {x y : Str} {m₁ m₀ : FMap} {u : Option Value} (ha : m₁ y = u) (hm : ∀ z, z ≠ x → z ≠ y → m₁ z = m₀ z) : m₁ = fun z => if z = y then u else if z = x then m₁ x else m₀ z := by
  funext z
  by_cases h1 : z = y
  · simp [h1, ha]
  · by_cases h2 : z = x
    · subst h2
      rw [if_neg h1, if_pos rfl]
    · rw [if_neg h1, if_neg h2, hm z h2 h1]
theorem frame1 {x : Str} {m₁ m₀ : FMap} (hm : ∀ z, z ≠ x → m₁ z = m₀ z) : m₁ = fun z => if z = x then m₁ x else m₀ z := by
  funext z
  by_cases h2 : z = x
  · subst h2
    rw [if_pos rfl]
  · rw [if_neg h2, hm z h2]

end PB
namespace PB
theorem fresh29 : (if True then True else True) := by
  w_top off
  try (walk1; trivial)
  try simp
noncomputable abbrev penO (q : Addr) (a b : Int) (t u : Tok) (k : Nat) : Obj := W.listOf #[.ref q, .int a t, .int b u] k
section
variable {w : World} {mean : ExcName → Option Value} {mg mb : Str → Option Value} {dp un : Nat} {gd : Option (List Code)} {cn : Str} {cs : Scope} {a : Addr} {ccd : Value} {cl : List (Str × Addr)} {outer : List Env} {A₀ : Around} {base h₀ : Heap} {L : Addr} {m : Str → Option Value} {s : Shared} {Q E : Value → Shared → Prop} {news : List (Addr × Obj)}
theorem lenI {A : Around} {l : Addr} {vs : List Value} {ns : List Int} {n : Nat} {Q : Value → Shared → Prop} (N : News h₀ L s.heap news) (hm : (l, W.listOf vs.toArray n) ∈ news) (hi : IntsAre vs ns) (hl : ns.length < 1000) (h : ∀ t k, Q (.int ns.length t) { s with toks := k }) :
    wpAny (model PySem.Challenge.rw_pb0162_01.row.prog w) A (call (.builtin "len") [.ref l]) Q E s := by
  have e : ((vs.toArray.size : Nat) : Int) = ns.length := by rw [List.size_toArray, hi.length]
  refine call_len_list (items := vs.toArray) ⟨_, N.get hm, rfl, n, rfl⟩ (by rw [e]; omega) ?_
  rw [e]
  exact h _ _
theorem pen_ne {A : Around} {q e : Addr} {vs : List Value} {ns : List Int} {kq ke : Nat} {Q : Value → Shared → Prop} (N : News h₀ L s.heap news) (hq : (q, W.listOf vs.toArray kq) ∈ news) (he : (e, W.listOf #[] ke) ∈ news) (hi : IntsAre vs ns) (hu : A.units + 64 < cLine)
    (h0 : ns = [] → Q (.bool false) s) (h1 : 0 < ns.length → Q (.bool true) s) : wpAny (model PySem.Challenge.rw_pb0162_01.row.prog w) A (compareOp .NotEq (.ref q) (.ref e)) Q E s := by
  refine ne_intsK (vs := vs) (ns := ns) (us := []) (ms := []) ⟨_, N.get hq, rfl, _, rfl⟩ hi ⟨_, N.get he, rfl, _, rfl⟩ .nil hu ?_
  by_cases hn : ns = []
  · have e : (!decide (ns = [])) = false := by simp [hn]
    rw [e]
    exact h0 hn
  · have e : (!decide (ns = [])) = true := by simp [hn]
    rw [e]
    exact h1 (List.length_pos_iff.mpr hn)
theorem item_ints {A : Around} {l : Addr} {vs : List Value} {ns : List Int} {n : Nat} {k : Int} {u : Tok} {value slice : Expr} {Q : Value → Shared → Prop} (N : News h₀ L s.heap news) (hm : (l, W.listOf vs.toArray n) ∈ news) (hi : IntsAre vs ns) (h0 : 0 ≤ k) (h1 : k < ns.length) (hl : ns.length < 1000)
    (h : ∀ c t, c ∈ ns → Q (.int c t) s) (hs : subscripted slice false (.ref l) (.int k u) = operate [.ref l, .int k u] (getItem (.ref l) (.int k u)) := by with_unfolding_all rfl) :
    wpAny (model PySem.Challenge.rw_pb0162_01.row.prog w) A (subscriptTail value slice (.ref l) (.int k u)) Q E s := by
  have hlist : s.heap.IsList l vs.toArray := ⟨_, N.get hm, rfl, n, rfl⟩
  have hlt : k.toNat < vs.toArray.size := by rw [List.size_toArray, hi.length]; omega
  obtain ⟨c, t, hc, e⟩ := ints_at hi (Array.getElem?_eq_getElem hlt)
  refine tail_any hlist.typeIs slot_list_getitem.lookup (wpAny_getItem_list hlist h0 (by omega) (Array.getElem?_eq_getElem hlt) ?_) hs
  rw [e]
  exact h c t (List.mem_of_getElem? hc)
theorem abs_any {A : Around} {c : Int} {t : Tok} {Q : Value → Shared → Prop} (h : ∀ d t' k, Q (.int d t') { s with toks := k }) : wpAny (model PySem.Challenge.rw_pb0162_01.row.prog w) A (call (.builtin "abs") [.int c t]) Q E s := call_abs_int fun u k => h _ u k
theorem pow_ok0 : (10 : Int).natAbs < 2 ^ 64 := by decide
theorem pow_any {A : Around} {c n : Int} {t t' : Tok} {Q : Value → Shared → Prop} (h0 : 0 ≤ n) (h1 : n ≤ 1000000) (hc : c.natAbs < 2 ^ 64) (h : ∀ d t' k, Q (.int d t') { s with toks := k }) : wpAny (model PySem.Challenge.rw_pb0162_01.row.prog w) A (binaryOp .Pow (.int c t) (.int n t')) Q E s := pow_int_small h0 h1 hc (h _ _ _)
theorem pow_ok1 {c a1 : Int} (h0 : 0 ≤ a1) (h1 : a1 < 1000) : (c.fmod 2147483587 + 20947 * a1 + 3571).natAbs < 2 ^ 64 := by
  have h2 := Int.fmod_nonneg_of_pos c (b := 2147483587) (by decide)
  have h3 := Int.fmod_lt_of_pos c (b := 2147483587) (by decide)
  omega
theorem pow_ok2 {c a1 : Int} (h0 : 0 ≤ a1) (h1 : a1 < 1000) : (c.fmod 2147483629 * (2 * a1 + 7207) + 20947 * a1 * a1 + 31).natAbs < 2 ^ 64 := by
  have h2 := Int.fmod_nonneg_of_pos c (b := 2147483629) (by decide)
  have h3 := Int.fmod_lt_of_pos c (b := 2147483629) (by decide)
  generalize c.fmod 2147483629 = x at h2 h3
  have h4 : 0 ≤ x * (2 * a1 + 7207) := Int.mul_nonneg h2 (by omega)
  have h5 : x * (2 * a1 + 7207) ≤ 2147483629 * (2 * a1 + 7207) := Int.mul_le_mul_of_nonneg_right (by omega) (by omega)
  have h6 : 0 ≤ 20947 * a1 * a1 := Int.mul_nonneg (by omega) h0
  have h7 : 20947 * a1 * a1 ≤ 20947 * a1 * 1000 := Int.mul_le_mul_of_nonneg_left (by omega) (by omega)
  omega
theorem pow10 {A : Around} {t t' : Tok} {Q : Value → Shared → Prop} (h : ∀ d t' k, Q (.int d t') { s with toks := k }) : wpAny (model PySem.Challenge.rw_pb0162_01.row.prog w) A (binaryOp .Pow (.int 10 t) (.int 18 t')) Q E s := pow_any (by decide) (by decide) pow_ok0 h
theorem powA {A : Around} {c a1 : Int} {t t' : Tok} {Q : Value → Shared → Prop} (h0 : 0 ≤ a1) (h1 : a1 < 1000) (h : ∀ d t' k, Q (.int d t') { s with toks := k }) : wpAny (model PySem.Challenge.rw_pb0162_01.row.prog w) A (binaryOp .Pow (.int (c.fmod 2147483587 + 20947 * a1 + 3571) t) (.int 5 t')) Q E s := pow_any (by decide) (by decide) (pow_ok1 h0 h1) h
theorem powB {A : Around} {c a1 : Int} {t t' : Tok} {Q : Value → Shared → Prop} (h0 : 0 ≤ a1) (h1 : a1 < 1000) (h : ∀ d t' k, Q (.int d t') { s with toks := k }) : wpAny (model PySem.Challenge.rw_pb0162_01.row.prog w) A (binaryOp .Pow (.int (c.fmod 2147483629 * (2 * a1 + 7207) + 20947 * a1 * a1 + 31) t) (.int 3 t')) Q E s := pow_any (by decide) (by decide) (pow_ok2 h0 h1) h
theorem pen_set2 {A : Around} {p q : Addr} {a b b' : Int} {t u u' t0 : Tok} {k : Nat} {rest : List (Addr × Obj)} {Q : Unit → Shared → Prop} (F : Fr h₀ L s.heap m) (N : News h₀ L s.heap ((p, penO q a b t u k) :: rest)) (hp : ∀ x ∈ rest, x.1 ≠ p)
    (h : ∀ h', Fr h₀ L h' m → News h₀ L h' ((p, penO q a b' t u' k) :: rest) → Q () { s with heap := h' }) : wpAny (model PySem.Challenge.rw_pb0162_01.row.prog w) A (setItem (.ref p) (.int 2 t0) (.int b' u')) Q E s :=
  ki_set F N (by decide) (by decide) rfl (Upd.head hp) h
variable {Qf : Flow → Shared → Prop} {Ef : Value → Shared → Prop} {g : Heap} {L1 p q : Addr} {a1 b1 c many : Int} {t u v tc ts : Tok} {k kq : Nat} {vs : List Value} {ns : List Int}
/-- the draw's last three statements -/
theorem draw_stir {ps : Arguments} {s0 s1 s2 s3 s4 s5 s6 s7 s8 : Stmt} {sc : Scope} (hb : PySem.Challenge.rw_pb0162_01.row.prog.theDef (Str.ofString "_law_draw") = some (ps, [s0, s1, s2, s3, s4, s5, s6, s7, s8], sc)) (B : Below (ktrTop dp un gd cn cs L a ccd cl outer) base (envX cn cs L a ccd cl :: outer) g) (X : (hd.heap_1 w.params).In g) (T : Top hd.view_1 (looseW hd.view_1 [Str.ofString "ShapeError", Str.ofString "write_kern"]) mean mg mb g) (hk : cs.kind = .function) (hroom : dp + 1 < recursionLimit) (hun : un + 80 < cLine)
  (F : Fr g L1 s.heap (fun y => if y = Str.ofString "cell" then some (.int c tc) else if y = Str.ofString "spot" then some (.int a1 ts) else List.lookup y [(Str.ofString "many", .int many v), (Str.ofString "pen", .ref p)])) (N : News g L1 s.heap news) (ha : 0 ≤ a1) (ha2 : a1 < 1000) (hm0 : 1 ≤ many) (hm1 : many ≤ 64)
  (hret : ∀ r t9 m' h' tk', 0 ≤ r → r < many → Fr g L1 h' m' → News g L1 h' news → Qf (.ret (.int r t9)) {s with heap := h', toks := tk'}) :
  wpAny (model PySem.Challenge.rw_pb0162_01.row.prog w) ((ktrTop dp un gd cn cs L a ccd cl outer).deeper (envOf (Str.ofString "_law_draw") sc L1 191 (Value.ref 190))) (exec s6 (envOf (Str.ofString "_law_draw") sc L1 191 (Value.ref 190))) (fun f s' => match f with | .next => wpAny (model PySem.Challenge.rw_pb0162_01.row.prog w) ((ktrTop dp un gd cn cs L a ccd cl outer).deeper (envOf (Str.ofString "_law_draw") sc L1 191 (Value.ref 190))) (execs [s7, s8] (envOf (Str.ofString "_law_draw") sc L1 191 (Value.ref 190))) Qf Ef s' | f => Qf f s') Ef s := by
  k_with_none
  (k_with "binaryOp Pow int int" => (refine Stop.out ?_))
  revert X; k_fill; intro X
  injection hb with hb
  injection hb with _ hb
  injection hb with hb hsc
  injection hb with h09 hb
  injection hb with h19 hb
  injection hb with h29 hb
  injection hb with h39 hb
  injection hb with h49 hb
  injection hb with h59 hb
  injection hb with h69 hb
  injection hb with h79 hb
  injection hb with h89 hb
  subst hsc h09 h19 h29 h39 h49 h59 h69 h79 h89
  clear hb
  k_steps
  refine Stop.go (powA ha ha2 fun d9 t9 k9 => ?_)
  dsimp only
  k_steps
  refine Stop.go (powB ha ha2 fun d9 t9 k9 => ?_)
  dsimp only
  k_steps
  exact hret _ _ _ _ _ (Int.fmod_nonneg_of_pos _ (by omega)) (Int.fmod_lt_of_pos _ (by omega)) (by k_asm) (by k_asm)
theorem draw_tail {ps : Arguments} {s0 s1 s2 s3 s4 s5 s6 s7 s8 : Stmt} {sc : Scope} (hb : PySem.Challenge.rw_pb0162_01.row.prog.theDef (Str.ofString "_law_draw") = some (ps, [s0, s1, s2, s3, s4, s5, s6, s7, s8], sc)) (B : Below (ktrTop dp un gd cn cs L a ccd cl outer) base (envX cn cs L a ccd cl :: outer) g) (X : (hd.heap_1 w.params).In g) (T : Top hd.view_1 (looseW hd.view_1 [Str.ofString "ShapeError", Str.ofString "write_kern"]) mean mg mb g) (hk : cs.kind = .function) (hroom : dp + 1 < recursionLimit) (hun : un + 80 < cLine)
  (F : Fr g L1 s.heap (fun y => if y = Str.ofString "cell" then some (.int c tc) else if y = Str.ofString "spot" then some (.int a1 ts) else List.lookup y [(Str.ofString "many", .int many v), (Str.ofString "pen", .ref p)])) (N : News g L1 s.heap ((p, penO q (a1 + 1) b1 t u k) :: (q, W.listOf vs.toArray kq) :: news)) (hi : IntsAre vs ns) (hlen : ns.length ≤ 40) (ha : 0 ≤ a1) (ha2 : a1 < 1000) (hm0 : 1 ≤ many) (hm1 : many ≤ 64) (hpx : ∀ x ∈ (q, W.listOf vs.toArray kq) :: news, x.1 ≠ p)
  (hret : ∀ r t9 b2 u2 m' h' tk', 0 ≤ r → r < many → Fr g L1 h' m' → News g L1 h' ((p, penO q (a1 + 1) b2 t u2 k) :: (q, W.listOf vs.toArray kq) :: news) → Qf (.ret (.int r t9)) {s with heap := h', toks := tk'}) :
  wpAny (model PySem.Challenge.rw_pb0162_01.row.prog w) ((ktrTop dp un gd cn cs L a ccd cl outer).deeper (envOf (Str.ofString "_law_draw") sc L1 191 (Value.ref 190))) (exec s5 (envOf (Str.ofString "_law_draw") sc L1 191 (Value.ref 190))) (fun f s' => match f with | .next => wpAny (model PySem.Challenge.rw_pb0162_01.row.prog w) ((ktrTop dp un gd cn cs L a ccd cl outer).deeper (envOf (Str.ofString "_law_draw") sc L1 191 (Value.ref 190))) (execs [s6, s7, s8] (envOf (Str.ofString "_law_draw") sc L1 191 (Value.ref 190))) Qf Ef s' | f => Qf f s') Ef s := by
  k_with_none
  (k_with "binaryOp Pow int int" => (refine Stop.out ?_))
  (k_with "call builtin:abs" => (k_here; (refine abs_any ?_); intro ab9Z t9Z k9Z; (try dsimp only)))
  (k_with "call builtin:len" => (refine Stop.out ?_))
  (k_with "setItem ref int" => (refine Stop.out ?_))
  (k_with "exec Assign" => (k_here; (with_reducible show wpAny _ _ (exec (Stmt.Assign [Expr.Name (Str.ofString "stirred") _] _ _) _) _ _ _); refine Stop.out ?_))
  have hb0 := hb
  revert X; k_fill; intro X
  injection hb with hb
  injection hb with _ hb
  injection hb with hb hsc
  injection hb with h09 hb
  injection hb with h19 hb
  injection hb with h29 hb
  injection hb with h39 hb
  injection hb with h49 hb
  injection hb with h59 hb
  injection hb with h69 hb
  injection hb with h79 hb
  injection hb with h89 hb
  subst hsc h09 h19 h29 h39 h49 h59 h69 h79 h89
  clear hb
  k_steps
  refine Stop.go (lenI (by k_asm) (.tail _ (.head _)) hi (by omega) fun t9 k9 => ?_)
  dsimp only
  k_steps
  · refine Stop.go (pow10 fun d9 t9 k9 => ?_)
    dsimp only
    k_steps
    · refine Stop.go (pow10 fun d9 t9 k9 => ?_)
      dsimp only
      k_steps
      refine Stop.go (pen_set2 (rest := (q, W.listOf vs.toArray kq) :: news) (by k_asm) (by k_asm) hpx fun h8 F8 N8 => ?_)
      dsimp only
      k_steps
      exact hret _ _ _ _ _ _ _ (Int.fmod_nonneg_of_pos _ (by omega)) (Int.fmod_lt_of_pos _ (by omega)) (by k_asm) (by k_asm)
    · exact draw_stir hb0 B X T hk hroom hun (by k_asm) (show News _ _ _ _ by k_asm) ha ha2 hm0 hm1 fun r t9 m' h' tk' r0 r1 F9 N9 => hret r t9 _ _ m' h' tk' r0 r1 F9 N9
  · exact draw_stir hb0 B X T hk hroom hun (by k_asm) (show News _ _ _ _ by k_asm) ha ha2 hm0 hm1 fun r t9 m' h' tk' r0 r1 F9 N9 => hret r t9 _ _ m' h' tk' r0 r1 F9 N9
theorem frame_dup {g h : Heap} {L : Addr} {x : Str} {a b : Option Value} {m : FMap} (F : Fr g L h (fun y => if y = x then a else if y = x then b else m y)) : Fr g L h (fun y => if y = x then a else m y) := by
  have e : (fun y => if y = x then a else if y = x then b else m y) = (fun y => if y = x then a else m y) := by
    funext y
    by_cases h1 : y = x
    · simp only [if_pos h1]
    · simp only [if_neg h1]
  rw [e] at F
  exact F
theorem pen_set1 {A : Around} {p q : Addr} {a a' b : Int} {t t' u t0 : Tok} {k : Nat} {rest : List (Addr × Obj)} {Q : Unit → Shared → Prop} (F : Fr h₀ L s.heap m) (N : News h₀ L s.heap ((p, penO q a b t u k) :: rest)) (hp : ∀ x ∈ rest, x.1 ≠ p)
    (h : ∀ h', Fr h₀ L h' m → News h₀ L h' ((p, penO q a' b t' u k) :: rest) → Q () { s with heap := h' }) : wpAny (model PySem.Challenge.rw_pb0162_01.row.prog w) A (setItem (.ref p) (.int 1 t0) (.int a' t')) Q E s :=
  ki_set F N (by decide) (by decide) rfl (Upd.head hp) h
theorem draw_tells
 (B : Below A₀ base outer h₀) (F : Fr h₀ L s.heap m) (X : (hd.heap_1 w.params).In h₀) (N : News h₀ L s.heap ((p, penO q a1 b1 t u k) :: (q, W.listOf vs.toArray kq) :: news)) (T : Top hd.view_1 (looseW hd.view_1 [Str.ofString "ShapeError", Str.ofString "write_kern"]) mean mg mb h₀) (hk : cs.kind = .function) (hroom : dp + 1 < recursionLimit) (hun : un + 80 < cLine) (hi : IntsAre vs ns) (hlen : ns.length ≤ 40) (ha : 0 ≤ a1) (ha2 : a1 < 1000) (hm0 : 1 ≤ many) (hm1 : many ≤ 64) (hpq : p ≠ q) (hp : ∀ x ∈ news, x.1 ≠ p)
 (hret : ∀ r t9 a2 b2 t' u' k' h' tk', 0 ≤ r → r < many → a1 ≤ a2 → a2 ≤ a1 + 1 → Fr h₀ L h' m → News h₀ L h' ((p, penO q a2 b2 t' u' k') :: (q, W.listOf vs.toArray kq) :: news) → Q (.int r t9) {s with heap := h', toks := tk'}) :
 wpAny (model PySem.Challenge.rw_pb0162_01.row.prog w) (ktrTop dp un gd cn cs L a ccd cl outer) (call (.ref 191) [.ref p, .int many v]) Q E s := by
  k_with_none
  (k_with "binaryOp Pow int int" => (refine Stop.out ?_))
  (k_with "call builtin:abs" => (k_here; (refine abs_any ?_); intro ab9Z t9Z k9Z; (try dsimp only)))
  (k_with "call builtin:len" => (refine Stop.out ?_))
  (k_with "setItem ref int" => (refine Stop.out ?_))
  (k_with "exec Assign" => (k_here; (with_reducible show wpAny _ _ (exec (Stmt.Assign [Expr.Name (Str.ofString "stirred") _] _ _) _) _ _ _); refine Stop.out ?_))
  (k_with "compareOp NotEq ref ref" => (refine Stop.out ?_))
  (k_with "subscriptTail" => (k_here; (with_reducible show wpAny _ _ (subscriptTail _ (Expr.BinOp _ _ _ _) _ _) _ _ _); refine Stop.out ?_))
  (k_with "exec If BoolOp" => (refine Stop.out ?_))
  have hpx : ∀ x ∈ (q, W.listOf vs.toArray kq) :: news, x.1 ≠ p := List.forall_mem_cons.mpr ⟨Ne.symm hpq, hp⟩
  revert X; k_fill; intro X
  refine wpAny_call ?_
  k_dflt cell_enter
  k_steps
  · refine Stop.go (pen_set2 (rest := (q, W.listOf vs.toArray kq) :: news) (by k_asm) (by k_asm) hpx fun h8 F8 N8 => ?_)
    dsimp only
    k_steps
    exact hret _ _ _ _ _ _ _ _ _ (Int.fmod_nonneg_of_pos _ (by omega)) (Int.fmod_lt_of_pos _ (by omega)) (Int.le_refl _) (by omega) (by k_asm) (by k_asm)
  refine Stop.go (pen_set1 (rest := (q, W.listOf vs.toArray kq) :: news) (by k_asm) (by k_asm) hpx fun h8 F8 N8 => ?_)
  dsimp only
  k_steps
  refine Stop.go (pen_ne (vs := vs) (by k_asm) (.tail _ (.tail _ (.tail _ (.head _)))) (.head _) hi (by ktr_units) (fun hn => ?_) fun hn => ?_)
  · dsimp only
    k_steps
    refine Stop.go (draw_tail rfl (by k_asm) (by k_asm) (by k_asm) hk hroom hun (by first | k_asm | exact frame_dup (by k_asm)) (newsDrop (by k_asm) (by ((repeat (refine List.forall_mem_cons.mpr (And.intro (by (repeat (first | exact List.Mem.head _ | refine List.Mem.tail _ ?_))) ?_))); intro p9 hp9; (repeat' (first | exact hp9 | refine List.Mem.tail _ ?_ | refine List.mem_append_left _ ?_))))) hi hlen ha ha2 hm0 hm1 hpx fun r t9 b2 u2 m' h' tk' r0 r1 F9 N9 => ?_)
    k_steps
    exact hret _ _ _ _ _ _ _ _ _ r0 r1 (by omega) (Int.le_refl _) (by k_asm) (by k_asm)
  · dsimp only
    k_steps
    refine Stop.go (lenI (by k_asm) (.tail _ (.tail _ (.tail _ (.head _)))) hi (by omega) fun t9 k9 => ?_)
    dsimp only
    k_steps
    refine Stop.go (item_ints (by k_asm) (.tail _ (.tail _ (.tail _ (.head _)))) hi (Int.fmod_nonneg_of_pos _ (by omega)) (Int.fmod_lt_of_pos _ (by omega)) (by omega) fun c tc hc => ?_)
    dsimp only
    k_steps
    refine Stop.go (draw_tail rfl (by k_asm) (by k_asm) (by k_asm) hk hroom hun (by first | k_asm | exact frame_dup (by k_asm)) (newsDrop (by k_asm) (by ((repeat (refine List.forall_mem_cons.mpr (And.intro (by (repeat (first | exact List.Mem.head _ | refine List.Mem.tail _ ?_))) ?_))); intro p9 hp9; (repeat' (first | exact hp9 | refine List.Mem.tail _ ?_ | refine List.mem_append_left _ ?_))))) hi hlen ha ha2 hm0 hm1 hpx fun r t9 b2 u2 m' h' tk' r0 r1 F9 N9 => ?_)
    k_steps
    exact hret _ _ _ _ _ _ _ _ _ r0 r1 (by omega) (Int.le_refl _) (by k_asm) (by k_asm)
end

end PB
namespace PB
theorem fresh30 : (if True then True else True) := by
  w_top off
  try (walk1; trivial)
  try simp
section
variable {w : World} {mean : ExcName → Option Value} {mg mb : Str → Option Value} {dp un : Nat} {gd : Option (List Code)} {cn : Str} {cs : Scope} {a : Addr} {ccd : Value} {cl : List (Str × Addr)} {outer : List Env} {A₀ : Around} {base h₀ : Heap} {L : Addr} {m : Str → Option Value} {s : Shared} {Q E : Value → Shared → Prop} {news : List (Addr × Obj)}
theorem pick_tells {p q S : Addr} {a1 b1 : Int} {t u : Tok} {k kq kS : Nat} {vs us : List Value} {ns ms : List Int}
 (B : Below A₀ base outer h₀) (F : Fr h₀ L s.heap m) (X : (hd.heap_1 w.params).In h₀) (N : News h₀ L s.heap ((S, W.listOf us.toArray kS) :: (p, penO q a1 b1 t u k) :: (q, W.listOf vs.toArray kq) :: news)) (T : Top hd.view_1 (looseW hd.view_1 [Str.ofString "ShapeError", Str.ofString "write_kern"]) mean mg mb h₀) (hk : cs.kind = .function) (hroom : dp + 2 < recursionLimit) (hun : un + 100 < cLine) (hi : IntsAre vs ns) (hj : IntsAre us ms) (hms : 1 ≤ ms.length) (hms2 : ms.length ≤ 64) (hlen : ns.length ≤ 40) (ha : 0 ≤ a1) (ha2 : a1 < 1000) (hpq : p ≠ q) (hpS : p ≠ S) (hp : ∀ x ∈ news, x.1 ≠ p)
 (hret : ∀ r t9 a2 b2 t' u' k' h' tk', r ∈ ms → a1 ≤ a2 → a2 ≤ a1 + 1 → Fr h₀ L h' m → News h₀ L h' ((S, W.listOf us.toArray kS) :: (p, penO q a2 b2 t' u' k') :: (q, W.listOf vs.toArray kq) :: news) → Q (.int r t9) {s with heap := h', toks := tk'}) :
 wpAny (model PySem.Challenge.rw_pb0162_01.row.prog w) (ktrTop dp un gd cn cs L a ccd cl outer) (call (.ref 198) [.ref p, .ref S]) Q E s := by
  k_with_none
  (k_with "call builtin:len" => (refine Stop.out ?_))
  (k_with "call ref" => (k_here; (with_reducible show wpAny _ _ (call (Value.ref 191) [Value.ref _, Value.int _ _]) _ _ _); (refine Stop.out ?_)))
  (k_with "subscriptTail" => (refine Stop.out ?_))
  revert X; k_fill; intro X
  refine wpAny_call ?_
  k_dflt cell_enter
  k_steps
  refine Stop.go (lenI (by k_asm) (.head _) hj (by omega) fun t9 k9 => ?_)
  (try dsimp only)
  k_steps
  refine Stop.go ?_
  k_dflt (refine' draw_tells (p := p) (q := q) (a1 := a1) (b1 := b1) (t := t) (u := u) (k := k) (kq := kq) (vs := vs) (ns := ns) (news := (S, W.listOf us.toArray kS) :: news) ?kB ?kF ?kX ?kN ?kT ?kk ?kr ?ku hi hlen ha ha2 ?e0 ?e1 hpq ?e2 ?_; (case kN => exact newsDrop (by k_asm) (by ((repeat (refine List.forall_mem_cons.mpr (And.intro (by (repeat (first | exact List.Mem.head _ | refine List.Mem.tail _ ?_))) ?_))); intro p9 hp9; (repeat' (first | exact hp9 | refine List.Mem.tail _ ?_ | refine List.mem_append_left _ ?_))))); (case kB => k_asm); (case kF => k_asm); (case kX => k_asm); (case kT => k_asm); (case kk => first | exact rfl | assumption); (case kr => ktr_room); (case ku => ktr_units))
  case e0 => omega
  case e1 => omega
  case e2 => exact List.forall_mem_cons.mpr ⟨Ne.symm hpS, hp⟩
  intro r t8 a2 b2 t' u' k' h8 tk8 hr0 hr1 ha1 ha2' F8 N8
  (try dsimp only)
  k_steps
  refine Stop.go (item_ints (l := S) (vs := us) (n := kS) (news := (p, penO q a2 b2 t' u' k') :: (q, W.listOf vs.toArray kq) :: (S, W.listOf us.toArray kS) :: news) (by k_asm) (.tail _ (.tail _ (.head _))) hj hr0 hr1 (by omega) fun c tc hc => ?_)
  (try dsimp only)
  k_steps
  exact hret _ _ _ _ _ _ _ _ _ hc ha1 ha2' (by k_asm) (newsDrop (by k_asm) (by ((repeat (refine List.forall_mem_cons.mpr (And.intro (by (repeat (first | exact List.Mem.head _ | refine List.Mem.tail _ ?_))) ?_))); intro p9 hp9; (repeat' (first | exact hp9 | refine List.Mem.tail _ ?_ | refine List.mem_append_left _ ?_)))))
end

end PB
namespace PB
theorem fresh31 : (if True then True else True) := by
  w_top off
  try (walk1; trivial)
  try simp
/-- what holds behind len subtables -/
structure BG (D : List Int) (ws : List PE) (most len : Nat) (at1 : Int) (fs : List Int) : Prop where
  here : at1 = offs ws most len
  all : fs = (List.range len).map (offs ws most)
  le : len ≤ nsub ws.length most
noncomputable abbrev BL (D : List Int) (len : Nat) (at1 : Int) (fs : List Int) : Prop := (fs.length : Int) = len ∧ ((len : Int) < two D 2 → 0 ≤ at1 ∧ at1 + 14 ≤ D.length)
section
variable {D : List Int} {ws : List PE} {most len : Nat} {at1 : Int} {fs : List Int}
theorem BG.both (O : Octs D ws most) (h : BG D ws most len at1 fs) : BG D ws most len at1 fs ∧ BL D len at1 fs := by
  refine ⟨h, ?_, fun hlt => ?_⟩
  · rw [h.all]; simp
  · rw [O.cnt] at hlt
    have s := O.sub len (by omega)
    rw [h.here]
    exact ⟨s.b0, by have := s.hi; omega⟩
theorem BG.start (O : Octs D ws most) : BG D ws most ([] : List Int).length 4 [] ∧ BL D ([] : List Int).length 4 [] := BG.both O ⟨O.off0.symm, rfl, Nat.zero_le _⟩
theorem BG.step {pre : List Int} {x : Int} (O : Octs D ws most) (h : BG D ws most pre.length at1 fs) (hlt : (pre.length : Int) < two D 2) :
    BG D ws most (pre ++ [x]).length (at1 + two D (at1 + 2)) (fs ++ [at1]) ∧ BL D (pre ++ [x]).length (at1 + two D (at1 + 2)) (fs ++ [at1]) := by
  rw [O.cnt] at hlt
  have hl : pre.length < nsub ws.length most := by omega
  rw [List.length_append]
  refine BG.both O ⟨?_, ?_, hl⟩
  · have := O.nxt _ hl
    rw [h.here]
    show _ = offs ws most (pre.length + 1)
    omega
  · rw [h.all, h.here]
    show _ = (List.range (pre.length + 1)).map _
    rw [List.range_succ, List.map_append]
    rfl
theorem BG.done {k : Nat} (O : Octs D ws most) (hk : (k : Int) = two D 2) (h : BG D ws most k at1 fs) : at1 = D.length ∧ fs = (List.range (nsub ws.length most)).map (offs ws most) := by
  rw [O.cnt] at hk
  obtain rfl : k = nsub ws.length most := by omega
  exact ⟨h.here.trans O.len, h.all⟩
end
theorem ints_snoc {n : Int} {t : Tok} : ∀ {vs : List Value} {ns : List Int}, IntsAre vs ns → IntsAre (vs ++ [.int n t]) (ns ++ [n])
  | _, _, .nil => .cons _ _ .nil
  | _, _, .cons _ _ h => .cons _ _ (ints_snoc h)
section
variable {w : World} {mean : ExcName → Option Value} {mg mb : Str → Option Value} {dp un : Nat} {gd : Option (List Code)} {cn : Str} {cs : Scope} {a : Addr} {ccd : Value} {cl : List (Str × Addr)} {outer : List Env} {A₀ : Around} {base h₀ : Heap} {L : Addr} {m : Str → Option Value} {s : Shared} {Q E : Value → Shared → Prop} {news : List (Addr × Obj)}
theorem begins_tells {data : Array UInt8} {D : List Int} {dt : Tok} {ws : List PE} {most : Nat} (hb : KBw.bInts data = D) (O : Octs D ws most) (h2 : 4 ≤ D.length) (hns : two D 2 < 16)
  (B : Below A₀ base outer h₀) (F : Fr h₀ L s.heap m) (X : (hd.heap_1 w.params).In h₀) (N : News h₀ L s.heap (news)) (T : Top hd.view_1 (looseW hd.view_1 [Str.ofString "ShapeError", Str.ofString "write_kern"]) mean mg mb h₀) (hk : cs.kind = .function) (hroom : dp + 2 < recursionLimit) (hun : un + 40 < cLine)
  (hret : ∀ l us n h' tk', IntsAre us ((List.range (nsub ws.length most)).map (offs ws most)) → Fr h₀ L h' m → News h₀ L h' ((l, W.listOf us.toArray n) :: news) → (∀ p ∈ news, p.1 < l) → Q (.ref l) { s with heap := h', toks := tk' }) :
  wpX (model PySem.Challenge.rw_pb0162_01.row.prog w) (ktrTop dp un gd cn cs L a ccd cl outer) (call (.ref 226) [.bytes data dt]) Q NoE s := by
  k_with_none
  (k_with "call ref" => (k_here; (with_reducible show wpAny _ _ (call (Value.ref 205) [Value.bytes _ _, Value.int _ _]) _ _ _); k_dflt (refine' two_tells (by assumption) (by omega) (by k_asm) (by k_asm) (by k_asm) (by k_asm) (by k_asm) (by first | exact rfl | assumption) (by ktr_room) (by ktr_units) (by omega) (by omega) ?_); intro t9Z h9Z tk9Z F9Z N9Z; (try dsimp only); (try k_fold)))
  (k_with "pyIter ref" => (refine Stop.out ?_))
  (k_with "call builtin:list.append" => (k_here; k_dflt (refine' append_K (by k_asm) (by k_asm) (by exact Upd.head (by assumption)) ?_ (by (rw [List.size_toArray, sizeLine_eq]; omega))); intro h9Z F9Z N9Z; (try dsimp only)))
  have hD := O.small
  have hc := O.cnt
  revert X; k_fill; intro X
  refine wpX_call ?_
  k_dflt (refine' codeX_def ?k1 ?k2 ?k3 ?k4 ?k5 ?kA ?kF ?kK ?k6 ?k7 ?k8 ?k9 ?kB ?_ ?c2 ?c3 ?c4 ?c5; (case kA => exact rfl); (case kF => exact rfl); (case kK => first | assumption | exact rfl); (case k1 => k_asm); (case k2 => k_asm); (case k3 => k_asm); (case k4 => k_asm); (case k5 => k_asm); (case k6 => k_is); (case k7 => k_is); (case k8 => ktr_room); (case k9 => first | exact BindsTo.of_eq rfl | exact binds_K (by k_in) rfl (by k_is) rfl rfl rfl); (case c5 => decide); (case kB => exact locs rfl); (case c2 => exact rfl); (case c3 => exact rfl); (case c4 => exact rfl); k_whole; intro g' L' h' FG' F' N' B' X' T'; (try dsimp only); (try k_lift B'); (try k_fold))
  refine wpX_execs_cons (wpX_of ?_)
  k_steps
  refine wpX_execs_cons (wpX_of0 (wpX_For ?_))
  k_steps
  refine Stop.go (forG_rangeM (h₀ := g') (n := nsub ws.length most)
    (fun m₀ i m₁ nx => (∃ t, m₁ (Str.ofString "at") = some (.int (offs ws most i) t)) ∧ (∀ z, z ≠ Str.ofString "lap" → z ≠ Str.ofString "at" → m₁ z = m₀ z) ∧ ∃ us k l, nx = (l, W.listOf us.toArray k) :: news ∧ m₀ (Str.ofString "found") = some (.ref l) ∧ IntsAre us ((List.range i).map (offs ws most)) ∧ (∀ x ∈ news, x.1 < l))
    (news := (_, W.listOf #[] 0) :: news) (by k_asm) (newsDrop (by k_asm) (by ((repeat (refine List.forall_mem_cons.mpr (And.intro (by (repeat (first | exact List.Mem.head _ | refine List.Mem.tail _ ?_))) ?_))); intro p9 hp9; (repeat' (first | exact hp9 | refine List.Mem.tail _ ?_ | refine List.mem_append_left _ ?_))))) (by assumption) ?hsm ?hn rfl ?hj ?turn ?done)
  case hsm =>
    rw [hc]
    exact range_small (n := nsub ws.length most) (most := 1) (Nat.le_refl _) (by omega) (by decide)
  case hn =>
    rw [hc, show ((1 : Int)) = ((1 : Nat) : Int) from rfl, range_size (Nat.le_refl _)]
    unfold nsub
    rw [Nat.add_sub_cancel, Nat.div_one]
  case hj =>
    refine ⟨⟨_, by rw [if_neg (by decide), if_pos rfl, O.off0]⟩, fun _ _ _ => rfl, [], 0, _, rfl, if_pos rfl, .nil, by assumption⟩
  case turn =>
    rintro i t6 m₁ _ h6 tk6 own hi6 hoff ⟨⟨t5, hat⟩, hm, us, k5, l, rfl, hfl, hus, hl⟩ F6 N6
    rw [if_pos rfl] at hfl
    injection hfl with hfl
    injection hfl with hfl
    have hfl := hfl.symm
    subst hfl
    have F5 := Eq.subst (motive := fun x => Fr g' _ h6 x) (frame2 hat hm) F6
    clear F6
    dsimp only at F5
    generalize m₁ (Str.ofString "lap") = olap at F5
    have s := O.sub i hi6
    have s1 := s.b0
    have s2 := s.hi
    obtain ⟨nw, hnw⟩ : ∃ nw, news ++ own = nw := ⟨_, rfl⟩
    have hnl : ∀ x ∈ nw, x.1 ≠ l := fun x hx => by
      rw [← hnw] at hx
      rcases List.mem_append.mp hx with hx | hx
      · exact Nat.ne_of_lt (hl x hx)
      · exact hoff x hx l (.head _)
    simp only [List.cons_append, hnw] at N6
    have hul : us.length < 16 := by
      have := hus.length
      rw [List.length_map, List.length_range] at this
      omega
    k_steps
    refine wpX_of ?_
    k_steps
    have e : offs ws most (i + 1) = offs ws most i + two D (offs ws most i + 2) := by
      have := O.nxt i hi6
      omega
    refine EndG.intro (show Fr _ _ _ _ by k_asm) (show News _ _ _ _ by k_asm) ((l, W.listOf (us.toArray.push (.int (offs ws most i) t5)) (k5 + 1)) :: news)
      ⟨⟨_, by rw [e, if_pos rfl]⟩, fun z h1 h2 => by rw [if_neg h2, if_neg h1, if_neg h2, if_neg h1], us ++ [.int (offs ws most i) t5], k5 + 1, l, by rw [List.push_toArray], by first | exact if_pos rfl | exact if_pos trivial, ?_, hl⟩ ?_ ?_ ?_
    · rw [List.range_succ, List.map_append]
      exact ints_snoc hus
    · refine List.forall_mem_cons.mpr ⟨.head _, fun x hx => .tail _ (hnw ▸ List.mem_append_left _ hx)⟩
    · exact fun x hx => .tail _ (hnw ▸ List.mem_append_right _ hx)
    · exact hoff
  case done =>
    rintro m₁ _ h6 tk6 ⟨⟨t5, hat⟩, hm, us, k5, l, rfl, hfl, hus, hl⟩ F6 N6
    rw [if_pos rfl] at hfl
    injection hfl with hfl
    injection hfl with hfl
    have hfl := hfl.symm
    subst hfl
    have F5 := Eq.subst (motive := fun x => Fr g' _ h6 x) (frame2 hat hm) F6
    clear F6
    dsimp only at F5
    generalize m₁ (Str.ofString "lap") = olap at F5
    have e := O.len
    (try dsimp only)
    refine wpX_execs_cons (wpX_of ?_)
    k_steps
    · exact hret l us k5 _ _ hus (by k_asm) (by k_asm) hl
    · exfalso
      have := KBw.ints_length data
      rw [hb] at this
      omega
end

end PB
namespace PB
theorem fresh32 : (if True then True else True) := by
  w_top off
  try (walk1; trivial)
  try simp
/-- entering the law itself, in a clean context -/
theorem call_cellsX {prog : Program} {w : World} {A : Around} {R : Result → Shared → Prop} {s : Shared} {name : Str} {params : Arguments} {body : List Stmt} {scope : Scope}
    {pm cd doc : Value} {a : Addr} {o : Obj} {args : List Value} {binds : List (Str × Value)}
    (hroom : A.depth < recursionLimit) (ho : s.heap.get? a = some o) (hdata : o.data = .func (Calls.docDef name params body scope pm cd doc)) (hlim : s.heap.NoLimit) (hcd : s.heap.CodeRec cd name)
    (hbind : bindArgs (Calls.docDef name params body scope pm cd doc) ⟨args, []⟩ = pure binds)
    (hkind : ∀ x ∈ binds, scope.names.lookup x.1 = some .local ∨ (scope.names.lookup x.1 = some .cell ∧ ((cellsFrom (s.heap.objs.size + 1) scope.names []).lookup x.1).isSome = true))
    (hnd : ((cellsFrom 0 scope.names []).map (·.1)).Nodup)
    (h : ∀ h₁ tk cells, Fr s.heap s.heap.objs.size h₁ (bindL (envOfC name scope s.heap.objs.size a cd).kindOf binds fun _ => none) → News s.heap s.heap.objs.size h₁ cells →
      CellsAre (bindC (envOfC name scope s.heap.objs.size a cd).kindOf binds fun _ => none) (cellsFrom (s.heap.objs.size + 1) scope.names []) cells →
      wpX (model prog w) (A.deeper (envOfC name scope s.heap.objs.size a cd)) (execs body (envOfC name scope s.heap.objs.size a cd))
        (fun f s' => R (.ok (.ret (match f with | .ret v => v | _ => .none))) s')
        (fun e s' => wpX (model prog w) (A.deeper (envOfC name scope s.heap.objs.size a cd)) (leaving (envOfC name scope s.heap.objs.size a cd) e)
          (fun _ s'' => R (.error e) s'') (fun e' s'' => R (.error e') s'') s')
        { s with heap := h₁, toks := tk })
    (hco : scope.isCoroutine = false := by rfl) (hgen : scope.isGenerator = false := by rfl) (hk : scope.kind = .function := by rfl) :
    codeX (model prog w) A (.call (.ref a) ⟨args, []⟩) R s := by
  refine codeX_call_function hroom ho hdata hco hgen rfl hcd (wpAny_of_eq hbind ?_)
  refine wpAny_newFunctionEnv_cells hk hkind fun env' he s' x => ?_
  subst he
  refine ⟨hlim.keeps x.toInCall.keep, codeX_func ?_⟩
  obtain ⟨h₁, tk, rfl, _⟩ := x.done
  obtain ⟨cells, NC, Y⟩ := Cl.news (h₀ := s.heap) (Nat.le_refl _) fun n c hm => ⟨x.cell n c (lookup_of_mem_nodup (cellsFrom_names scope.names 0 (s.heap.objs.size + 1) [] [] rfl ▸ hnd) hm), x.above n c hm⟩
  exact h h₁ tk cells ⟨x.toInCall.ns, x.toInCall.keep, Nat.le_refl _⟩ NC Y
theorem enter_X {M : Model} {A : Around} {s : Shared} {f : Value} {pos : List Value} {kw : List (Str × Value)} {c : ClaimW} {cl : Str → Option Addr} {mean : ExcName → Option Value} {args : List WData} {s₁ : Shared}
    (h : codeX M A (.call f ⟨pos, kw⟩) (GoodWG c cl mean args s₁) s) : wpX M A (PySem.call f pos kw) (fun v s' => GoodWG c cl mean args s₁ (.ok (.ret v)) s') (fun e s' => GoodWG c cl mean args s₁ (.error e) s') s :=
  wpX_call (codeX_mono h fun res s' g => by rcases g.1 with ⟨v, _, _, rfl, _⟩ | ⟨e, _, _, rfl, _⟩ <;> exact g)

end PB
namespace PB
theorem fresh33 : (if True then True else True) := by
  w_top off
  try (walk1; trivial)
  try simp
/-- an entry stored: the older key stays, its worth changes -/
noncomputable def PE.re (e x : PE) : PE := if x.key = e.key then { x with val := e.val, tok := e.tok } else x
noncomputable def put (P : List PE) (e : PE) : List PE := if (look P e.key).isSome then P.map e.re else P ++ [e]
theorem PE.re_key (e x : PE) : (e.re x).key = x.key := by unfold PE.re; split <;> rfl
theorem PE.re_tup (e x : PE) : (e.re x).tup = x.tup := by unfold PE.re; split <;> rfl
theorem PE.re_ad (e x : PE) : (e.re x).ad = x.ad := by unfold PE.re; split <;> rfl
theorem PE.re_in {e x : PE} (he : InR e) (hx : InR x) : InR (e.re x) := by
  unfold PE.re
  split
  · obtain ⟨a, b, c, d, _⟩ := hx
    obtain ⟨_, _, _, _, f⟩ := he
    exact ⟨a, b, c, d, f⟩
  · exact hx
theorem PE.re_ent (e x : PE) : (e.re x).ent = putAt (keyL e.key) (.int e.val e.tok) x.ent := by
  unfold PE.re putAt
  by_cases h : x.key = e.key
  · rw [if_pos h]
    have : x.ent.1 = keyL e.key := by show keyL x.key = _; rw [h]
    rw [if_pos this]
    rfl
  · rw [if_neg h]
    have : ¬ x.ent.1 = keyL e.key := fun q => h (keyL_inj q)
    rw [if_neg this]
theorem storedH_put (P : List PE) (e : PE) : storedH (P.map PE.ent) (keyL e.key) e.ad (.int e.val e.tok) = (put P e).map PE.ent := by
  unfold storedH put
  rw [atKey_look, Option.isSome_map]
  split
  · rw [List.map_map, List.map_map]
    exact List.map_congr_left fun x _ => (PE.re_ent e x).symm
  · rw [List.map_append]
    rfl
theorem put_mem {P : List PE} {e x : PE} (h : x ∈ put P e) : ∃ y, (y ∈ P ∨ y = e) ∧ x.tup = y.tup ∧ x.ad = y.ad ∧ x.key = y.key := by
  unfold put at h
  split at h
  · obtain ⟨y, hy, rfl⟩ := List.mem_map.mp h
    exact ⟨y, .inl hy, PE.re_tup e y, PE.re_ad e y, PE.re_key e y⟩
  · rcases List.mem_append.mp h with h | h
    · exact ⟨x, .inl h, rfl, rfl, rfl⟩
    · rw [List.mem_singleton.mp h]
      exact ⟨e, .inr rfl, rfl, rfl, rfl⟩
theorem put_in {P : List PE} {e : PE} (he : InR e) (hP : ∀ x ∈ P, InR x) : ∀ x ∈ put P e, InR x := fun x h => by
  unfold put at h
  split at h
  · obtain ⟨y, hy, rfl⟩ := List.mem_map.mp h
    exact PE.re_in he (hP y hy)
  · rcases List.mem_append.mp h with h | h
    · exact hP x h
    · rw [List.mem_singleton.mp h]; exact he
theorem put_nodup {P : List PE} {e : PE} (hn : (P.map (·.key)).Nodup) : ((put P e).map (·.key)).Nodup := by
  unfold put
  split
  · rw [List.map_map]
    have : (fun x : PE => x.key) ∘ e.re = fun x => x.key := funext fun x => PE.re_key e x
    rw [this]
    exact hn
  · next h =>
    rw [List.map_append, List.nodup_append]
    refine ⟨hn, by simp, fun a ha b hb => ?_⟩
    rw [List.map_cons, List.map_nil, List.mem_singleton] at hb
    subst hb
    obtain ⟨x, hx, rfl⟩ := List.mem_map.mp ha
    intro q
    rw [← q, look_of hn hx] at h
    simp at h
theorem put_len (P : List PE) (e : PE) : (put P e).length ≤ P.length + 1 ∧ 1 ≤ (put P e).length := by
  unfold put
  split
  · next h =>
    obtain ⟨x, hx⟩ := Option.isSome_iff_exists.mp h
    have := List.length_pos_of_mem (look_mem hx).1
    rw [List.length_map]
    omega
  · rw [List.length_append, List.length_singleton]
    omega
section
variable {w : World} {mean : ExcName → Option Value} {mg mb : Str → Option Value} {dp un : Nat} {gd : Option (List Code)} {cn : Str} {cs : Scope} {a : Addr} {ccd : Value} {cl : List (Str × Addr)} {outer : List Env} {A₀ : Around} {base h₀ : Heap} {L : Addr} {m : Str → Option Value} {s : Shared} {Q E : Value → Shared → Prop} {news : List (Addr × Obj)}
variable {A : Around} {P : List PE} {d : Addr} {dO : Obj} {e : PE}
theorem pairs_set {rest : List (Addr × Obj)} {Q : Unit → Shared → Prop} (F : Fr h₀ L s.heap m) (N : News h₀ L s.heap ((d, dO) :: rest)) (hu : A.units + 1 < cLine) (x : DictP w dO P) (hT : ∀ e ∈ P, e.tup ∈ rest) (he : e.tup ∈ rest) (hn : (P.map (·.key)).Nodup) (hd : ∀ q ∈ rest, q.1 ≠ d) (hP : P.length < 1000)
    (h : ∀ o' h' k, DictP w o' (put P e) → Fr h₀ L h' m → News h₀ L h' ((d, o') :: rest) → Q () { s with heap := h', toks := k }) : wpAny (model PySem.Challenge.rw_pb0162_01.row.prog w) A (setItem (.ref d) (.ref e.ad) (.int e.val e.tok)) Q E s := by
  have z := N (d, dO) (.head _)
  have hm := x.dictOf z.1 (fun e he => (N _ (.tail _ (hT e he))).1) hn
  refine wpAny_setItem_heap (knd := tkd w) (k := keyL e.key) hu (isKey (N _ (.tail _ he)).1) hm (fun h' hm' hs' => ?_) (by rw [List.length_map, sizeLine_eq]; omega)
  rw [storedH_put] at hm'
  obtain ⟨o', es, ep, ho', r⟩ := id hm'
  refine h o' h' _ (DictP.of ho' hm') (F.change hs' z.2.1 z.2.2) ?_
  exact news_set (pre := []) N (fun _ h => nomatch h) hd hs' ho'
theorem pairs_in {Q : Value → Shared → Prop} (N : News h₀ L s.heap news) (hu : A.units + 1 < cLine) (hd : (d, dO) ∈ news) (lo : (d == sysModules) = false) (x : DictP w dO P) (hT : ∀ e ∈ P, e.tup ∈ news) (hn : (P.map (·.key)).Nodup) {a : Addr} {t u : Tok} {p : Int × Int} (ha : (a, T2 p t u) ∈ news)
    (h : ∀ k, Q (.bool (look P p).isSome) { s with toks := k }) : wpAny (model PySem.Challenge.rw_pb0162_01.row.prog w) A (compareOp .In (.ref a) (.ref d)) Q E s := by
  have hm := x.dictOf (N.get hd) (fun e he => N.get (hT e he)) hn
  refine wpAny_in_heap (knd := tkd w) (k := keyL p) hu (isKey (N.get ha)) lo hm ?_
  rw [atKey_look, Option.isSome_map]
  exact h _
theorem pairs_at {Q : Value → Shared → Prop} (N : News h₀ L s.heap news) (hu : A.units + 1 < cLine) (hd : (d, dO) ∈ news) (x : DictP w dO P) (hT : ∀ e ∈ P, e.tup ∈ news) (hn : (P.map (·.key)).Nodup) {a : Addr} {t u : Tok} (he : look P e.key = some e) (ha : (a, T2 e.key t u) ∈ news)
    {value slice : Expr} (h : ∀ k, Q (.int e.val e.tok) { s with toks := k }) (hs : subscripted slice false (.ref d) (.ref a) = operate [.ref d, .ref a] (getItem (.ref d) (.ref a)) := by with_unfolding_all rfl)
    (hg : ∀ r, letTemporaryGo value (.ref d) r = pure () := by intro _; with_unfolding_all rfl) : wpAny (model PySem.Challenge.rw_pb0162_01.row.prog w) A (subscriptTail value slice (.ref d) (.ref a)) Q E s := by
  have hm := x.dictOf (N.get hd) (fun e he => N.get (hT e he)) hn
  refine subscriptTail_builtin hm.typeIs F.slot_dict_getitem.lookup ?_ hs hg
  refine wpAny_getItem_heap (knd := tkd w) (k := keyL e.key) (p := (e.ad, .int e.val e.tok)) hu (isKey (N.get ha)) hm ?_ (h _)
  rw [atKey_look, he]
  rfl
end
theorem dictP_nil {w : World} {o : Obj} (h : Obj.IsDictOf (intKind PySem.Challenge.rw_pb0162_01.row.prog w) o []) : DictP w o [] := by
  obtain ⟨es, ep, h1, h2, _, h3, _⟩ := h
  refine ⟨es, ep, h1, h2, ?_⟩
  cases es with
  | mk l =>
    cases l with
    | nil => rfl
    | cons a l => cases h3

end PB
namespace PB
theorem fresh34 : (if True then True else True) := by
  w_top off
  try (walk1; trivial)
  try simp
/-- four addresses apart from one another and from the cells -/
structure Apart (d S p q : Addr) (cs : List Addr) : Prop where
  hd : ∀ x ∈ S :: p :: q :: cs, x ≠ d
  hS : ∀ x ∈ p :: q :: cs, x ≠ S
  hp : ∀ x ∈ q :: cs, x ≠ p
  hq : ∀ x ∈ cs, x ≠ q
noncomputable abbrev cellsL (c1 c2 c3 c4 : Addr) (o1 o2 o3 o4 : Obj) : List (Addr × Obj) := (c4, o4) :: (c3, o3) :: (c2, o2) :: (c1, o1) :: []
/-- the state behind the law's first three statements, by names -/
theorem cut1 {w : World} {h₀ h' : Heap} {L d S p q D1 c1 c2 c3 c4 : Addr} {m : FMap} {o o1 o2 o3 o4 : Obj} {ys ws us : List Value} {ns ms : List Int} {t1 t2 : Tok} {n1 kS kp : Nat} {tk : Nat} {G : Heap → Nat → Prop}
    (F : Fr h₀ L h' (fun y => if y = Str.ofString "pairs" then some (.ref d) else m y))
    (N : News h₀ L h' ((d, o) :: (S, W.listOf us.toArray kS) :: (p, W.listOf #[.ref q, .int 0 t1, .int 0 t2] kp) :: (q, LCg.lst ys) :: (D1, W.listOf ws.toArray n1) :: (c4, o4) :: (c3, o3) :: (c2, o2) :: (c1, o1) :: []))
    (ho : Obj.IsDictOf (intKind PySem.Challenge.rw_pb0162_01.row.prog w) o []) (e1 : o1.data = .cell (some (.ref p))) (e2 : o2.data = .cell (some (.ref S)))
    {x3 x4 : Option Value} (e3 : o3.data = .cell x3) (e4 : o4.data = .cell x4) (lo : (d == sysModules) = false) (hI : IntsAre ys ns) (hns : ns.length ≤ 40) (hS : IntsAre us ms)
    (ad : ∀ x ∈ (S, W.listOf us.toArray kS) :: (p, W.listOf #[.ref q, .int 0 t1, .int 0 t2] kp) :: (q, LCg.lst ys) :: (D1, W.listOf ws.toArray n1) :: (c4, o4) :: (c3, o3) :: (c2, o2) :: (c1, o1) :: [], x.1 ≠ d)
    (aS : ∀ x ∈ [p, q, c4, c3, c2, c1], x ≠ S) (ap : ∀ x ∈ [q, c4, c3, c2, c1], x ≠ p) (aq : ∀ x ∈ [c4, c3, c2, c1], x ≠ q)
    (k : ∀ h tk d S p q o kS kp kq t u us ys ns o1 o2 o3 o4, ns.length ≤ 40 → Fr h₀ L h (fun y => if y = Str.ofString "pairs" then some (.ref d) else m y) →
      News h₀ L h ((d, o) :: (S, W.listOf us.toArray kS) :: (p, penO q 0 0 t u kp) :: (q, W.listOf ys.toArray kq) :: cellsL c1 c2 c3 c4 o1 o2 o3 o4) → DictP w o [] → o1.data = .cell (some (.ref p)) → o2.data = .cell (some (.ref S)) → o3.data = .cell x3 → o4.data = .cell x4 →
      (d == sysModules) = false → IntsAre ys ns → IntsAre us ms → Apart d S p q [c4, c3, c2, c1] → G h tk) : G h' tk := by
  refine k h' tk d S p q o kS kp ys.length t1 t2 us ys ns o1 o2 o3 o4 hns F (newsDrop N (by ((repeat (refine List.forall_mem_cons.mpr (And.intro (by (repeat (first | exact List.Mem.head _ | refine List.Mem.tail _ ?_))) ?_))); intro p9 hp9; (repeat' (first | exact hp9 | refine List.Mem.tail _ ?_ | refine List.mem_append_left _ ?_))))) (dictP_nil ho) e1 e2 e3 e4 lo hI hS ⟨fun x hx => ?_, aS, ap, aq⟩
  have h1 := List.forall_mem_cons.mp ad
  have h2 := List.forall_mem_cons.mp h1.2
  have h3 := List.forall_mem_cons.mp h2.2
  have h4 := List.forall_mem_cons.mp h3.2
  have h5 := List.forall_mem_cons.mp h4.2
  have h6 := List.forall_mem_cons.mp h5.2
  have h7 := List.forall_mem_cons.mp h6.2
  have h8 := List.forall_mem_cons.mp h7.2
  revert x
  exact List.forall_mem_cons.mpr ⟨h1.1, List.forall_mem_cons.mpr ⟨h2.1, List.forall_mem_cons.mpr ⟨h3.1, List.forall_mem_cons.mpr ⟨h5.1, List.forall_mem_cons.mpr ⟨h6.1, List.forall_mem_cons.mpr ⟨h7.1, List.forall_mem_cons.mpr ⟨h8.1, fun _ h => nomatch h⟩⟩⟩⟩⟩⟩⟩
theorem range1 {n : Nat} (hn : n < 1000) : Builtin.Range.small 0 (n : Int) 1 = true ∧ Builtin.Range.rangeSize 0 (n : Int) 1 = ((n : Nat) : Int) := by
  refine ⟨range_small (n := n) (most := 1) (Nat.le_refl _) hn (by decide), ?_⟩
  rw [show ((1 : Int)) = ((1 : Nat) : Int) from rfl, range_size (Nat.le_refl _)]
  unfold nsub
  rw [Nat.add_sub_cancel, Nat.div_one]
/-- the drawn pairs behind i turns: the entries, the pen's spot -/
structure LG (P : List PE) (a : Int) (i : Nat) (as : List Addr) : Prop where
  nd : (P.map (·.key)).Nodup
  rg : ∀ e ∈ P, InR e
  ln : P.length ≤ i
  a0 : 0 ≤ a
  a1 : a ≤ 1 + 3 * (i : Int)
  ap : ∀ e ∈ P, ∀ x ∈ as, e.ad ≠ x
theorem LG.off {P : List PE} {a : Int} {i : Nat} {as : List Addr} {own nw : List (Addr × Obj)} (g : LG P a i as) (hoff : ∀ p ∈ own, ∀ b ∈ as, p.1 ≠ b) (hnw : P.map PE.tup ++ own = nw) : ∀ x ∈ nw, ∀ y ∈ as, x.1 ≠ y := fun x hx y hy => by
  rw [← hnw] at hx
  rcases List.mem_append.mp hx with hx | hx
  · obtain ⟨e, he, rfl⟩ := List.mem_map.mp hx
    exact g.ap e he y hy
  · exact hoff x hx y hy
theorem menu1 {v : Int} (h : v ∈ [1, -1, 0, 32767, -32768, 300]) : -32768 ≤ v ∧ v ≤ 32767 := by
  simp only [List.mem_cons, List.not_mem_nil, or_false] at h
  omega
theorem menu2 {v : Int} (h : v ∈ [0, 1, 2, 3, 255, 256, 65535]) : 0 ≤ v ∧ v < 65536 := by
  simp only [List.mem_cons, List.not_mem_nil, or_false] at h
  omega
theorem LG.put {P : List PE} {a a' : Int} {i : Nat} {as : List Addr} {e : PE} (g : LG P a i as) (he : InR e) (ha : a ≤ a') (hb : a' ≤ a + 3) (hap : ∀ x ∈ as, e.ad ≠ x) : LG (put P e) a' (i + 1) as := by
  refine ⟨put_nodup g.nd, put_in he g.rg, Nat.le_trans (put_len P e).1 (Nat.succ_le_succ g.ln), by have := g.a0; omega, by have := g.a1; omega, fun x hx y hy => ?_⟩
  obtain ⟨z, hz, _, hz2, _⟩ := put_mem hx
  rw [hz2]
  rcases hz with hz | rfl
  · exact g.ap z hz y hy
  · exact hap y hy
theorem LG.mono {P : List PE} {a a' : Int} {i : Nat} {as : List Addr} (g : LG P a i as) (h0 : a ≤ a') (h1 : a' ≤ a + 3) : LG P a' (i + 1) as :=
  ⟨g.nd, g.rg, Nat.le_trans g.ln (Nat.le_succ _), by have := g.a0; omega, by have := g.a1; omega, g.ap⟩

end PB
namespace PB
theorem fresh35 : (if True then True else True) := by
  w_top off
  try (walk1; trivial)
  try simp
section
variable {w : World} {mean : ExcName → Option Value} {mg mb : Str → Option Value} {dp un : Nat} {gd : Option (List Code)} {cn : Str} {cs : Scope} {a : Addr} {ccd : Value} {cl : List (Str × Addr)} {outer : List Env} {A₀ : Around} {base h₀ : Heap} {L : Addr} {m : Str → Option Value} {s : Shared} {Q E : Value → Shared → Prop} {news : List (Addr × Obj)}
theorem raw_typeIs {a : Addr} {oa : Obj} (hoa : s.heap.get? a = some oa) (ca : oa.ExactDict) : s.TypeIs (.ref a) "dict" := ⟨oa, hoa, ca.1⟩
/-- a dict compared with an empty one -/
theorem dict_eq_nil {A : Around} {a b : Addr} {oa ob : Obj} {es es' : Array DictEntry} {ep ep' : Nat} {Q : Value → Shared → Prop} (ha : (a == sysModules) = false) (hb : (b == sysModules) = false)
    (hoa : s.heap.get? a = some oa) (ca : oa.ExactDict) (hda : oa.data = .dict es ep) (hob : s.heap.get? b = some ob) (cb : ob.ExactDict) (hdb : ob.data = .dict es' ep') (he : es'.size = 0) (hu : A.units < cLine)
    (h : Q (.bool (decide (es.size = 0))) s) : wpAny (model PySem.Challenge.rw_pb0162_01.row.prog w) A (compareOp .Eq (.ref a) (.ref b)) Q E s := by
  have da := raw_typeIs hoa ca
  have db := raw_typeIs hob cb
  refine wpAny_richCompare_same_room (op := .Eq) da db PySem.F.slot_dict_eq (wpAny_call_entry PySem.F.slot_dict_eq da PySem.F.entry_dict_eq ?_ (PySem.F.args_dict_eq_2 _ _)) hu
  show wpAny _ _ (Builtin.Dict.dictSlotArgs "__eq__" ⟨[.ref a, .ref b], []⟩ >>= _) _ _ s
  refine wpAny_bind ?_
  unfold Builtin.Dict.dictSlotArgs
  refine wpAny_bind (wpAny_notOrdered_dict da ?_)
  show wpAny _ _ (pure (Value.ref a, Value.ref b)) _ _ s
  refine wpAny_pure ?_
  refine wpAny_bind (wpAny_isInstance (T := "dict") db PySem.F.sub_dict_dict ?_)
  simp only [Bool.not_true, Bool.false_eq_true, if_false]
  refine wpAny_bind (wpAny_pure (wpAny_bind (wpAny_pure ?_)))
  refine wpAny_bind ?_
  unfold Builtin.Dict.samePairs Builtin.Dict.showsAll
  rw [if_neg (show ¬ (a == sysModules) = true by rw [ha]; exact Bool.false_ne_true), if_neg (show ¬ (b == sysModules) = true by rw [hb]; exact Bool.false_ne_true)]
  refine wpAny_bind (wpAny_pure (wpAny_bind (wpAny_pure ?_)))
  refine wpAny_bind (wpAny_dictEntries hoa hda ?_)
  dsimp only
  refine wpAny_bind (wpAny_dictEntries hob hdb ?_)
  by_cases hsz : es.size = 0
  · rw [if_neg (by rw [hsz, he]; simp)]
    refine wpAny_bind (wpAny_dictEpoch hoa hda ?_)
    refine wpAny_bind ?_
    rw [Std.Legacy.Range.forIn_eq_forIn_range']
    simp only [Std.Legacy.Range.size, Nat.sub_zero, Nat.add_sub_cancel, Nat.div_one, hsz, List.range'_zero, List.forIn_nil]
    refine wpAny_pure ?_
    refine wpAny_pure ?_
    refine wpAny_pure ⟨_, rfl, (fun x => nomatch x), ?_⟩
    rw [show decide (es.size = 0) = true by simpa using hsz] at h
    exact h
  · rw [if_pos (by rw [he]; simpa using hsz)]
    refine wpAny_bind (wpAny_rule (wpAny_pure ?_))
    refine wpAny_pure ⟨_, rfl, (fun x => nomatch x), ?_⟩
    rw [show decide (es.size = 0) = false by simpa using hsz] at h
    exact h
theorem pairs_eq_nil {A : Around} {a b : Addr} {oa ob : Obj} {P : List PE} {Q : Value → Shared → Prop} (N : News h₀ L s.heap news) (ha : (a == sysModules) = false) (hb : (b == sysModules) = false) (ma : (a, oa) ∈ news) (mb : (b, ob) ∈ news) (xa : DictP w oa P) (xb : Obj.IsDictOf (intKind PySem.Challenge.rw_pb0162_01.row.prog w) ob []) (hu : A.units < cLine)
    (h : Q (.bool (decide (P = []))) s) : wpAny (model PySem.Challenge.rw_pb0162_01.row.prog w) A (compareOp .Eq (.ref a) (.ref b)) Q E s := by
  obtain ⟨es, ep, c1, d1, l1⟩ := xa
  obtain ⟨es', ep', c2, d2, l2⟩ := dictP_nil xb
  have z1 : es.size = P.length := by rw [← Array.length_toList, l1]; simp
  have z2 : es'.size = 0 := by rw [← Array.length_toList, l2]; rfl
  refine dict_eq_nil ha hb (N.get ma) c1 d1 (N.get mb) c2 d2 z2 hu ?_
  have : decide (es.size = 0) = decide (P = []) := decide_eq_decide.mpr (by rw [z1]; exact List.length_eq_zero_iff)
  rw [this]
  exact h
theorem ints_eq_nil {A : Around} {q e : Addr} {vs : List Value} {ns : List Int} {kq ke : Nat} {Q : Value → Shared → Prop} (N : News h₀ L s.heap news) (hq : (q, W.listOf vs.toArray kq) ∈ news) (he : (e, W.listOf #[] ke) ∈ news) (hi : IntsAre vs ns) (hu : A.units + 64 < cLine)
    (h : Q (.bool (decide (ns = []))) s) : wpAny (model PySem.Challenge.rw_pb0162_01.row.prog w) A (compareOp .Eq (.ref q) (.ref e)) Q E s :=
  eq_intsK (vs := vs) (ns := ns) (us := []) (ms := []) ⟨_, N.get hq, rfl, _, rfl⟩ hi ⟨_, N.get he, rfl, _, rfl⟩ .nil hu h
theorem ints_ne {A : Around} {q e : Addr} {vs us : List Value} {ns ms : List Int} {kq ke : Nat} {Q : Value → Shared → Prop} (N : News h₀ L s.heap news) (hq : (q, W.listOf vs.toArray kq) ∈ news) (he : (e, W.listOf us.toArray ke) ∈ news) (hi : IntsAre vs ns) (hj : IntsAre us ms) (hu : A.units + 64 < cLine) (heq : ns = ms)
    (h : Q (.bool false) s) : wpAny (model PySem.Challenge.rw_pb0162_01.row.prog w) A (compareOp .NotEq (.ref q) (.ref e)) Q E s := by
  refine ne_intsK (vs := vs) (ns := ns) (us := us) (ms := ms) ⟨_, N.get hq, rfl, _, rfl⟩ hi ⟨_, N.get he, rfl, _, rfl⟩ hj hu ?_
  have e : (!decide (ns = ms)) = false := by simp [heq]
  rw [e]
  exact h
end

end PB
namespace PB
theorem fresh36 : (if True then True else True) := by
  w_top off
  try (walk1; trivial)
  try simp
theorem news_ne {h₀ h : Heap} {L : Addr} {news : List (Addr × Obj)} (N : News h₀ L h news) : ∀ x ∈ news, x.1 ≠ h.objs.size := fun x hx => Nat.ne_of_lt (Heap.lt_size (N x hx).1)
section
variable {w : World} {mean : ExcName → Option Value} {mg mb : Str → Option Value} {h₀ : Heap} {L fa : Addr} {cd : Value} {s : Shared} {Q : Flow → Shared → Prop}
theorem turn1 {ps : Arguments} {s0 s1 s2 s4 s5 s6 s7 s10 : Stmt} {t3 i3 t8 i8 t9 i9 : Expr} {b3 e3 b8 e8 b9 e9 : List Stmt} {p3 p8 p9 : Pos} {sc : Scope} (hb : PySem.Challenge.rw_pb0162_01.row.prog.theDef (Str.ofString "law") = some (ps, [s0, s1, s2, .For t3 i3 b3 e3 p3, s4, s5, s6, s7, .For t8 i8 b8 e8 p8, .For t9 i9 b9 e9 p9, s10], sc)) (B : Below callerA h₀ [] h₀) (X : (hd.heap_1 w.params).In h₀) (T : Top hd.view_1 (looseW hd.view_1 [Str.ofString "ShapeError", Str.ofString "write_kern"]) mean mg mb h₀) (GL : Glob 0 mg mb (List.map itemOf (recsOf hd.view_1)) (scalarsOf [] ++ constsW hd.view_1) [] (namesW hd.view_1 [Str.ofString "ShapeError", Str.ofString "write_kern"]) h₀)
  {d S p q : Addr} {o5 o1 o2 o3 o4 : Obj} {us ys : List Value} {ns : List Int} {kS kq k5 i tk6 tk7 : Nat} {a5 b5 : Int} {t5 u5 : Tok} {P : List PE} {own : List (Addr × Obj)} {h6 h7 : Heap} {v6 olap : Option Value} {mm : FMap}
  (F : Fr h₀ L h7 (fun y => if y = Str.ofString "lap" then v6 else if y = Str.ofString "lap" then olap else if y = Str.ofString "pairs" then some (.ref d) else mm y))
  (N : News h₀ L h7 ((d, o5) :: (S, W.listOf us.toArray kS) :: (p, penO q a5 b5 t5 u5 k5) :: (q, W.listOf ys.toArray kq) :: (L + 1 + 1 + 1 + 1, o4) :: (L + 1 + 1 + 1, o3) :: (L + 1 + 1, o2) :: (L + 1, o1) :: (P.map PE.tup ++ own)))
  (hO5 : DictP w o5 P) (hL5 : LG P a5 i (d :: S :: p :: q :: [L + 1 + 1 + 1 + 1, L + 1 + 1 + 1, L + 1 + 1, L + 1])) (hi6 : i < 13) (hoff : OwnOff own ((d :: S :: p :: q :: [L + 1 + 1 + 1 + 1, L + 1 + 1 + 1, L + 1 + 1, L + 1]) ++ P.map (·.ad))) (e1 : o1.data = .cell (some (.ref p))) (e2 : o2.data = .cell (some (.ref S))) (hns : ns.length ≤ 40) (hI : IntsAre ys ns) (hS : IntsAre us [0, 1, 2, 3, 255, 256, 65535]) (hA : Apart d S p q [L + 1 + 1 + 1 + 1, L + 1 + 1 + 1, L + 1 + 1, L + 1]) :
  wpX (model PySem.Challenge.rw_pb0162_01.row.prog w) (callerA.deeper (envOfC (Str.ofString "law") sc L fa cd)) (execs b3 (envOfC (Str.ofString "law") sc L fa cd))
    (PostG h₀ L (fun m' nx => (∀ z, z ≠ Str.ofString "lap" → m' z = if z = Str.ofString "pairs" then some (.ref d) else mm z) ∧ ∃ P o a b t u k, nx = (d, o) :: (S, W.listOf us.toArray kS) :: (p, penO q a b t u k) :: (q, W.listOf ys.toArray kq) :: (L + 1 + 1 + 1 + 1, o4) :: (L + 1 + 1 + 1, o3) :: (L + 1 + 1, o2) :: (L + 1, o1) :: P.map PE.tup ∧ DictP w o P ∧ LG P a (i + 1) (d :: S :: p :: q :: [L + 1 + 1 + 1 + 1, L + 1 + 1 + 1, L + 1 + 1, L + 1])) own { s with heap := h6, toks := tk6 } Q) NoE { s with heap := h7, toks := tk7 } := by
  k_with_none
  (k_with "call ref" => (k_here; (with_reducible show wpAny _ _ (call (Value.ref 198) [Value.ref _, Value.ref _]) _ _ _); (refine Stop.out ?_)))
  (k_with "setItem ref ref" => (refine Stop.out ?_))
  revert X; k_fill; intro X
  injection hb with hb
  injection hb with _ hb
  injection hb with hb hsc
  injection hb with h09 hb
  injection hb with h19 hb
  injection hb with h29 hb
  injection hb with h39 hb
  injection hb with h49 hb
  injection hb with h59 hb
  injection hb with h69 hb
  injection hb with h79 hb
  injection hb with h89 hb
  injection hb with h99 hb
  injection hb with h109 hb
  injection h39 with h3a h3b h3c h3d h3e
  injection h89 with h8a h8b h8c h8d h8e
  injection h99 with h9a h9b h9c h9d h9e
  subst hsc h09 h19 h29 h49 h59 h69 h79 h109 h3a h3b h3c h3d h3e h8a h8b h8c h8d h8e h9a h9b h9c h9d h9e
  clear hb
  obtain ⟨nw, hnw⟩ : ∃ nw, P.map PE.tup ++ own = nw := ⟨_, rfl⟩
  have hnx := hL5.off (fun x hx y hy => hoff x hx y (List.mem_append_left _ hy)) hnw
  rw [hnw] at N
  refine wpX_of ?_
  k_steps
  refine Stop.go ?_
  k_dflt (refine' pick_tells (p := p) (q := q) (a1 := a5) (b1 := b5) (t := t5) (u := u5) (k := k5) (kq := kq) (vs := ys) (ms := [1, -1, 0, 32767, -32768, 300]) (news := (d, o5) :: (S, W.listOf us.toArray kS) :: (L + 1 + 1 + 1 + 1, o4) :: (L + 1 + 1 + 1, o3) :: (L + 1 + 1, o2) :: (L + 1, o1) :: nw) ?kB ?kF ?kX ?kN ?kT ?kk ?kr ?ku hI ?pj1 (by decide) (by decide) hns ?pa1 ?pb1 (by first | exact hA.hd _ (by (repeat (first | assumption | exact List.Mem.head _ | refine List.Mem.tail _ ?_ | refine List.mem_append_left _ ?_))) | exact Ne.symm (hA.hd _ (by (repeat (first | assumption | exact List.Mem.head _ | refine List.Mem.tail _ ?_ | refine List.mem_append_left _ ?_)))) | exact hA.hS _ (by (repeat (first | assumption | exact List.Mem.head _ | refine List.Mem.tail _ ?_ | refine List.mem_append_left _ ?_))) | exact Ne.symm (hA.hS _ (by (repeat (first | assumption | exact List.Mem.head _ | refine List.Mem.tail _ ?_ | refine List.mem_append_left _ ?_)))) | exact hA.hp _ (by (repeat (first | assumption | exact List.Mem.head _ | refine List.Mem.tail _ ?_ | refine List.mem_append_left _ ?_))) | exact Ne.symm (hA.hp _ (by (repeat (first | assumption | exact List.Mem.head _ | refine List.Mem.tail _ ?_ | refine List.mem_append_left _ ?_)))) | exact hA.hq _ (by (repeat (first | assumption | exact List.Mem.head _ | refine List.Mem.tail _ ?_ | refine List.mem_append_left _ ?_))) | exact Ne.symm (hA.hq _ (by (repeat (first | assumption | exact List.Mem.head _ | refine List.Mem.tail _ ?_ | refine List.mem_append_left _ ?_)))) | k_ne) ?pc1 ?pd1 ?_; (case kN => exact newsDrop (by k_asm) (by ((repeat (refine List.forall_mem_cons.mpr (And.intro (by (repeat (first | exact List.Mem.head _ | refine List.Mem.tail _ ?_))) ?_))); intro p9 hp9; (repeat' (first | exact hp9 | refine List.Mem.tail _ ?_ | refine List.mem_append_left _ ?_))))); (case kB => k_asm); (case kF => k_asm); (case kX => k_asm); (case kT => k_asm); (case kk => first | exact rfl | assumption); (case kr => ktr_room); (case ku => ktr_units))
  case pj1 => exact .cons _ _ (.cons _ _ (.cons _ _ (.cons _ _ (.cons _ _ (.cons _ _ .nil)))))
  case pa1 => exact hL5.a0
  case pb1 =>
    have := hL5.a1
    omega
  case pc1 => k_ne
  case pd1 => ((repeat (refine List.forall_mem_cons.mpr (And.intro (by first | exact hA.hd _ (by (repeat (first | assumption | exact List.Mem.head _ | refine List.Mem.tail _ ?_ | refine List.mem_append_left _ ?_))) | exact Ne.symm (hA.hd _ (by (repeat (first | assumption | exact List.Mem.head _ | refine List.Mem.tail _ ?_ | refine List.mem_append_left _ ?_)))) | exact hA.hS _ (by (repeat (first | assumption | exact List.Mem.head _ | refine List.Mem.tail _ ?_ | refine List.mem_append_left _ ?_))) | exact Ne.symm (hA.hS _ (by (repeat (first | assumption | exact List.Mem.head _ | refine List.Mem.tail _ ?_ | refine List.mem_append_left _ ?_)))) | exact hA.hp _ (by (repeat (first | assumption | exact List.Mem.head _ | refine List.Mem.tail _ ?_ | refine List.mem_append_left _ ?_))) | exact Ne.symm (hA.hp _ (by (repeat (first | assumption | exact List.Mem.head _ | refine List.Mem.tail _ ?_ | refine List.mem_append_left _ ?_)))) | exact hA.hq _ (by (repeat (first | assumption | exact List.Mem.head _ | refine List.Mem.tail _ ?_ | refine List.mem_append_left _ ?_))) | exact Ne.symm (hA.hq _ (by (repeat (first | assumption | exact List.Mem.head _ | refine List.Mem.tail _ ?_ | refine List.mem_append_left _ ?_)))) | k_ne) ?_))); first | exact List.forall_mem_nil _ | exact fun x hx => hnx x hx _ (by (repeat (first | assumption | exact List.Mem.head _ | refine List.Mem.tail _ ?_ | refine List.mem_append_left _ ?_))))
  intro r1 s1 a6 b6 t6' u6 k6 h7 tk7 hr1' hb1 hb2 F7 N7
  (try dsimp only)
  k_steps
  refine Stop.go ?_
  k_dflt (refine' pick_tells (p := p) (q := q) (a1 := a6) (b1 := b6) (t := t6') (u := u6) (k := k6) (kq := kq) (vs := ys) (S := S) (us := us) (kS := kS) (news := (d, o5) :: (L + 1 + 1 + 1 + 1, o4) :: (L + 1 + 1 + 1, o3) :: (L + 1 + 1, o2) :: (L + 1, o1) :: nw) ?kB ?kF ?kX ?kN ?kT ?kk ?kr ?ku hI hS (by decide) (by decide) hns ?pa2 ?pb2 (by first | exact hA.hd _ (by (repeat (first | assumption | exact List.Mem.head _ | refine List.Mem.tail _ ?_ | refine List.mem_append_left _ ?_))) | exact Ne.symm (hA.hd _ (by (repeat (first | assumption | exact List.Mem.head _ | refine List.Mem.tail _ ?_ | refine List.mem_append_left _ ?_)))) | exact hA.hS _ (by (repeat (first | assumption | exact List.Mem.head _ | refine List.Mem.tail _ ?_ | refine List.mem_append_left _ ?_))) | exact Ne.symm (hA.hS _ (by (repeat (first | assumption | exact List.Mem.head _ | refine List.Mem.tail _ ?_ | refine List.mem_append_left _ ?_)))) | exact hA.hp _ (by (repeat (first | assumption | exact List.Mem.head _ | refine List.Mem.tail _ ?_ | refine List.mem_append_left _ ?_))) | exact Ne.symm (hA.hp _ (by (repeat (first | assumption | exact List.Mem.head _ | refine List.Mem.tail _ ?_ | refine List.mem_append_left _ ?_)))) | exact hA.hq _ (by (repeat (first | assumption | exact List.Mem.head _ | refine List.Mem.tail _ ?_ | refine List.mem_append_left _ ?_))) | exact Ne.symm (hA.hq _ (by (repeat (first | assumption | exact List.Mem.head _ | refine List.Mem.tail _ ?_ | refine List.mem_append_left _ ?_)))) | k_ne) (by first | exact hA.hd _ (by (repeat (first | assumption | exact List.Mem.head _ | refine List.Mem.tail _ ?_ | refine List.mem_append_left _ ?_))) | exact Ne.symm (hA.hd _ (by (repeat (first | assumption | exact List.Mem.head _ | refine List.Mem.tail _ ?_ | refine List.mem_append_left _ ?_)))) | exact hA.hS _ (by (repeat (first | assumption | exact List.Mem.head _ | refine List.Mem.tail _ ?_ | refine List.mem_append_left _ ?_))) | exact Ne.symm (hA.hS _ (by (repeat (first | assumption | exact List.Mem.head _ | refine List.Mem.tail _ ?_ | refine List.mem_append_left _ ?_)))) | exact hA.hp _ (by (repeat (first | assumption | exact List.Mem.head _ | refine List.Mem.tail _ ?_ | refine List.mem_append_left _ ?_))) | exact Ne.symm (hA.hp _ (by (repeat (first | assumption | exact List.Mem.head _ | refine List.Mem.tail _ ?_ | refine List.mem_append_left _ ?_)))) | exact hA.hq _ (by (repeat (first | assumption | exact List.Mem.head _ | refine List.Mem.tail _ ?_ | refine List.mem_append_left _ ?_))) | exact Ne.symm (hA.hq _ (by (repeat (first | assumption | exact List.Mem.head _ | refine List.Mem.tail _ ?_ | refine List.mem_append_left _ ?_)))) | k_ne) ?pd2 ?_; (case kN => exact newsDrop (by k_asm) (by ((repeat (refine List.forall_mem_cons.mpr (And.intro (by (repeat (first | exact List.Mem.head _ | refine List.Mem.tail _ ?_))) ?_))); intro p9 hp9; (repeat' (first | exact hp9 | refine List.Mem.tail _ ?_ | refine List.mem_append_left _ ?_))))); (case kB => k_asm); (case kF => k_asm); (case kX => k_asm); (case kT => k_asm); (case kk => first | exact rfl | assumption); (case kr => ktr_room); (case ku => ktr_units))
  case pa2 => have := hL5.a0; omega
  case pb2 => have := hL5.a1; omega
  case pd2 => ((repeat (refine List.forall_mem_cons.mpr (And.intro (by first | exact hA.hd _ (by (repeat (first | assumption | exact List.Mem.head _ | refine List.Mem.tail _ ?_ | refine List.mem_append_left _ ?_))) | exact Ne.symm (hA.hd _ (by (repeat (first | assumption | exact List.Mem.head _ | refine List.Mem.tail _ ?_ | refine List.mem_append_left _ ?_)))) | exact hA.hS _ (by (repeat (first | assumption | exact List.Mem.head _ | refine List.Mem.tail _ ?_ | refine List.mem_append_left _ ?_))) | exact Ne.symm (hA.hS _ (by (repeat (first | assumption | exact List.Mem.head _ | refine List.Mem.tail _ ?_ | refine List.mem_append_left _ ?_)))) | exact hA.hp _ (by (repeat (first | assumption | exact List.Mem.head _ | refine List.Mem.tail _ ?_ | refine List.mem_append_left _ ?_))) | exact Ne.symm (hA.hp _ (by (repeat (first | assumption | exact List.Mem.head _ | refine List.Mem.tail _ ?_ | refine List.mem_append_left _ ?_)))) | exact hA.hq _ (by (repeat (first | assumption | exact List.Mem.head _ | refine List.Mem.tail _ ?_ | refine List.mem_append_left _ ?_))) | exact Ne.symm (hA.hq _ (by (repeat (first | assumption | exact List.Mem.head _ | refine List.Mem.tail _ ?_ | refine List.mem_append_left _ ?_)))) | k_ne) ?_))); first | exact List.forall_mem_nil _ | exact fun x hx => hnx x hx _ (by (repeat (first | assumption | exact List.Mem.head _ | refine List.Mem.tail _ ?_ | refine List.mem_append_left _ ?_))))
  intro r2 s2 a7 b7 t7 u7 k7 h8 tk8 hr2' hc1 hc2 F8 N8
  (try dsimp only)
  k_steps
  refine Stop.go ?_
  k_dflt (refine' pick_tells (p := p) (q := q) (a1 := a7) (b1 := b7) (t := t7) (u := u7) (k := k7) (kq := kq) (vs := ys) (S := S) (us := us) (kS := kS) (news := (d, o5) :: (L + 1 + 1 + 1 + 1, o4) :: (L + 1 + 1 + 1, o3) :: (L + 1 + 1, o2) :: (L + 1, o1) :: nw) ?kB ?kF ?kX ?kN ?kT ?kk ?kr ?ku hI hS (by decide) (by decide) hns ?pa3 ?pb3 (by first | exact hA.hd _ (by (repeat (first | assumption | exact List.Mem.head _ | refine List.Mem.tail _ ?_ | refine List.mem_append_left _ ?_))) | exact Ne.symm (hA.hd _ (by (repeat (first | assumption | exact List.Mem.head _ | refine List.Mem.tail _ ?_ | refine List.mem_append_left _ ?_)))) | exact hA.hS _ (by (repeat (first | assumption | exact List.Mem.head _ | refine List.Mem.tail _ ?_ | refine List.mem_append_left _ ?_))) | exact Ne.symm (hA.hS _ (by (repeat (first | assumption | exact List.Mem.head _ | refine List.Mem.tail _ ?_ | refine List.mem_append_left _ ?_)))) | exact hA.hp _ (by (repeat (first | assumption | exact List.Mem.head _ | refine List.Mem.tail _ ?_ | refine List.mem_append_left _ ?_))) | exact Ne.symm (hA.hp _ (by (repeat (first | assumption | exact List.Mem.head _ | refine List.Mem.tail _ ?_ | refine List.mem_append_left _ ?_)))) | exact hA.hq _ (by (repeat (first | assumption | exact List.Mem.head _ | refine List.Mem.tail _ ?_ | refine List.mem_append_left _ ?_))) | exact Ne.symm (hA.hq _ (by (repeat (first | assumption | exact List.Mem.head _ | refine List.Mem.tail _ ?_ | refine List.mem_append_left _ ?_)))) | k_ne) (by first | exact hA.hd _ (by (repeat (first | assumption | exact List.Mem.head _ | refine List.Mem.tail _ ?_ | refine List.mem_append_left _ ?_))) | exact Ne.symm (hA.hd _ (by (repeat (first | assumption | exact List.Mem.head _ | refine List.Mem.tail _ ?_ | refine List.mem_append_left _ ?_)))) | exact hA.hS _ (by (repeat (first | assumption | exact List.Mem.head _ | refine List.Mem.tail _ ?_ | refine List.mem_append_left _ ?_))) | exact Ne.symm (hA.hS _ (by (repeat (first | assumption | exact List.Mem.head _ | refine List.Mem.tail _ ?_ | refine List.mem_append_left _ ?_)))) | exact hA.hp _ (by (repeat (first | assumption | exact List.Mem.head _ | refine List.Mem.tail _ ?_ | refine List.mem_append_left _ ?_))) | exact Ne.symm (hA.hp _ (by (repeat (first | assumption | exact List.Mem.head _ | refine List.Mem.tail _ ?_ | refine List.mem_append_left _ ?_)))) | exact hA.hq _ (by (repeat (first | assumption | exact List.Mem.head _ | refine List.Mem.tail _ ?_ | refine List.mem_append_left _ ?_))) | exact Ne.symm (hA.hq _ (by (repeat (first | assumption | exact List.Mem.head _ | refine List.Mem.tail _ ?_ | refine List.mem_append_left _ ?_)))) | k_ne) ?pd3 ?_; (case kN => exact newsDrop (by k_asm) (by ((repeat (refine List.forall_mem_cons.mpr (And.intro (by (repeat (first | exact List.Mem.head _ | refine List.Mem.tail _ ?_))) ?_))); intro p9 hp9; (repeat' (first | exact hp9 | refine List.Mem.tail _ ?_ | refine List.mem_append_left _ ?_))))); (case kB => k_asm); (case kF => k_asm); (case kX => k_asm); (case kT => k_asm); (case kk => first | exact rfl | assumption); (case kr => ktr_room); (case ku => ktr_units))
  case pa3 => have := hL5.a0; omega
  case pb3 => have := hL5.a1; omega
  case pd3 => ((repeat (refine List.forall_mem_cons.mpr (And.intro (by first | exact hA.hd _ (by (repeat (first | assumption | exact List.Mem.head _ | refine List.Mem.tail _ ?_ | refine List.mem_append_left _ ?_))) | exact Ne.symm (hA.hd _ (by (repeat (first | assumption | exact List.Mem.head _ | refine List.Mem.tail _ ?_ | refine List.mem_append_left _ ?_)))) | exact hA.hS _ (by (repeat (first | assumption | exact List.Mem.head _ | refine List.Mem.tail _ ?_ | refine List.mem_append_left _ ?_))) | exact Ne.symm (hA.hS _ (by (repeat (first | assumption | exact List.Mem.head _ | refine List.Mem.tail _ ?_ | refine List.mem_append_left _ ?_)))) | exact hA.hp _ (by (repeat (first | assumption | exact List.Mem.head _ | refine List.Mem.tail _ ?_ | refine List.mem_append_left _ ?_))) | exact Ne.symm (hA.hp _ (by (repeat (first | assumption | exact List.Mem.head _ | refine List.Mem.tail _ ?_ | refine List.mem_append_left _ ?_)))) | exact hA.hq _ (by (repeat (first | assumption | exact List.Mem.head _ | refine List.Mem.tail _ ?_ | refine List.mem_append_left _ ?_))) | exact Ne.symm (hA.hq _ (by (repeat (first | assumption | exact List.Mem.head _ | refine List.Mem.tail _ ?_ | refine List.mem_append_left _ ?_)))) | k_ne) ?_))); first | exact List.forall_mem_nil _ | exact fun x hx => hnx x hx _ (by (repeat (first | assumption | exact List.Mem.head _ | refine List.Mem.tail _ ?_ | refine List.mem_append_left _ ?_))))
  intro r3 s3 a8 b8 t8 u8 k8 h9 tk9 hr3' hd1 hd2 F9 N9
  (try dsimp only)
  k_steps
  rename_i TT hT FT NT lT
  have fr8 : ∀ x ∈ (S, W.listOf us.toArray kS) :: (p, penO q a8 b8 t8 u8 k8) :: (q, W.listOf ys.toArray kq) :: (d, o5) :: (L + 1 + 1 + 1 + 1, o4) :: (L + 1 + 1 + 1, o3) :: (L + 1 + 1, o2) :: (L + 1, o1) :: nw, x.1 ≠ TT := fun x hx => Nat.ne_of_lt (ktn_ltOf (l := (S, W.listOf us.toArray kS) :: (p, penO q a8 b8 t8 u8 k8) :: (q, W.listOf ys.toArray kq) :: (d, o5) :: (L + 1 + 1 + 1 + 1, o4) :: (L + 1 + 1 + 1, o3) :: (L + 1 + 1, o2) :: (L + 1, o1) :: nw) lT x hx)
  have hm1 := menu1 hr1'
  have hm2 := menu2 hr2'
  have hm3 := menu2 hr3'
  have hL6 := hL5.put (a' := a8) (e := ⟨TT, (r2, r3), s2, s3, r1, s1⟩) ⟨hm2.1, hm2.2, hm3.1, hm3.2, hm1.1, hm1.2⟩ (by omega) (by omega) ?lh6
  case lh6 =>
    refine List.forall_mem_cons.mpr (And.intro (Ne.symm (fr8 (d, o5) (by (repeat (first | assumption | exact List.Mem.head _ | refine List.Mem.tail _ ?_ | refine List.mem_append_left _ ?_))))) ?_)
    refine List.forall_mem_cons.mpr (And.intro (Ne.symm (fr8 (S, W.listOf us.toArray kS) (by (repeat (first | assumption | exact List.Mem.head _ | refine List.Mem.tail _ ?_ | refine List.mem_append_left _ ?_))))) ?_)
    refine List.forall_mem_cons.mpr (And.intro (Ne.symm (fr8 (p, penO q a8 b8 t8 u8 k8) (by (repeat (first | assumption | exact List.Mem.head _ | refine List.Mem.tail _ ?_ | refine List.mem_append_left _ ?_))))) ?_)
    refine List.forall_mem_cons.mpr (And.intro (Ne.symm (fr8 (q, W.listOf ys.toArray kq) (by (repeat (first | assumption | exact List.Mem.head _ | refine List.Mem.tail _ ?_ | refine List.mem_append_left _ ?_))))) ?_)
    refine List.forall_mem_cons.mpr (And.intro (Ne.symm (fr8 (L + 1 + 1 + 1 + 1, o4) (by (repeat (first | assumption | exact List.Mem.head _ | refine List.Mem.tail _ ?_ | refine List.mem_append_left _ ?_))))) ?_)
    refine List.forall_mem_cons.mpr (And.intro (Ne.symm (fr8 (L + 1 + 1 + 1, o3) (by (repeat (first | assumption | exact List.Mem.head _ | refine List.Mem.tail _ ?_ | refine List.mem_append_left _ ?_))))) ?_)
    refine List.forall_mem_cons.mpr (And.intro (Ne.symm (fr8 (L + 1 + 1, o2) (by (repeat (first | assumption | exact List.Mem.head _ | refine List.Mem.tail _ ?_ | refine List.mem_append_left _ ?_))))) ?_)
    refine List.forall_mem_cons.mpr (And.intro (Ne.symm (fr8 (L + 1, o1) (by (repeat (first | assumption | exact List.Mem.head _ | refine List.Mem.tail _ ?_ | refine List.mem_append_left _ ?_))))) ?_)
    exact List.forall_mem_nil _
  refine Stop.go (pairs_set (e := ⟨TT, (r2, r3), s2, s3, r1, s1⟩) (P := P) (dO := o5) (rest := (TT, T2 (r2, r3) s2 s3) :: (S, W.listOf us.toArray kS) :: (p, penO q a8 b8 t8 u8 k8) :: (q, W.listOf ys.toArray kq) :: (L + 1 + 1 + 1 + 1, o4) :: (L + 1 + 1 + 1, o3) :: (L + 1 + 1, o2) :: (L + 1, o1) :: nw) (by k_asm) (newsDrop (by k_asm) (by ((repeat (refine List.forall_mem_cons.mpr (And.intro (by (repeat (first | exact List.Mem.head _ | refine List.Mem.tail _ ?_))) ?_))); intro p9 hp9; (repeat' (first | exact hp9 | refine List.Mem.tail _ ?_ | refine List.mem_append_left _ ?_))))) (by ktr_units) hO5 ?lT1 (.head _) hL5.nd ?lT2 (Nat.lt_of_le_of_lt hL5.ln (by omega)) ?lT3)
  case lT1 => exact fun e he => .tail _ (.tail _ (.tail _ (.tail _ (.tail _ (.tail _ (.tail _ (.tail _ (hnw ▸ List.mem_append_left _ (List.mem_map_of_mem he)))))))))
  case lT2 =>
    refine List.forall_mem_cons.mpr (And.intro (Ne.symm (fr8 (d, o5) (by (repeat (first | assumption | exact List.Mem.head _ | refine List.Mem.tail _ ?_ | refine List.mem_append_left _ ?_))))) ?_)
    ((repeat (refine List.forall_mem_cons.mpr (And.intro (by first | exact hA.hd _ (by (repeat (first | assumption | exact List.Mem.head _ | refine List.Mem.tail _ ?_ | refine List.mem_append_left _ ?_))) | exact Ne.symm (hA.hd _ (by (repeat (first | assumption | exact List.Mem.head _ | refine List.Mem.tail _ ?_ | refine List.mem_append_left _ ?_)))) | exact hA.hS _ (by (repeat (first | assumption | exact List.Mem.head _ | refine List.Mem.tail _ ?_ | refine List.mem_append_left _ ?_))) | exact Ne.symm (hA.hS _ (by (repeat (first | assumption | exact List.Mem.head _ | refine List.Mem.tail _ ?_ | refine List.mem_append_left _ ?_)))) | exact hA.hp _ (by (repeat (first | assumption | exact List.Mem.head _ | refine List.Mem.tail _ ?_ | refine List.mem_append_left _ ?_))) | exact Ne.symm (hA.hp _ (by (repeat (first | assumption | exact List.Mem.head _ | refine List.Mem.tail _ ?_ | refine List.mem_append_left _ ?_)))) | exact hA.hq _ (by (repeat (first | assumption | exact List.Mem.head _ | refine List.Mem.tail _ ?_ | refine List.mem_append_left _ ?_))) | exact Ne.symm (hA.hq _ (by (repeat (first | assumption | exact List.Mem.head _ | refine List.Mem.tail _ ?_ | refine List.mem_append_left _ ?_)))) | k_ne) ?_))); first | exact List.forall_mem_nil _ | exact fun x hx => hnx x hx _ (by (repeat (first | assumption | exact List.Mem.head _ | refine List.Mem.tail _ ?_ | refine List.mem_append_left _ ?_))))
  case lT3 =>
    intro o6 h10 k10 hO6 F10 N10
    (try dsimp only)
    k_steps
    refine EndG.intro (show Fr _ _ _ _ by k_asm) (show News _ _ _ _ by k_asm) ((d, o6) :: (S, W.listOf us.toArray kS) :: (p, penO q a8 b8 t8 u8 k8) :: (q, W.listOf ys.toArray kq) :: (L + 1 + 1 + 1 + 1, o4) :: (L + 1 + 1 + 1, o3) :: (L + 1 + 1, o2) :: (L + 1, o1) :: (put P ⟨TT, (r2, r3), s2, s3, r1, s1⟩).map PE.tup)
      ⟨fun z hz => by first | rw [if_neg hz, if_neg hz] | rw [if_neg hz], _, o6, a8, b8, t8, u8, k8, rfl, hO6, hL6⟩ ?lw1 ?lw2 ?lw3
    case lw1 =>
      (repeat (refine List.forall_mem_cons.mpr (And.intro (by (repeat (first | exact List.Mem.head _ | refine List.Mem.tail _ ?_))) ?_)))
      intro x hx
      obtain ⟨y, hy, rfl⟩ := List.mem_map.mp hx
      obtain ⟨z, hz, hz1, _, _⟩ := put_mem hy
      rw [hz1]
      rcases hz with hz | rfl
      · exact .tail _ (.tail _ (.tail _ (.tail _ (.tail _ (.tail _ (.tail _ (.tail _ (.tail _ (hnw ▸ List.mem_append_left _ (List.mem_map_of_mem hz))))))))))
      · exact .tail _ (.head _)
    case lw2 => exact fun x hx => .tail _ (.tail _ (.tail _ (.tail _ (.tail _ (.tail _ (.tail _ (.tail _ (.tail _ (hnw ▸ List.mem_append_right _ hx)))))))))
    case lw3 =>
      intro x hx b hb
      have key : b ∈ (d :: S :: p :: q :: [L + 1 + 1 + 1 + 1, L + 1 + 1 + 1, L + 1 + 1, L + 1]) ∨ b ∈ (put P ⟨TT, (r2, r3), s2, s3, r1, s1⟩).map (·.ad) := by
        have hb' : b ∈ (d :: S :: p :: q :: [L + 1 + 1 + 1 + 1, L + 1 + 1 + 1, L + 1 + 1, L + 1]) ++ (put P ⟨TT, (r2, r3), s2, s3, r1, s1⟩).map (·.ad) := by
          simpa [List.map_map, Function.comp_def, PE.tup] using hb
        exact List.mem_append.mp hb'
      rcases key with key | key
      · exact hoff x hx b (List.mem_append_left _ key)
      · obtain ⟨y, hy, rfl⟩ := List.mem_map.mp key
        obtain ⟨z, hz, _, hz2, _⟩ := put_mem hy
        rw [hz2]
        rcases hz with hz | rfl
        · exact hoff x hx z.ad (List.mem_append_right _ (List.mem_map_of_mem hz))
        · exact fr8 x (.tail _ (.tail _ (.tail _ (.tail _ (.tail _ (.tail _ (.tail _ (.tail _ (hnw ▸ List.mem_append_right _ hx)))))))))
end

end PB
namespace PB
theorem fresh37 : (if True then True else True) := by
  w_top off
  try (walk1; trivial)
  try simp
section
variable {w : World} {mean : ExcName → Option Value} {mg mb : Str → Option Value} {h₀ : Heap} {L fa : Addr} {cd : Value} {s : Shared} {Q : Flow → Shared → Prop} {E : Value → Shared → Prop}
variable {d S p q : Addr} {o o1 o2 o3 o4 : Obj} {us ys : List Value} {ns : List Int} {kS kq k : Nat} {a b : Int} {t u : Tok} {P : List PE} {olap x3 x4 : Option Value} {mm : FMap}
variable {Bg D : Addr} {us9 : List Value} {k9 kD : Nat} {Os : List PE} {bs : Array UInt8} {bt : Tok} {ws : List PE} {most : Nat} {own : List (Addr × Obj)} {hv1 hv2 : Option Value} {s9 : Shared}
section
open LCg LCt
variable {prog : Program} {w : World} {A : Around} {h₀ : Heap} {L : Addr} {m : Str → Option Value} {env : Env}
theorem CompRestT_inv {ct elt : Expr} {x : Str} {scope : Scope} {cl : List (Str × Addr)} {s : Shared} {S : List (Addr × Obj) → Prop} {P : Nat → Value → Prop} {Fin : List Value → List (Addr × Obj) → Prop} (J : Nat → List Value → List (Addr × Obj) → Prop) (n : Nat)
    {news₀ : List (Addr × Obj)} (h0 : J 0 [] news₀)
    (turn : ∀ i ys news v I oI C oC D m₂ h tk (E' : Value → Shared → Prop), i < n → J i ys news → P i v → NsObj oC m₂ → m₂ x = some v → Fr h₀ L h m → News h₀ L h ((I, oI) :: (C, oC) :: (D, lst ys) :: news) → Off3 I C D news → ((@Ne Nat I C) ∧ (@Ne Nat I D) ∧ (@Ne Nat C D)) →
      wpAny (model prog w) A (isTrue ct (compEnvC scope cl C env) (eval ct (compEnvC scope cl C env))) (fun ok s' => if ok = true then
        wpAny (model prog w) A (eval elt (compEnvC scope cl C env)) (CompEnd h₀ L m { s with heap := h, toks := tk } I oI C oC D (lst ys) S (fun y news' => J (i + 1) (ys ++ [y]) news')) E' s'
        else CompEnd h₀ L m { s with heap := h, toks := tk } I oI C oC D (lst ys) S (fun _ news' => J (i + 1) ys news') Value.none s') E' { s with heap := h, toks := tk })
    (fin : ∀ ys news, J n ys news → Fin ys news) : CompRestT prog w A h₀ L m env ct elt x scope cl s S P Fin n 0 [] news₀ := by
  have key : ∀ (k i : Nat) (ys : List Value) (news : List (Addr × Obj)), i + k = n → J i ys news → CompRestT prog w A h₀ L m env ct elt x scope cl s S P Fin k i ys news := by
    intro k
    induction k with
    | zero =>
      intro i ys news e hJ
      obtain rfl : i = n := by omega
      exact fin _ _ hJ
    | succ k ih =>
      intro i ys news e hJ
      refine CompRestT.succ fun v I oI C oC D m₂ h tk E' hP hO hm F N ho hd => ?_
      refine wpAny_mono (turn i ys news v I oI C oC D m₂ h tk E' (by omega) hJ hP hO hm F N ho hd) (fun ok s' h' => ?_) fun _ _ e => e
      cases ok with
      | true =>
        simp only [if_true] at h' ⊢
        refine wpAny_mono h' (fun y s' h' => ?_) fun _ _ e => e
        obtain ⟨h2, tk2, news', e2, F2, N2, o2, S2, J2⟩ := h'
        exact ⟨h2, tk2, news', e2, F2, N2, o2, S2, ih (i + 1) _ _ (by omega) J2⟩
      | false =>
        simp only [Bool.false_eq_true, if_false] at h' ⊢
        obtain ⟨h2, tk2, news', e2, F2, N2, o2, S2, J2⟩ := h'
        exact ⟨h2, tk2, news', e2, F2, N2, o2, S2, ih (i + 1) _ _ (by omega) J2⟩
  exact key n 0 [] news₀ (by omega) h0
end
/-- a turn of the checking loop -/
theorem turn8 {ps : Arguments} {s0 s1 s2 s4 s5 s6 s7 s10 : Stmt} {t3 i3 t8 i8 t9 i9 : Expr} {b3 e3 b8 e8 b9 e9 : List Stmt} {p3 p8 p9 : Pos} {sc : Scope} (hb : PySem.Challenge.rw_pb0162_01.row.prog.theDef (Str.ofString "law") = some (ps, [s0, s1, s2, .For t3 i3 b3 e3 p3, s4, s5, s6, s7, .For t8 i8 b8 e8 p8, .For t9 i9 b9 e9 p9, s10], sc)) (B : Below callerA h₀ [] h₀) (X : (hd.heap_1 w.params).In h₀) (T : Top hd.view_1 (looseW hd.view_1 [Str.ofString "ShapeError", Str.ofString "write_kern"]) mean mg mb h₀) (GL : Glob 0 mg mb (List.map itemOf (recsOf hd.view_1)) (scalarsOf [] ++ constsW hd.view_1) [] (namesW hd.view_1 [Str.ofString "ShapeError", Str.ofString "write_kern"]) h₀) {e : PE}
  (F : Fr h₀ L s.heap (fun z => if z = Str.ofString "held" then hv1 else if z = Str.ofString "heard" then hv2 else if z = Str.ofString "others" then some (.ref D) else if z = Str.ofString "begins" then some (.ref Bg) else if z = Str.ofString "lap" then olap else if z = Str.ofString "pairs" then some (.ref d) else mm z))
  (N : News h₀ L s.heap ((L + 1 + 1 + 1 + 1, o4) :: (Bg, W.listOf us9.toArray k9) :: (d, o) :: (L + 1 + 1 + 1, o3) :: (L + 1 + 1, o2) :: (L + 1, o1) :: (Os.map PE.tup ++ P.map PE.tup ++ own))) (hoff : OwnOff own (((L + 1 + 1 + 1 + 1, o4) :: (Bg, W.listOf us9.toArray k9) :: (d, o) :: (L + 1 + 1 + 1, o3) :: (L + 1 + 1, o2) :: (L + 1, o1) :: (Os.map PE.tup ++ P.map PE.tup)).map (·.1)))
  (hO : DictP w o P) (hn : (P.map (·.key)).Nodup) (ce3 : o3.data = .cell (some (.bytes bs bt))) (ce4 : o4.data = .cell (some (.ref e.ad))) (lo : (d == sysModules) = false)
  (hbs : KBw.bInts bs = encAll ws most) (hperm : ws.Perm P) (hO9 : Octs (encAll ws most) ws most) (hm : 1 ≤ most) (hP : P.length < 16) (hIb : IntsAre us9 ((List.range (nsub ws.length most)).map (offs ws most)))
  (he : e.tup ∈ Os.map PE.tup ++ P.map PE.tup) (hs9 : ∃ h tk, s = { s9 with heap := h, toks := tk }) :
  wpX (model PySem.Challenge.rw_pb0162_01.row.prog w) (callerA.deeper (envOfC (Str.ofString "law") sc L fa cd)) (execs b8 (envOfC (Str.ofString "law") sc L fa cd))
    (PostG h₀ L (fun m' nx => (∀ z, z ≠ Str.ofString "heard" → z ≠ Str.ofString "held" → m' z = if z = Str.ofString "others" then some (.ref D) else if z = Str.ofString "begins" then some (.ref Bg) else if z = Str.ofString "lap" then olap else if z = Str.ofString "pairs" then some (.ref d) else mm z) ∧ ∃ o4 x4, nx = (L + 1 + 1 + 1 + 1, o4) :: (Bg, W.listOf us9.toArray k9) :: (d, o) :: (L + 1 + 1 + 1, o3) :: (L + 1 + 1, o2) :: (L + 1, o1) :: (Os.map PE.tup ++ P.map PE.tup) ∧ o4.data = .cell x4) own s9 Q) NoE s := by
  k_with_none
  (k_with "call ref" => (k_here; (with_reducible show wpAny _ _ (call (Value.ref 191) [Value.ref _, Value.int _ _]) _ _ _); (refine Stop.out ?_)))
  (k_with "call ref" => (k_here; (with_reducible show wpAny _ _ (call (Value.ref 198) [Value.ref _, Value.ref _]) _ _ _); (refine Stop.out ?_)))
  (k_with "pyIter ref" => (refine Stop.out ?_))
  (k_with "call ref" => (k_here; (with_reducible show wpAny _ _ (call (Value.ref 219) [Value.bytes _ _, Value.int _ _, Value.ref _]) _ _ _); (refine Stop.out ?_)))
  (k_with "CompSrc" => (refine Stop.out ?_))
  (k_with "CompSrcT" => (refine Stop.out ?_))
  (k_with "CompEnd" => (refine Stop.out ?_))
  (k_with "compareOp In ref ref" => (refine Stop.out ?_))
  (k_with "compareOp NotEq ref ref" => (refine Stop.out ?_))
  (k_with "subscriptTail" => (k_here; (with_reducible show wpAny _ _ (subscriptTail _ _ (Value.ref _) (Value.ref _)) _ _ _); refine Stop.out ?_))
  obtain ⟨h9, tk9, rfl⟩ := hs9
  revert X; k_fill; intro X
  injection hb with hb
  injection hb with _ hb
  injection hb with hb hsc
  injection hb with h09 hb
  injection hb with h19 hb
  injection hb with h29 hb
  injection hb with h39 hb
  injection hb with h49 hb
  injection hb with h59 hb
  injection hb with h69 hb
  injection hb with h79 hb
  injection hb with h89 hb
  injection hb with h99 hb
  injection hb with h109 hb
  injection h39 with h3a h3b h3c h3d h3e
  injection h89 with h8a h8b h8c h8d h8e
  injection h99 with h9a h9b h9c h9d h9e
  subst hsc h09 h19 h29 h49 h59 h69 h79 h109 h3a h3b h3c h3d h3e h8a h8b h8c h8d h8e h9a h9b h9c h9d h9e
  clear hb
  have hwl : ws.length = P.length := hperm.length_eq
  have hnl := nsub_le (n := ws.length) hm
  obtain ⟨nw, hnw⟩ : ∃ nw, Os.map PE.tup ++ P.map PE.tup ++ own = nw := ⟨_, rfl⟩
  have hew : e.tup ∈ nw := hnw ▸ List.mem_append_left _ he
  have hPw : ∀ e ∈ P, e.tup ∈ nw := fun e he => hnw ▸ List.mem_append_left _ (List.mem_append_right _ (List.mem_map_of_mem he))
  rw [hnw] at N
  have N2 : News h₀ L h9 ((e.ad, T2 e.key e.t e.u) :: (L + 1 + 1 + 1 + 1, o4) :: (Bg, W.listOf us9.toArray k9) :: (d, o) :: (L + 1 + 1 + 1, o3) :: (L + 1 + 1, o2) :: (L + 1, o1) :: nw) := by
    intro x hx
    rcases List.mem_cons.mp hx with rfl | hx
    · exact N _ (.tail _ (.tail _ (.tail _ (.tail _ (.tail _ (.tail _ (hew)))))))
    · exact N _ hx
  clear N
  refine wpX_of ?_
  k_steps
  have hus : us9.toArray.size = nsub ws.length most := by rw [List.size_toArray, hIb.length, List.length_map, List.length_range]
  refine Stop.go (LCg.CompSrc.ledger (ax := Bg) (its := us9.toArray) (k := k9) (news := (e.ad, T2 e.key e.t e.u) :: (L + 1 + 1 + 1 + 1, o4) :: (Bg, W.listOf us9.toArray k9) :: (d, o) :: (L + 1 + 1 + 1, o3) :: (L + 1 + 1, o2) :: (L + 1, o1) :: nw) (by rfl) (by k_asm) (newsDrop (by k_asm) (by ((repeat (refine List.forall_mem_cons.mpr (And.intro (by (repeat (first | exact List.Mem.head _ | refine List.Mem.tail _ ?_))) ?_))); intro p9 hp9; (repeat' (first | exact hp9 | refine List.Mem.tail _ ?_ | refine List.mem_append_left _ ?_))))) (.tail _ (.tail _ (.head _))) (by rw [hus, PySem.sizeLine_eq]; omega) fun g9 => ?_)
  refine CompRest_inv (fun i zs nx => nx = (e.ad, T2 e.key e.t e.u) :: (L + 1 + 1 + 1 + 1, o4) :: (Bg, W.listOf us9.toArray k9) :: (d, o) :: (L + 1 + 1 + 1, o3) :: (L + 1 + 1, o2) :: (L + 1, o1) :: nw ∧ ∃ hs : List (Option Int × Tok), zs = hs.map (fun x => optV x.1 x.2) ∧ hs.map (·.1) = (List.range i).map fun j => found (encAll ws most) (offs ws most j) (chunk ws most j).length (Nat.log2 (chunk ws most j).length) e.key) _ ⟨rfl, [], rfl, rfl⟩ ?hd1 ?hd2
  case hd1 =>
    rintro i zs _ v' I' oI' C' oC' D' m' h8 tk8 E' hlt ⟨rfl, hs, rfl, hhs⟩ hv' hC' hx' F9 N9 off' ne'
    obtain ⟨n9, t9, hn9, rfl⟩ := ints_at hIb hv'
    rw [hus] at hlt
    have e9 : n9 = offs ws most i := by
      rw [List.getElem?_map, List.getElem?_range hlt] at hn9
      exact (Option.some.inj hn9).symm
    subst e9
    k_steps
    refine Stop.go ?_
    k_dflt (refine' found_tells (D := encAll ws most) (b := offs ws most i) (n := (chunk ws most i).length) (p := Nat.log2 (chunk ws most i).length) (pa := e.ad) (pr := e.key) (t0 := e.t) (u0 := e.u) hbs hO9.small ?kB ?kF ?kX ?kN ?kT ?kk ?kr ?ku ?fp (hO9.sub i hlt) ?_; (case kB => k_asm); (case kF => k_asm); (case kX => k_asm); (case kN => k_asm); (case kT => k_asm); (case kk => first | exact rfl | assumption); (case kr => ktr_room); (case ku => ktr_units))
    case fp => exact .tail _ (.tail _ (.tail _ (.head _)))
    intro t8 h7 tk7 F8 N8
    (try dsimp only)
    k_steps
    refine Stop.go (LCg.CompEnd.intro (by k_asm) (by k_asm) _ (fun p hp => hp) off' (.inr ⟨_, .tail _ (.tail _ (.head _)), rfl, _, rfl⟩) ⟨rfl, hs ++ [(_, t8)], by rw [List.map_append]; rfl, ?_⟩)
    rw [List.map_append, hhs, List.range_succ, List.map_append]
    rfl
  case hd2 =>
    rintro zs _ ⟨rfl, hs, rfl, hhs⟩
    rw [hus] at hhs
    unfold LCg.FinA
    intro Dh h8 tk8 F8 N8 o8
    (try dsimp only)
    k_steps
    have hhl : hs.length = nsub ws.length most := by
      have := congrArg List.length hhs
      rw [List.length_map, List.length_map, List.length_range] at this
      exact this
    refine Stop.go (LCt.CompSrcT.ledger (ax := Dh) (its := (hs.map fun x : Option Int × Tok => optV x.1 x.2).toArray) (k := (hs.map fun x : Option Int × Tok => optV x.1 x.2).length) (news := (Dh, LCg.lst (hs.map fun x : Option Int × Tok => optV x.1 x.2)) :: (e.ad, T2 e.key e.t e.u) :: (L + 1 + 1 + 1 + 1, o4) :: (Bg, W.listOf us9.toArray k9) :: (d, o) :: (L + 1 + 1 + 1, o3) :: (L + 1 + 1, o2) :: (L + 1, o1) :: nw) (by rfl) (by k_asm) (by k_asm) (.head _) (by rw [List.size_toArray, List.length_map, hhl, PySem.sizeLine_eq]; omega) fun g8 => ?_)
    refine CompRestT_inv (fun i zs nx => nx = (Dh, LCg.lst (hs.map fun x : Option Int × Tok => optV x.1 x.2)) :: (e.ad, T2 e.key e.t e.u) :: (L + 1 + 1 + 1 + 1, o4) :: (Bg, W.listOf us9.toArray k9) :: (d, o) :: (L + 1 + 1 + 1, o3) :: (L + 1 + 1, o2) :: (L + 1, o1) :: nw ∧ IntsAre zs ((hs.take i).filterMap (·.1))) _ ⟨rfl, .nil⟩ ?hd3 ?hd4
    case hd3 =>
      rintro i zs _ v' I' oI' C' oC' D' m' h8 tk8 E' hlt ⟨rfl, hzs⟩ hv' hC' hx' F9 N9 off' ne'
      have hvv : (hs.map fun x : Option Int × Tok => optV x.1 x.2)[i]? = some v' := by simpa using hv'
      rw [List.getElem?_map] at hvv
      obtain ⟨⟨ov, tv⟩, hov, rfl⟩ := Option.map_eq_some_iff.mp hvv
      have htk : (hs.take (i + 1)).filterMap (·.1) = (hs.take i).filterMap (·.1) ++ ov.toList := by
        rw [List.take_add_one, hov, List.filterMap_append]
        congr 1
      cases ov with
      | none =>
        unfold optV at hx'
        dsimp only at hx'
        k_steps
        refine Stop.go (LCg.CompEnd.intro (by k_asm) (by k_asm) _ (fun p hp => hp) off' (.inr ⟨_, .head _, rfl, _, rfl⟩) ⟨rfl, ?_⟩)
        rw [htk]
        simpa using hzs
      | some ov =>
        unfold optV at hx'
        dsimp only at hx'
        k_steps
        refine Stop.go (LCg.CompEnd.intro (by k_asm) (by k_asm) _ (fun p hp => hp) off' (.inr ⟨_, .head _, rfl, _, rfl⟩) ⟨rfl, ?_⟩)
        rw [htk]
        exact ints_snoc hzs
    case hd4 =>
      rintro zs _ ⟨rfl, hzs⟩
      unfold LCg.FinA
      intro Dk h8 tk8 F8 N8 o8
      (try dsimp only)
      k_steps
      have hH : (hs.filterMap (·.1)) = (lk P e.key).toList := by
        rw [← lk_perm hperm hn, ← heard_ws hO9 hm ((hperm.map _).nodup_iff.mpr hn) e.key]
        have e1 : hs.filterMap (·.1) = (hs.map (·.1)).filterMap id := by rw [List.filterMap_map]; rfl
        rw [e1, hhs, List.filterMap_map]
        rfl
      rw [List.size_toArray, List.length_map, List.take_length, hH] at hzs
      unfold lk at hzs
      cases hlook : look P e.key with
      | none =>
        rw [hlook] at hzs
        refine Stop.go (pairs_in (P := P) (dO := o) (d := d) (p := e.key) (t := e.t) (u := e.u) (show News _ _ _ _ by k_asm) (by ktr_units) (.tail _ (.tail _ (.tail _ (.tail _ (.tail _ (.head _)))))) lo hO (fun e he => .tail _ (.tail _ (.tail _ (.tail _ (.tail _ (.tail _ (.tail _ (.tail _ (.tail _ (hPw e he)))))))))) hn (.tail _ (.tail _ (.head _))) ?_)
        rw [hlook]
        simp only [Option.isSome_none]
        k_steps
        refine Stop.go (ints_ne (vs := zs) (kq := zs.length) (us := []) (ms := []) (show News _ _ _ _ by k_asm) (.tail _ (.head _)) (.head _) hzs .nil (by ktr_units) rfl ?_)
        k_steps
        refine EndG.intro (show Fr _ _ _ _ by k_asm) (show News _ _ _ _ by k_asm) ((L + 1 + 1 + 1 + 1, o4) :: (Bg, W.listOf us9.toArray k9) :: (d, o) :: (L + 1 + 1 + 1, o3) :: (L + 1 + 1, o2) :: (L + 1, o1) :: (Os.map PE.tup ++ P.map PE.tup)) ⟨fun z h1 h2 => by simp only [if_neg h1, if_neg h2], o4, _, rfl, ce4⟩ ?_ ?_ hoff
        · (repeat (refine List.forall_mem_cons.mpr (And.intro (by (repeat (first | exact List.Mem.head _ | refine List.Mem.tail _ ?_))) ?_)))
          exact fun x hx => .tail _ (.tail _ (.tail _ (.tail _ (.tail _ (.tail _ (.tail _ (.tail _ (.tail _ (.tail _ (hnw ▸ List.mem_append_left _ hx))))))))))
        · exact fun x hx => .tail _ (.tail _ (.tail _ (.tail _ (.tail _ (.tail _ (.tail _ (.tail _ (.tail _ (.tail _ (hnw ▸ List.mem_append_right _ hx))))))))))
      | some e9 =>
        rw [hlook] at hzs
        obtain ⟨he9, hk9⟩ := look_mem hlook
        refine Stop.go (pairs_in (P := P) (dO := o) (d := d) (p := e.key) (t := e.t) (u := e.u) (show News _ _ _ _ by k_asm) (by ktr_units) (.tail _ (.tail _ (.tail _ (.tail _ (.tail _ (.head _)))))) lo hO (fun e he => .tail _ (.tail _ (.tail _ (.tail _ (.tail _ (.tail _ (.tail _ (.tail _ (.tail _ (hPw e he)))))))))) hn (.tail _ (.tail _ (.head _))) ?_)
        rw [hlook]
        simp only [Option.isSome_some]
        k_steps
        refine Stop.go (pairs_at (P := P) (dO := o) (e := e9) (t := e.t) (u := e.u) (show News _ _ _ _ by k_asm) (by ktr_units) (.tail _ (.tail _ (.tail _ (.tail _ (.tail _ (.head _)))))) hO (fun e he => .tail _ (.tail _ (.tail _ (.tail _ (.tail _ (.tail _ (.tail _ (.tail _ (.tail _ (hPw e he)))))))))) hn (by rw [hk9]; exact hlook) (by rw [hk9]; exact .tail _ (.tail _ (.head _))) fun k8 => ?_)
        k_steps
        refine Stop.go (ints_ne (vs := zs) (kq := zs.length) (us := [.int e9.val e9.tok]) (ms := [e9.val]) (show News _ _ _ _ by k_asm) (.tail _ (.head _)) (.head _) hzs (.cons _ _ .nil) (by ktr_units) rfl ?_)
        k_steps
        refine EndG.intro (show Fr _ _ _ _ by k_asm) (show News _ _ _ _ by k_asm) ((L + 1 + 1 + 1 + 1, o4) :: (Bg, W.listOf us9.toArray k9) :: (d, o) :: (L + 1 + 1 + 1, o3) :: (L + 1 + 1, o2) :: (L + 1, o1) :: (Os.map PE.tup ++ P.map PE.tup)) ⟨fun z h1 h2 => by simp only [if_neg h1, if_neg h2], o4, _, rfl, ce4⟩ ?_ ?_ hoff
        · (repeat (refine List.forall_mem_cons.mpr (And.intro (by (repeat (first | exact List.Mem.head _ | refine List.Mem.tail _ ?_))) ?_)))
          exact fun x hx => .tail _ (.tail _ (.tail _ (.tail _ (.tail _ (.tail _ (.tail _ (.tail _ (.tail _ (.tail _ (hnw ▸ List.mem_append_left _ hx))))))))))
        · exact fun x hx => .tail _ (.tail _ (.tail _ (.tail _ (.tail _ (.tail _ (.tail _ (.tail _ (.tail _ (.tail _ (hnw ▸ List.mem_append_right _ hx))))))))))
end

end PB
namespace PB
theorem fresh38 : (if True then True else True) := by
  w_top off
  try (walk1; trivial)
  try simp
section
variable {w : World} {mean : ExcName → Option Value} {mg mb : Str → Option Value} {h₀ : Heap} {L fa : Addr} {cd : Value} {s : Shared} {Q : Flow → Shared → Prop} {E : Value → Shared → Prop}
variable {d S p q : Addr} {o o1 o2 o3 o4 : Obj} {us ys : List Value} {ns : List Int} {kS kq k : Nat} {a b : Int} {t u : Tok} {P : List PE} {olap x3 x4 : Option Value} {mm : FMap}
variable {Bg D : Addr} {us9 : List Value} {k9 kD : Nat} {Os : List PE} {bs : Array UInt8} {bt : Tok} {ws : List PE} {most : Nat} {own : List (Addr × Obj)} {hv1 hv2 : Option Value} {s9 : Shared}
/-- a turn of the loop over the subtables' heads -/
theorem turn9 {ps : Arguments} {s0 s1 s2 s4 s5 s6 s7 s10 : Stmt} {t3 i3 t8 i8 t9 i9 : Expr} {b3 e3 b8 e8 b9 e9 : List Stmt} {p3 p8 p9 : Pos} {sc : Scope} (hb : PySem.Challenge.rw_pb0162_01.row.prog.theDef (Str.ofString "law") = some (ps, [s0, s1, s2, .For t3 i3 b3 e3 p3, s4, s5, s6, s7, .For t8 i8 b8 e8 p8, .For t9 i9 b9 e9 p9, s10], sc)) (B : Below callerA h₀ [] h₀) (X : (hd.heap_1 w.params).In h₀) (T : Top hd.view_1 (looseW hd.view_1 [Str.ofString "ShapeError", Str.ofString "write_kern"]) mean mg mb h₀) (GL : Glob 0 mg mb (List.map itemOf (recsOf hd.view_1)) (scalarsOf [] ++ constsW hd.view_1) [] (namesW hd.view_1 [Str.ofString "ShapeError", Str.ofString "write_kern"]) h₀) {i : Nat} {bg : Option Value} {cv1 cv2 : Option Value} {tt : Tok} {news : List (Addr × Obj)}
  (F : Fr h₀ L s.heap (fun z => if z = Str.ofString "begun" then some (.int (offs ws most i) tt) else if z = Str.ofString "begun" then bg else if z = Str.ofString "count" then cv1 else if z = Str.ofString "span" then cv2 else mm z))
  (N : News h₀ L s.heap ((L + 1 + 1 + 1, o3) :: (news ++ own))) (hoff : OwnOff own (((L + 1 + 1 + 1, o3) :: news).map (·.1)))
  (ce3 : o3.data = .cell (some (.bytes bs bt))) (hbs : KBw.bInts bs = encAll ws most) (hO9 : Octs (encAll ws most) ws most) (hi : i < nsub ws.length most) (hs9 : ∃ h tk, s = { s9 with heap := h, toks := tk }) :
  wpX (model PySem.Challenge.rw_pb0162_01.row.prog w) (callerA.deeper (envOfC (Str.ofString "law") sc L fa cd)) (execs b9 (envOfC (Str.ofString "law") sc L fa cd))
    (PostG h₀ L (fun m' nx => (∀ z, z ≠ Str.ofString "begun" → z ≠ Str.ofString "count" → z ≠ Str.ofString "span" → m' z = mm z) ∧ nx = (L + 1 + 1 + 1, o3) :: news) own s9 Q) NoE s := by
  k_with_none
  (k_with "call ref" => (k_here; (with_reducible show wpAny _ _ (call (Value.ref 191) [Value.ref _, Value.int _ _]) _ _ _); (refine Stop.out ?_)))
  (k_with "call ref" => (k_here; (with_reducible show wpAny _ _ (call (Value.ref 198) [Value.ref _, Value.ref _]) _ _ _); (refine Stop.out ?_)))
  (k_with "pyIter ref" => (refine Stop.out ?_))
  (k_with "call ref" => (k_here; (with_reducible show wpAny _ _ (call (Value.ref 205) [Value.bytes _ _, Value.int _ _]) _ _ _); k_dflt (refine' two_tells (by assumption) (by omega) (by k_asm) (by k_asm) (by k_asm) (by k_asm) (by k_asm) (by first | exact rfl | assumption) (by ktr_room) (by ktr_units) (by omega) (by omega) ?_); intro t9Z h9Z tk9Z F9Z N9Z; (try dsimp only); (try k_fold)))
  (k_with "binaryOp Pow int int" => (refine Stop.out ?_))
  obtain ⟨h9, tk9, rfl⟩ := hs9
  revert X; k_fill; intro X
  injection hb with hb
  injection hb with _ hb
  injection hb with hb hsc
  injection hb with h09 hb
  injection hb with h19 hb
  injection hb with h29 hb
  injection hb with h39 hb
  injection hb with h49 hb
  injection hb with h59 hb
  injection hb with h69 hb
  injection hb with h79 hb
  injection hb with h89 hb
  injection hb with h99 hb
  injection hb with h109 hb
  injection h39 with h3a h3b h3c h3d h3e
  injection h89 with h8a h8b h8c h8d h8e
  injection h99 with h9a h9b h9c h9d h9e
  subst hsc h09 h19 h29 h49 h59 h69 h79 h109 h3a h3b h3c h3d h3e h8a h8b h8c h8d h8e h9a h9b h9c h9d h9e
  clear hb
  have hsm := hO9.small
  have sb := hO9.sub i hi
  have f0 := sb.b0
  have f1 := sb.hi
  have f2 := sb.h6
  have f3 := sb.h8
  have f4 := sb.h10
  have f5 := sb.lo
  have f6 := sb.up
  have f7 := sb.p3
  generalize hD : encAll ws most = D9 at *
  generalize hB : offs ws most i = b9 at *
  generalize Nat.log2 (chunk ws most i).length = p9 at *
  generalize (chunk ws most i).length = n9 at *
  rw [Nat.pow_succ] at f6
  have f8 : (2 : Int) ^ (two D9 (b9 + 10)).toNat = ((2 ^ p9 : Nat) : Int) := by
    rw [f4, Int.toNat_natCast]
    simp
  generalize 2 ^ p9 = z9 at *
  refine wpX_of ?_
  k_steps
  refine Stop.go (pow_int_small (by omega) (by omega) (by decide) ?_)
  rw [f8]
  (try dsimp only)
  k_steps
  · exfalso
    omega
  · (try dsimp only)
    refine EndG.intro (show Fr _ _ _ _ by k_asm) (show News _ _ _ _ by k_asm) ((L + 1 + 1 + 1, o3) :: news) ⟨fun z h1 h2 h3 => by simp only [if_neg h1, if_neg h2, if_neg h3], rfl⟩ ?_ ?_ hoff
    · refine List.forall_mem_cons.mpr ⟨.tail _ (.head _), fun x hx => .tail _ (.tail _ (List.mem_append_left _ hx))⟩
    · exact fun x hx => .tail _ (.tail _ (List.mem_append_right _ hx))
end

end PB
namespace PB
theorem fresh39 : (if True then True else True) := by
  w_top off
  try (walk1; trivial)
  try simp
theorem frame2b {x y : Str} {m₁ m₀ : FMap} (hm : ∀ z, z ≠ x → z ≠ y → m₁ z = m₀ z) : m₁ = fun z => if z = y then m₁ y else if z = x then m₁ x else m₀ z := frame2 rfl hm
theorem frame3 {x y u : Str} {m₁ m₀ : FMap} (hm : ∀ z, z ≠ x → z ≠ y → z ≠ u → m₁ z = m₀ z) : m₁ = fun z => if z = x then m₁ x else if z = y then m₁ y else if z = u then m₁ u else m₀ z := by
  funext z
  by_cases h1 : z = x
  · subst h1; rw [if_pos rfl]
  · by_cases h2 : z = y
    · subst h2; rw [if_neg h1, if_pos rfl]
    · by_cases h3 : z = u
      · subst h3; rw [if_neg h1, if_neg h2, if_pos rfl]
      · rw [if_neg h1, if_neg h2, if_neg h3, hm z h1 h2 h3]
theorem refs_at {l : List PE} {i : Nat} {v : Value} (h : (l.map fun e => Value.ref e.ad).toArray[i]? = some v) : ∃ e ∈ l, v = .ref e.ad := by
  have h2 : (l.map fun e : PE => Value.ref e.ad)[i]? = some v := by simpa using h
  rw [List.getElem?_map] at h2
  obtain ⟨e, he, rfl⟩ := Option.map_eq_some_iff.mp h2
  exact ⟨e, List.mem_of_getElem? he, rfl⟩
section
variable {w : World} {mean : ExcName → Option Value} {mg mb : Str → Option Value} {h₀ : Heap} {L fa : Addr} {cd : Value} {s : Shared} {Q : Flow → Shared → Prop} {E : Value → Shared → Prop}
variable {d S p q : Addr} {o o1 o2 o3 o4 : Obj} {us ys : List Value} {ns : List Int} {kS kq k : Nat} {a b : Int} {t u : Tok} {P : List PE} {olap x3 x4 : Option Value} {mm : FMap}
variable {Bg D : Addr} {us9 : List Value} {k9 kD : Nat} {Os : List PE} {bs : Array UInt8} {bt : Tok} {ws : List PE} {most : Nat} {own : List (Addr × Obj)} {hv1 hv2 : Option Value} {s9 : Shared}
theorem rest8 {ps : Arguments} {s0 s1 s2 s4 s5 s6 s7 s10 : Stmt} {t3 i3 t8 i8 t9 i9 : Expr} {b3 e3 b8 e8 b9 e9 : List Stmt} {p3 p8 p9 : Pos} {sc : Scope} (hb : PySem.Challenge.rw_pb0162_01.row.prog.theDef (Str.ofString "law") = some (ps, [s0, s1, s2, .For t3 i3 b3 e3 p3, s4, s5, s6, s7, .For t8 i8 b8 e8 p8, .For t9 i9 b9 e9 p9, s10], sc)) (B : Below callerA h₀ [] h₀) (X : (hd.heap_1 w.params).In h₀) (T : Top hd.view_1 (looseW hd.view_1 [Str.ofString "ShapeError", Str.ofString "write_kern"]) mean mg mb h₀) (GL : Glob 0 mg mb (List.map itemOf (recsOf hd.view_1)) (scalarsOf [] ++ constsW hd.view_1) [] (namesW hd.view_1 [Str.ofString "ShapeError", Str.ofString "write_kern"]) h₀)
  (F : Fr h₀ L s.heap (fun z => if z = Str.ofString "others" then some (.ref D) else if z = Str.ofString "begins" then some (.ref Bg) else if z = Str.ofString "lap" then olap else if z = Str.ofString "pairs" then some (.ref d) else mm z))
  (N : News h₀ L s.heap ((D, lstW Os kD) :: (L + 1 + 1 + 1 + 1, o4) :: (Bg, W.listOf us9.toArray k9) :: (d, o) :: (L + 1 + 1 + 1, o3) :: (L + 1 + 1, o2) :: (L + 1, o1) :: (Os.map PE.tup ++ P.map PE.tup)))
  (hx4 : ∀ x ∈ (Bg, W.listOf us9.toArray k9) :: (d, o) :: (L + 1 + 1 + 1, o3) :: (L + 1 + 1, o2) :: (L + 1, o1) :: (Os.map PE.tup ++ P.map PE.tup), x.1 ≠ L + 1 + 1 + 1 + 1) (hxB : (L + 1 + 1 + 1 : Addr) ≠ Bg)
  (hO : DictP w o P) (hn : (P.map (·.key)).Nodup) (hr : ∀ e ∈ P, InR e) (ce3 : o3.data = .cell (some (.bytes bs bt))) (ce4 : o4.data = .cell x4) (lo : (d == sysModules) = false)
  (hbs : KBw.bInts bs = encAll ws most) (hperm : ws.Perm P) (hO9 : Octs (encAll ws most) ws most) (hm : 1 ≤ most) (hP : P.length < 16) (hOs : Os.length < 16) (hIb : IntsAre us9 ((List.range (nsub ws.length most)).map (offs ws most)))
  (hret : ∀ m' h' tk', Fr h₀ L h' m' → Q (.ret (.bool true)) { s with heap := h', toks := tk' }) :
  wpX (model PySem.Challenge.rw_pb0162_01.row.prog w) (callerA.deeper (envOfC (Str.ofString "law") sc L fa cd)) (execs [.For t8 i8 b8 e8 p8, .For t9 i9 b9 e9 p9, s10] (envOfC (Str.ofString "law") sc L fa cd)) Q E s := by
  k_with_none
  (k_with "call ref" => (k_here; (with_reducible show wpAny _ _ (call (Value.ref 191) [Value.ref _, Value.int _ _]) _ _ _); (refine Stop.out ?_)))
  (k_with "call ref" => (k_here; (with_reducible show wpAny _ _ (call (Value.ref 198) [Value.ref _, Value.ref _]) _ _ _); (refine Stop.out ?_)))
  (k_with "pyIter ref" => (refine Stop.out ?_))
  (k_with "call builtin:sorted" => (refine Stop.out ?_))
  (k_with "binaryOp Add ref ref" => (refine Stop.out ?_))
  revert X; k_fill; intro X
  have hb0 := hb
  injection hb with hb
  injection hb with _ hb
  injection hb with hb hsc
  injection hb with h09 hb
  injection hb with h19 hb
  injection hb with h29 hb
  injection hb with h39 hb
  injection hb with h49 hb
  injection hb with h59 hb
  injection hb with h69 hb
  injection hb with h79 hb
  injection hb with h89 hb
  injection hb with h99 hb
  injection hb with h109 hb
  injection h39 with h3a h3b h3c h3d h3e
  injection h89 with h8a h8b h8c h8d h8e
  injection h99 with h9a h9b h9c h9d h9e
  subst hsc h09 h19 h29 h49 h59 h69 h79 h109 h3a h3b h3c h3d h3e h8a h8b h8c h8d h8e h9a h9b h9c h9d h9e
  clear hb
  refine wpX_execs_cons (wpX_of0 (wpX_For ?_))
  k_steps
  refine Stop.go (sorted_dict (P := P) (dO := o) (show Fr _ _ _ _ by k_asm) (show News _ _ _ _ by k_asm) (by rfl) lo (.tail _ (.tail _ (.tail _ (.head _)))) hO (fun e he => .tail _ (.tail _ (.tail _ (.tail _ (.tail _ (.tail _ (.tail _ (List.mem_append_right _ (List.mem_map_of_mem he))))))))) hn hr (by omega) fun Dw ws' n9 h9 tk9 hperm' hsort' F9 N9 l9 => ?_)
  have hW9 := news_ne N9
  have hwl' : ws'.length = P.length := hperm'.length_eq
  (try dsimp only)
  k_steps
  refine Stop.go (add_lists (vs := ws'.map fun e => Value.ref e.ad) (ws := Os.map fun e => Value.ref e.ad) (show Fr _ _ _ _ by k_asm) (show News _ _ _ _ by k_asm) ⟨_, News.get (show News _ _ _ _ by k_asm) (.head _), rfl, _, rfl⟩ ⟨_, News.get (show News _ _ _ _ by k_asm) (.tail _ (.head _)), rfl, _, rfl⟩ (fun h8 F8 N8 => ?_) (by rw [List.length_map, List.length_map, sizeLine_eq]; omega))
  (try dsimp only)
  k_steps
  refine Stop.go (forG_listM (h₀ := h₀) (its := ((ws'.map fun e => Value.ref e.ad) ++ (Os.map fun e => Value.ref e.ad)).toArray)
    (fun m₀ i m₁ nx => (∀ z, z ≠ Str.ofString "heard" → z ≠ Str.ofString "held" → m₁ z = m₀ z) ∧ ∃ o4 x4, nx = (L + 1 + 1 + 1 + 1, o4) :: (Bg, W.listOf us9.toArray k9) :: (d, o) :: (L + 1 + 1 + 1, o3) :: (L + 1 + 1, o2) :: (L + 1, o1) :: (Os.map PE.tup ++ P.map PE.tup) ∧ o4.data = .cell x4)
    (news := (L + 1 + 1 + 1 + 1, o4) :: (Bg, W.listOf us9.toArray k9) :: (d, o) :: (L + 1 + 1 + 1, o3) :: (L + 1 + 1, o2) :: (L + 1, o1) :: (Os.map PE.tup ++ P.map PE.tup)) (show Fr _ _ _ _ by k_asm) (newsDrop (show News _ _ _ _ by k_asm) (List.forall_mem_cons.mpr ⟨.head _, fun x hx => .tail _ (.tail _ (.tail _ hx))⟩)) (fun x hx => hW9 x (.tail _ (.tail _ hx))) rfl ?lj8 ?lt8 ?ld8)
  case lj8 => exact ⟨fun _ _ _ => rfl, o4, x4, rfl, ce4⟩
  case lt8 =>
    rintro i v m₁ _ h6 tk6 own hv hoff ⟨hm8, o5, x5, rfl, hx5⟩ F6 N6
    have F5 := Eq.subst (motive := fun x => Fr _ _ h6 x) (frame2b hm8) F6
    clear F6
    (try dsimp only at F5)
    generalize m₁ (Str.ofString "heard") = hv2 at F5
    generalize m₁ (Str.ofString "held") = hv1 at F5
    rw [← List.map_append] at hv
    obtain ⟨e, he, rfl⟩ := refs_at hv
    have het : e.tup ∈ Os.map PE.tup ++ P.map PE.tup := by
      rcases List.mem_append.mp he with he | he
      · exact List.mem_append_right _ (List.mem_map_of_mem (hperm'.mem_iff.mp he))
      · exact List.mem_append_left _ (List.mem_map_of_mem he)
    refine wpAny_assign_Name (storeX_C (v₀ := x5) F5 (show News _ _ _ ((L + 1 + 1 + 1 + 1, o5) :: ((Bg, W.listOf us9.toArray k9) :: (d, o) :: (L + 1 + 1 + 1, o3) :: (L + 1 + 1, o2) :: (L + 1, o1) :: ((Os.map PE.tup ++ P.map PE.tup) ++ own))) from N6) rfl (UpdF.head ?hne) hx5 fun h7 o6 F7 N7 ce6 => ?_)
    case hne =>
      intro x hx
      have hx' : x ∈ ((Bg, W.listOf us9.toArray k9) :: (d, o) :: (L + 1 + 1 + 1, o3) :: (L + 1 + 1, o2) :: (L + 1, o1) :: (Os.map PE.tup ++ P.map PE.tup)) ++ own := hx
      rcases List.mem_append.mp hx' with hx | hx
      · exact hx4 x hx
      · exact hoff x hx _ (.head _)
    exact turn8 hb0 B X T GL F7 N7 hoff hO hn ce3 ce6 lo hbs hperm hO9 hm hP hIb het ⟨_, _, rfl⟩
  case ld8 =>
    rintro m₁ _ h6 tk6 ⟨hm8, o5, x5, rfl, hx5⟩ F6 N6
    have F5 := Eq.subst (motive := fun x => Fr _ _ h6 x) (frame2b hm8) F6
    clear F6
    (try dsimp only at F5)
    generalize m₁ (Str.ofString "heard") = hv2 at F5
    generalize m₁ (Str.ofString "held") = hv1 at F5
    (try dsimp only)
    refine wpX_execs_cons (wpX_of0 (wpX_For ?_))
    k_steps
    refine Stop.go (forG_listM (h₀ := h₀) (its := us9.toArray) (k := k9)
      (fun m₀ i m₁ nx => (∀ z, z ≠ Str.ofString "begun" → z ≠ Str.ofString "count" → z ≠ Str.ofString "span" → m₁ z = m₀ z) ∧ nx = (L + 1 + 1 + 1, o3) :: [])
      (news := [(L + 1 + 1 + 1, o3)]) (show Fr _ _ _ _ by k_asm) (newsDrop N6 (List.forall_mem_cons.mpr ⟨.tail _ (.head _), List.forall_mem_cons.mpr ⟨.tail _ (.tail _ (.tail _ (.head _))), List.forall_mem_nil _⟩⟩)) (List.forall_mem_cons.mpr ⟨hxB, List.forall_mem_nil _⟩) rfl ?lj9 ?lt9 ?ld9)
    case lj9 => exact ⟨fun _ _ _ _ => rfl, rfl⟩
    case lt9 =>
      rintro i v m₁ _ h5 tk5 own hv hoff ⟨hm9, rfl⟩ F4 N4
      have F3 := Eq.subst (motive := fun x => Fr _ _ h5 x) (frame3 hm9) F4
      clear F4
      (try dsimp only at F3)
      generalize m₁ (Str.ofString "begun") = bg at F3
      generalize m₁ (Str.ofString "count") = cv1 at F3
      generalize m₁ (Str.ofString "span") = cv2 at F3
      obtain ⟨n9, t9, hn9, rfl⟩ := ints_at hIb hv
      have hlt : i < nsub ws.length most := by
        rw [List.getElem?_map] at hn9
        obtain ⟨y, hy, _⟩ := Option.map_eq_some_iff.mp hn9
        have := (List.getElem?_eq_some_iff.mp hy).1
        simpa using this
      have e9 : n9 = offs ws most i := by
        rw [List.getElem?_map, List.getElem?_range hlt] at hn9
        exact (Option.some.inj hn9).symm
      subst e9
      refine wpAny_assign_Name (storeX_L F3 N4 fun h4 F2 N2 => ?_)
      exact turn9 hb0 B X T GL F2 N2 hoff ce3 hbs hO9 hlt ⟨_, _, rfl⟩
    case ld9 =>
      rintro m₁ _ h5 tk5 ⟨hm9, rfl⟩ F4 N4
      (try dsimp only)
      refine wpX_execs_cons (wpX_of ?_)
      k_steps
      exact hret _ _ _ (by k_asm)
end

end PB
namespace PB
theorem fresh40 : (if True then True else True) := by
  w_top off
  try (walk1; trivial)
  try simp
section
variable {w : World} {mean : ExcName → Option Value} {mg mb : Str → Option Value} {h₀ : Heap} {L fa : Addr} {cd : Value} {s : Shared} {Q : Flow → Shared → Prop} {E : Value → Shared → Prop}
variable {d S p q : Addr} {o o1 o2 o3 o4 : Obj} {us ys : List Value} {ns : List Int} {kS kq k : Nat} {a b : Int} {t u : Tok} {P : List PE} {olap x3 x4 : Option Value} {mm : FMap}
/-- the other drawn pairs behind i turns -/
structure LO (Os : List PE) (a a' : Int) (i : Nat) (as : List Addr) : Prop where
  ln : Os.length = i
  a0 : a ≤ a'
  a1 : a' ≤ a + 2 * (i : Int)
  ap : ∀ e ∈ Os, ∀ x ∈ as, e.ad ≠ x
theorem LO.add {Os : List PE} {a a' a9 : Int} {i : Nat} {as : List Addr} {e : PE} (g : LO Os a a' i as) (h0 : a' ≤ a9) (h1 : a9 ≤ a' + 2) (he : ∀ x ∈ as, e.ad ≠ x) : LO (Os ++ [e]) a a9 (i + 1) as := by
  refine ⟨by rw [List.length_append, g.ln]; rfl, by have := g.a0; omega, by have := g.a1; omega, fun x hx => ?_⟩
  rcases List.mem_append.mp hx with hx | hx
  · exact g.ap x hx
  · rw [List.mem_singleton.mp hx]; exact he
theorem len4 {D : List Int} {ws : List PE} {most : Nat} (O : Octs D ws most) : 4 ≤ D.length := by
  have h := O.len
  have h2 : 4 ≤ offs ws most (nsub ws.length most) := by
    unfold offs allW
    rw [List.length_append]
    show 4 ≤ 2 * (((2 + _ : Nat)) : Int)
    omega
  omega
theorem rest5 {ps : Arguments} {s0 s1 s2 s4 s5 s6 s7 s10 : Stmt} {t3 i3 t8 i8 t9 i9 : Expr} {b3 e3 b8 e8 b9 e9 : List Stmt} {p3 p8 p9 : Pos} {sc : Scope} (hb : PySem.Challenge.rw_pb0162_01.row.prog.theDef (Str.ofString "law") = some (ps, [s0, s1, s2, .For t3 i3 b3 e3 p3, s4, s5, s6, s7, .For t8 i8 b8 e8 p8, .For t9 i9 b9 e9 p9, s10], sc)) (B : Below callerA h₀ [] h₀) (X : (hd.heap_1 w.params).In h₀) (T : Top hd.view_1 (looseW hd.view_1 [Str.ofString "ShapeError", Str.ofString "write_kern"]) mean mg mb h₀) (GL : Glob 0 mg mb (List.map itemOf (recsOf hd.view_1)) (scalarsOf [] ++ constsW hd.view_1) [] (namesW hd.view_1 [Str.ofString "ShapeError", Str.ofString "write_kern"]) h₀)
  (F : Fr h₀ L s.heap (fun y => if y = Str.ofString "lap" then olap else if y = Str.ofString "pairs" then some (.ref d) else mm y))
  (N : News h₀ L s.heap ((d, o) :: (S, W.listOf us.toArray kS) :: (p, penO q a b t u k) :: (q, W.listOf ys.toArray kq) :: (L + 1 + 1 + 1 + 1, o4) :: (L + 1 + 1 + 1, o3) :: (L + 1 + 1, o2) :: (L + 1, o1) :: P.map PE.tup)) (hO : DictP w o P) (hL : LG P a 13 (d :: S :: p :: q :: [L + 1 + 1 + 1 + 1, L + 1 + 1 + 1, L + 1 + 1, L + 1])) (ce1 : o1.data = .cell (some (.ref p))) (ce2 : o2.data = .cell (some (.ref S))) (ce4 : o4.data = .cell x4) (lo : (d == sysModules) = false) (hns : ns.length ≤ 40) (hI : IntsAre ys ns) (hS : IntsAre us [0, 1, 2, 3, 255, 256, 65535]) (hA : Apart d S p q [L + 1 + 1 + 1 + 1, L + 1 + 1 + 1, L + 1 + 1, L + 1])
  (hret : ∀ m' h' tk', Fr h₀ L h' m' → Q (.ret (.bool true)) { s with heap := h', toks := tk' }) {bs : Array UInt8} {bt : Tok} {ws : List PE} {most : Nat} (ce3 : o3.data = .cell (some (.bytes bs bt))) (hbs : KBw.bInts bs = encAll ws most) (hperm : ws.Perm P) (hO9 : Octs (encAll ws most) ws most) (hm : 1 ≤ most) :
  wpX (model PySem.Challenge.rw_pb0162_01.row.prog w) (callerA.deeper (envOfC (Str.ofString "law") sc L fa cd)) (execs [s5, s6, s7, .For t8 i8 b8 e8 p8, .For t9 i9 b9 e9 p9, s10] (envOfC (Str.ofString "law") sc L fa cd)) Q E s := by
  k_with_none
  (k_with "call ref" => (k_here; (with_reducible show wpAny _ _ (call (Value.ref 191) [Value.ref _, Value.int _ _]) _ _ _); (refine Stop.out ?_)))
  (k_with "call ref" => (k_here; (with_reducible show wpAny _ _ (call (Value.ref 198) [Value.ref _, Value.ref _]) _ _ _); (refine Stop.out ?_)))
  (k_with "pyIter ref" => (refine Stop.out ?_))
  (k_with "compareOp Eq ref ref" => (refine Stop.out ?_))
  (k_with "CompSrc" => (refine Stop.out ?_))
  (k_with "SrcS" => (refine Stop.out ?_))
  (k_with "CompEnd" => (refine Stop.out ?_))
  revert X; k_fill; intro X
  have hb0 := hb
  injection hb with hb
  injection hb with _ hb
  injection hb with hb hsc
  injection hb with h09 hb
  injection hb with h19 hb
  injection hb with h29 hb
  injection hb with h39 hb
  injection hb with h49 hb
  injection hb with h59 hb
  injection hb with h69 hb
  injection hb with h79 hb
  injection hb with h89 hb
  injection hb with h99 hb
  injection hb with h109 hb
  injection h39 with h3a h3b h3c h3d h3e
  injection h89 with h8a h8b h8c h8d h8e
  injection h99 with h9a h9b h9c h9d h9e
  subst hsc h09 h19 h29 h49 h59 h69 h79 h109 h3a h3b h3c h3d h3e h8a h8b h8c h8d h8e h9a h9b h9c h9d h9e
  clear hb
  have hP : P.length < 16 := by have := hL.ln; omega
  have hwl : ws.length = P.length := hperm.length_eq
  have hnl := nsub_le (n := ws.length) hm
  refine wpX_execs_cons (wpX_Assign_Name (wpX_Call ?_))
  k_steps
  refine callWith_XK (K := hd.heap_1 w.params) rfl ?_
  k_steps
  refine wpX_of0 ?_
  k_dflt (refine' begins_tells hbs hO9 (len4 hO9) ?z2 ?kB ?kF ?kX ?kN ?kT ?kk ?kr ?ku ?_; (case kB => k_asm); (case kF => k_asm); (case kX => k_asm); (case kN => k_asm); (case kT => k_asm); (case kk => first | exact rfl | assumption); (case kr => ktr_room); (case ku => ktr_units))
  case z2 => rw [hO9.cnt]; omega
  intro Bg us9 k9 h4 tk4 hIb F4 N4 lb
  (try dsimp only)
  k_steps
  refine wpX_execs_cons (wpX_of ?_)
  k_steps
  refine Stop.go (ints_eq_nil (vs := us9) (kq := k9) (show News _ _ _ _ by k_asm) (.tail _ (.head _)) (.head _) hIb (by ktr_units) ?_)
  (try dsimp only)
  have hz0 : decide ((List.range (nsub ws.length most)).map (offs ws most) = []) = decide (P = []) := by
    refine decide_eq_decide.mpr ?_
    rw [List.map_eq_nil_iff, List.range_eq_nil]
    constructor
    · intro hn
      have := chunks_all (ws := ws) hm
      rw [hn] at this
      exact List.eq_nil_of_length_eq_zero (by rw [← hwl, ← this]; rfl)
    · intro hp
      subst hp
      rw [List.length_nil] at hwl
      omega
  rw [hz0]
  k_steps
  refine Stop.go (pairs_eq_nil (P := P) (oa := o) (show News _ _ _ _ by k_asm) lo (by assumption) (by (repeat (first | assumption | exact List.Mem.head _ | refine List.Mem.tail _ ?_ | refine List.mem_append_left _ ?_))) (.head _) hO (by assumption) (by ktr_units) ?_)
  (try dsimp only)
  clear hz0
  generalize decide (P = []) = z0
  k_steps
  · rename_i hz
    cases z0 <;> cases hz
  (try dsimp only)
  refine wpX_execs_cons (wpX_of ?_)
  k_steps
  have hLB : LG P a 13 (Bg :: (d :: S :: p :: q :: [L + 1 + 1 + 1 + 1, L + 1 + 1 + 1, L + 1 + 1, L + 1])) := ⟨hL.nd, hL.rg, hL.ln, hL.a0, hL.a1, fun e he => List.forall_mem_cons.mpr ⟨Nat.ne_of_lt (lb _ (.tail _ (.tail _ (.tail _ (.tail _ (.tail _ (.tail _ (.tail _ (.tail _ (List.mem_map_of_mem he)))))))))), hL.ap e he⟩⟩
  refine Stop.go (LCg.CompSrc.range (n := 5) (news := (Bg, W.listOf us9.toArray k9) :: (d, o) :: (S, W.listOf us.toArray kS) :: (p, penO q a b t u k) :: (q, W.listOf ys.toArray kq) :: (L + 1 + 1 + 1 + 1, o4) :: (L + 1 + 1 + 1, o3) :: (L + 1 + 1, o2) :: (L + 1, o1) :: P.map PE.tup) (by rfl) (by k_asm) (newsDrop (by k_asm) (by ((repeat (refine List.forall_mem_cons.mpr (And.intro (by (repeat (first | exact List.Mem.head _ | refine List.Mem.tail _ ?_))) ?_))); intro p9 hp9; (repeat' (first | exact hp9 | refine List.Mem.tail _ ?_ | refine List.mem_append_left _ ?_))))) (by assumption) (by decide) (by decide) (by rw [PySem.sizeLine_eq]; omega) fun g9 => ?_)
  refine CompRest_inv (fun i zs nw => ∃ Os a5 b5 t5 u5 k5, zs = (Os.map fun e : PE => Value.ref e.ad) ∧ nw = (Bg, W.listOf us9.toArray k9) :: (d, o) :: (S, W.listOf us.toArray kS) :: (p, penO q a5 b5 t5 u5 k5) :: (q, W.listOf ys.toArray kq) :: (L + 1 + 1 + 1 + 1, o4) :: (L + 1 + 1 + 1, o3) :: (L + 1 + 1, o2) :: (L + 1, o1) :: (Os.map PE.tup ++ P.map PE.tup) ∧ LO Os a a5 i (Bg :: (d :: S :: p :: q :: [L + 1 + 1 + 1 + 1, L + 1 + 1 + 1, L + 1 + 1, L + 1]))) _ ⟨[], a, b, t, u, k, rfl, rfl, ⟨rfl, Int.le_refl _, by omega, fun _ h => nomatch h⟩⟩ ?cr1 ?cr2
  case cr1 =>
    rintro i zs _ v' I' oI' C' oC' D' m' h9 tk9 E' hlt ⟨Os, a5, b5, t5, u5, k5, rfl, rfl, hLO⟩ hv' hC' hx' F9 N9 off' ne'
    have hoff := off'.mem
    obtain ⟨nw, hnw⟩ : ∃ nw, Os.map PE.tup ++ P.map PE.tup = nw := ⟨_, rfl⟩
    have hnx : ∀ x ∈ nw, ∀ y ∈ Bg :: (d :: S :: p :: q :: [L + 1 + 1 + 1 + 1, L + 1 + 1 + 1, L + 1 + 1, L + 1]), x.1 ≠ y := fun x hx y hy => by
      rw [← hnw] at hx
      rcases List.mem_append.mp hx with hx | hx
      · obtain ⟨e, he, rfl⟩ := List.mem_map.mp hx
        exact hLO.ap e he y hy
      · obtain ⟨e, he, rfl⟩ := List.mem_map.mp hx
        exact hLB.ap e he y hy
    rw [hnw] at N9 hoff
    have hq3 : ∀ x ∈ [p, S], x ≠ I' ∧ x ≠ C' ∧ x ≠ D' := List.forall_mem_cons.mpr ⟨hoff (p, penO q a5 b5 t5 u5 k5) (by (repeat (first | assumption | exact List.Mem.head _ | refine List.Mem.tail _ ?_ | refine List.mem_append_left _ ?_))), List.forall_mem_cons.mpr ⟨hoff (S, W.listOf us.toArray kS) (by (repeat (first | assumption | exact List.Mem.head _ | refine List.Mem.tail _ ?_ | refine List.mem_append_left _ ?_))), List.forall_mem_nil _⟩⟩
    k_steps
    have hpn : ∀ x ∈ (I', oI') :: (C', oC') :: (D', LCg.lst (Os.map fun e : PE => Value.ref e.ad)) :: (Bg, W.listOf us9.toArray k9) :: (d, o) :: (L + 1 + 1 + 1 + 1, o4) :: (L + 1 + 1 + 1, o3) :: (L + 1 + 1, o2) :: (L + 1, o1) :: nw, x.1 ≠ p := by
      have z := hq3 p (.head _)
      refine List.forall_mem_cons.mpr ⟨Ne.symm z.1, List.forall_mem_cons.mpr ⟨Ne.symm z.2.1, List.forall_mem_cons.mpr ⟨Ne.symm z.2.2, List.forall_mem_cons.mpr ⟨Ne.symm (Nat.ne_of_lt (lb (p, penO q a b t u k) (by (repeat (first | assumption | exact List.Mem.head _ | refine List.Mem.tail _ ?_ | refine List.mem_append_left _ ?_))))), ?_⟩⟩⟩⟩
      ((repeat (refine List.forall_mem_cons.mpr (And.intro (by first | exact hA.hd _ (by (repeat (first | assumption | exact List.Mem.head _ | refine List.Mem.tail _ ?_ | refine List.mem_append_left _ ?_))) | exact Ne.symm (hA.hd _ (by (repeat (first | assumption | exact List.Mem.head _ | refine List.Mem.tail _ ?_ | refine List.mem_append_left _ ?_)))) | exact hA.hS _ (by (repeat (first | assumption | exact List.Mem.head _ | refine List.Mem.tail _ ?_ | refine List.mem_append_left _ ?_))) | exact Ne.symm (hA.hS _ (by (repeat (first | assumption | exact List.Mem.head _ | refine List.Mem.tail _ ?_ | refine List.mem_append_left _ ?_)))) | exact hA.hp _ (by (repeat (first | assumption | exact List.Mem.head _ | refine List.Mem.tail _ ?_ | refine List.mem_append_left _ ?_))) | exact Ne.symm (hA.hp _ (by (repeat (first | assumption | exact List.Mem.head _ | refine List.Mem.tail _ ?_ | refine List.mem_append_left _ ?_)))) | exact hA.hq _ (by (repeat (first | assumption | exact List.Mem.head _ | refine List.Mem.tail _ ?_ | refine List.mem_append_left _ ?_))) | exact Ne.symm (hA.hq _ (by (repeat (first | assumption | exact List.Mem.head _ | refine List.Mem.tail _ ?_ | refine List.mem_append_left _ ?_)))) | k_ne) ?_))); first | exact List.forall_mem_nil _ | exact fun x hx => hnx x hx _ (by (repeat (first | assumption | exact List.Mem.head _ | refine List.Mem.tail _ ?_ | refine List.mem_append_left _ ?_))))
    refine Stop.go ?_
    k_dflt (refine' pick_tells (p := p) (q := q) (a1 := a5) (b1 := b5) (t := t5) (u := u5) (k := k5) (kq := kq) (vs := ys) (S := S) (us := us) (kS := kS) (news := (I', oI') :: (C', oC') :: (D', LCg.lst (Os.map fun e : PE => Value.ref e.ad)) :: (Bg, W.listOf us9.toArray k9) :: (d, o) :: (L + 1 + 1 + 1 + 1, o4) :: (L + 1 + 1 + 1, o3) :: (L + 1 + 1, o2) :: (L + 1, o1) :: nw) ?kB ?kF ?kX ?kN ?kT ?kk ?kr ?ku hI hS (by decide) (by decide) hns ?pa1 ?pb1 (by first | exact hA.hd _ (by (repeat (first | assumption | exact List.Mem.head _ | refine List.Mem.tail _ ?_ | refine List.mem_append_left _ ?_))) | exact Ne.symm (hA.hd _ (by (repeat (first | assumption | exact List.Mem.head _ | refine List.Mem.tail _ ?_ | refine List.mem_append_left _ ?_)))) | exact hA.hS _ (by (repeat (first | assumption | exact List.Mem.head _ | refine List.Mem.tail _ ?_ | refine List.mem_append_left _ ?_))) | exact Ne.symm (hA.hS _ (by (repeat (first | assumption | exact List.Mem.head _ | refine List.Mem.tail _ ?_ | refine List.mem_append_left _ ?_)))) | exact hA.hp _ (by (repeat (first | assumption | exact List.Mem.head _ | refine List.Mem.tail _ ?_ | refine List.mem_append_left _ ?_))) | exact Ne.symm (hA.hp _ (by (repeat (first | assumption | exact List.Mem.head _ | refine List.Mem.tail _ ?_ | refine List.mem_append_left _ ?_)))) | exact hA.hq _ (by (repeat (first | assumption | exact List.Mem.head _ | refine List.Mem.tail _ ?_ | refine List.mem_append_left _ ?_))) | exact Ne.symm (hA.hq _ (by (repeat (first | assumption | exact List.Mem.head _ | refine List.Mem.tail _ ?_ | refine List.mem_append_left _ ?_)))) | k_ne) (by first | exact hA.hd _ (by (repeat (first | assumption | exact List.Mem.head _ | refine List.Mem.tail _ ?_ | refine List.mem_append_left _ ?_))) | exact Ne.symm (hA.hd _ (by (repeat (first | assumption | exact List.Mem.head _ | refine List.Mem.tail _ ?_ | refine List.mem_append_left _ ?_)))) | exact hA.hS _ (by (repeat (first | assumption | exact List.Mem.head _ | refine List.Mem.tail _ ?_ | refine List.mem_append_left _ ?_))) | exact Ne.symm (hA.hS _ (by (repeat (first | assumption | exact List.Mem.head _ | refine List.Mem.tail _ ?_ | refine List.mem_append_left _ ?_)))) | exact hA.hp _ (by (repeat (first | assumption | exact List.Mem.head _ | refine List.Mem.tail _ ?_ | refine List.mem_append_left _ ?_))) | exact Ne.symm (hA.hp _ (by (repeat (first | assumption | exact List.Mem.head _ | refine List.Mem.tail _ ?_ | refine List.mem_append_left _ ?_)))) | exact hA.hq _ (by (repeat (first | assumption | exact List.Mem.head _ | refine List.Mem.tail _ ?_ | refine List.mem_append_left _ ?_))) | exact Ne.symm (hA.hq _ (by (repeat (first | assumption | exact List.Mem.head _ | refine List.Mem.tail _ ?_ | refine List.mem_append_left _ ?_)))) | k_ne) hpn ?_; (case kN => exact newsDrop (by k_asm) (by ((repeat (refine List.forall_mem_cons.mpr (And.intro (by (repeat (first | exact List.Mem.head _ | refine List.Mem.tail _ ?_))) ?_))); intro p9 hp9; (repeat' (first | exact hp9 | refine List.Mem.tail _ ?_ | refine List.mem_append_left _ ?_))))); (case kB => k_asm); (case kF => k_asm); (case kX => k_asm); (case kT => k_asm); (case kk => first | exact rfl | assumption); (case kr => ktr_room); (case ku => ktr_units))
    case pa1 => have := hL.a0; have := hLO.a0; omega
    case pb1 => have := hL.a1; have := hLO.a1; omega
    intro r2 s2 a6 b6 t6 u6 k6 h7 tk7 hr2' hb1 hb2 F7 N7
    (try dsimp only)
    k_steps
    refine Stop.go ?_
    k_dflt (refine' pick_tells (p := p) (q := q) (a1 := a6) (b1 := b6) (t := t6) (u := u6) (k := k6) (kq := kq) (vs := ys) (S := S) (us := us) (kS := kS) (news := (I', oI') :: (C', oC') :: (D', LCg.lst (Os.map fun e : PE => Value.ref e.ad)) :: (Bg, W.listOf us9.toArray k9) :: (d, o) :: (L + 1 + 1 + 1 + 1, o4) :: (L + 1 + 1 + 1, o3) :: (L + 1 + 1, o2) :: (L + 1, o1) :: nw) ?kB ?kF ?kX ?kN ?kT ?kk ?kr ?ku hI hS (by decide) (by decide) hns ?pa2 ?pb2 (by first | exact hA.hd _ (by (repeat (first | assumption | exact List.Mem.head _ | refine List.Mem.tail _ ?_ | refine List.mem_append_left _ ?_))) | exact Ne.symm (hA.hd _ (by (repeat (first | assumption | exact List.Mem.head _ | refine List.Mem.tail _ ?_ | refine List.mem_append_left _ ?_)))) | exact hA.hS _ (by (repeat (first | assumption | exact List.Mem.head _ | refine List.Mem.tail _ ?_ | refine List.mem_append_left _ ?_))) | exact Ne.symm (hA.hS _ (by (repeat (first | assumption | exact List.Mem.head _ | refine List.Mem.tail _ ?_ | refine List.mem_append_left _ ?_)))) | exact hA.hp _ (by (repeat (first | assumption | exact List.Mem.head _ | refine List.Mem.tail _ ?_ | refine List.mem_append_left _ ?_))) | exact Ne.symm (hA.hp _ (by (repeat (first | assumption | exact List.Mem.head _ | refine List.Mem.tail _ ?_ | refine List.mem_append_left _ ?_)))) | exact hA.hq _ (by (repeat (first | assumption | exact List.Mem.head _ | refine List.Mem.tail _ ?_ | refine List.mem_append_left _ ?_))) | exact Ne.symm (hA.hq _ (by (repeat (first | assumption | exact List.Mem.head _ | refine List.Mem.tail _ ?_ | refine List.mem_append_left _ ?_)))) | k_ne) (by first | exact hA.hd _ (by (repeat (first | assumption | exact List.Mem.head _ | refine List.Mem.tail _ ?_ | refine List.mem_append_left _ ?_))) | exact Ne.symm (hA.hd _ (by (repeat (first | assumption | exact List.Mem.head _ | refine List.Mem.tail _ ?_ | refine List.mem_append_left _ ?_)))) | exact hA.hS _ (by (repeat (first | assumption | exact List.Mem.head _ | refine List.Mem.tail _ ?_ | refine List.mem_append_left _ ?_))) | exact Ne.symm (hA.hS _ (by (repeat (first | assumption | exact List.Mem.head _ | refine List.Mem.tail _ ?_ | refine List.mem_append_left _ ?_)))) | exact hA.hp _ (by (repeat (first | assumption | exact List.Mem.head _ | refine List.Mem.tail _ ?_ | refine List.mem_append_left _ ?_))) | exact Ne.symm (hA.hp _ (by (repeat (first | assumption | exact List.Mem.head _ | refine List.Mem.tail _ ?_ | refine List.mem_append_left _ ?_)))) | exact hA.hq _ (by (repeat (first | assumption | exact List.Mem.head _ | refine List.Mem.tail _ ?_ | refine List.mem_append_left _ ?_))) | exact Ne.symm (hA.hq _ (by (repeat (first | assumption | exact List.Mem.head _ | refine List.Mem.tail _ ?_ | refine List.mem_append_left _ ?_)))) | k_ne) hpn ?_; (case kN => exact newsDrop (by k_asm) (by ((repeat (refine List.forall_mem_cons.mpr (And.intro (by (repeat (first | exact List.Mem.head _ | refine List.Mem.tail _ ?_))) ?_))); intro p9 hp9; (repeat' (first | exact hp9 | refine List.Mem.tail _ ?_ | refine List.mem_append_left _ ?_))))); (case kB => k_asm); (case kF => k_asm); (case kX => k_asm); (case kT => k_asm); (case kk => first | exact rfl | assumption); (case kr => ktr_room); (case ku => ktr_units))
    case pa2 => have := hL.a0; have := hLO.a0; omega
    case pb2 => have := hL.a1; have := hLO.a1; omega
    intro r3 s3 a7 b7 t7 u7 k7 h8 tk8 hr3' hc1 hc2 F8 N8
    have fr8 := news_ne N8
    (try dsimp only)
    k_steps
    rename_i hT FT NT hk9 nm9
    clear nm9
    refine Stop.go (LCg.CompEnd.intro FT NT ((Bg, W.listOf us9.toArray k9) :: (d, o) :: (S, W.listOf us.toArray kS) :: (p, penO q a7 b7 t7 u7 k7) :: (q, W.listOf ys.toArray kq) :: (L + 1 + 1 + 1 + 1, o4) :: (L + 1 + 1 + 1, o3) :: (L + 1 + 1, o2) :: (L + 1, o1) :: ((Os ++ [(⟨h8.objs.size, (r2, r3), s2, s3, 0, 0⟩ : PE)]).map PE.tup ++ P.map PE.tup)) ?sub1 ?off1 trivial ⟨Os ++ [⟨h8.objs.size, (r2, r3), s2, s3, 0, 0⟩], a7, b7, t7, u7, k7, by rw [List.map_append]; rfl, rfl, hLO.add (by omega) (by omega) ?ap1⟩)
    case sub1 =>
      (repeat (refine List.forall_mem_cons.mpr (And.intro (by (repeat (first | exact List.Mem.head _ | refine List.Mem.tail _ ?_))) ?_)))
      intro x hx
      rcases List.mem_append.mp hx with hx | hx
      · rw [List.map_append] at hx
        rcases List.mem_append.mp hx with hx | hx
        · exact .tail _ (.tail _ (.tail _ (.tail _ (.tail _ (.tail _ (.tail _ (.tail _ (.tail _ (.tail _ (.tail _ (.tail _ (.tail _ (hnw ▸ List.mem_append_left _ hx)))))))))))))
        · rw [List.map_cons, List.map_nil, List.mem_singleton] at hx
          subst hx
          exact .head _
      · exact .tail _ (.tail _ (.tail _ (.tail _ (.tail _ (.tail _ (.tail _ (.tail _ (.tail _ (.tail _ (.tail _ (.tail _ (.tail _ (hnw ▸ List.mem_append_right _ hx)))))))))))))
    case off1 =>
      refine LCg.Off3.of ?_
      refine List.forall_mem_cons.mpr ⟨hoff (Bg, W.listOf us9.toArray k9) (by (repeat (first | assumption | exact List.Mem.head _ | refine List.Mem.tail _ ?_ | refine List.mem_append_left _ ?_))), ?_⟩
      refine List.forall_mem_cons.mpr ⟨hoff (d, o) (by (repeat (first | assumption | exact List.Mem.head _ | refine List.Mem.tail _ ?_ | refine List.mem_append_left _ ?_))), ?_⟩
      refine List.forall_mem_cons.mpr ⟨hoff (S, W.listOf us.toArray kS) (by (repeat (first | assumption | exact List.Mem.head _ | refine List.Mem.tail _ ?_ | refine List.mem_append_left _ ?_))), ?_⟩
      refine List.forall_mem_cons.mpr ⟨hq3 p (.head _), ?_⟩
      refine List.forall_mem_cons.mpr ⟨hoff (q, W.listOf ys.toArray kq) (by (repeat (first | assumption | exact List.Mem.head _ | refine List.Mem.tail _ ?_ | refine List.mem_append_left _ ?_))), ?_⟩
      refine List.forall_mem_cons.mpr ⟨hoff (L + 1 + 1 + 1 + 1, o4) (by (repeat (first | assumption | exact List.Mem.head _ | refine List.Mem.tail _ ?_ | refine List.mem_append_left _ ?_))), ?_⟩
      refine List.forall_mem_cons.mpr ⟨hoff (L + 1 + 1 + 1, o3) (by (repeat (first | assumption | exact List.Mem.head _ | refine List.Mem.tail _ ?_ | refine List.mem_append_left _ ?_))), ?_⟩
      refine List.forall_mem_cons.mpr ⟨hoff (L + 1 + 1, o2) (by (repeat (first | assumption | exact List.Mem.head _ | refine List.Mem.tail _ ?_ | refine List.mem_append_left _ ?_))), ?_⟩
      refine List.forall_mem_cons.mpr ⟨hoff (L + 1, o1) (by (repeat (first | assumption | exact List.Mem.head _ | refine List.Mem.tail _ ?_ | refine List.mem_append_left _ ?_))), ?_⟩
      intro x hx
      rcases List.mem_append.mp hx with hx | hx
      · rw [List.map_append] at hx
        rcases List.mem_append.mp hx with hx | hx
        · exact hoff x (.tail _ (.tail _ (.tail _ (.tail _ (.tail _ (.tail _ (.tail _ (.tail _ (.tail _ (hnw ▸ List.mem_append_left _ hx))))))))))
        · rw [List.map_cons, List.map_nil, List.mem_singleton] at hx
          subst hx
          exact ⟨Ne.symm (fr8 (I', oI') (by (repeat (first | assumption | exact List.Mem.head _ | refine List.Mem.tail _ ?_ | refine List.mem_append_left _ ?_)))), Ne.symm (fr8 (C', oC') (by (repeat (first | assumption | exact List.Mem.head _ | refine List.Mem.tail _ ?_ | refine List.mem_append_left _ ?_)))), Ne.symm (fr8 (D', LCg.lst (Os.map fun e : PE => Value.ref e.ad)) (by (repeat (first | assumption | exact List.Mem.head _ | refine List.Mem.tail _ ?_ | refine List.mem_append_left _ ?_))))⟩
      · exact hoff x (.tail _ (.tail _ (.tail _ (.tail _ (.tail _ (.tail _ (.tail _ (.tail _ (.tail _ (hnw ▸ List.mem_append_right _ hx))))))))))
    case ap1 =>
      refine List.forall_mem_cons.mpr ⟨Ne.symm (fr8 (Bg, W.listOf us9.toArray k9) (by (repeat (first | assumption | exact List.Mem.head _ | refine List.Mem.tail _ ?_ | refine List.mem_append_left _ ?_)))), ?_⟩
      refine List.forall_mem_cons.mpr ⟨Ne.symm (fr8 (d, o) (by (repeat (first | assumption | exact List.Mem.head _ | refine List.Mem.tail _ ?_ | refine List.mem_append_left _ ?_)))), ?_⟩
      refine List.forall_mem_cons.mpr ⟨Ne.symm (fr8 (S, W.listOf us.toArray kS) (by (repeat (first | assumption | exact List.Mem.head _ | refine List.Mem.tail _ ?_ | refine List.mem_append_left _ ?_)))), ?_⟩
      refine List.forall_mem_cons.mpr ⟨Ne.symm (fr8 (p, penO q a7 b7 t7 u7 k7) (by (repeat (first | assumption | exact List.Mem.head _ | refine List.Mem.tail _ ?_ | refine List.mem_append_left _ ?_)))), ?_⟩
      refine List.forall_mem_cons.mpr ⟨Ne.symm (fr8 (q, W.listOf ys.toArray kq) (by (repeat (first | assumption | exact List.Mem.head _ | refine List.Mem.tail _ ?_ | refine List.mem_append_left _ ?_)))), ?_⟩
      refine List.forall_mem_cons.mpr ⟨Ne.symm (fr8 (L + 1 + 1 + 1 + 1, o4) (by (repeat (first | assumption | exact List.Mem.head _ | refine List.Mem.tail _ ?_ | refine List.mem_append_left _ ?_)))), ?_⟩
      refine List.forall_mem_cons.mpr ⟨Ne.symm (fr8 (L + 1 + 1 + 1, o3) (by (repeat (first | assumption | exact List.Mem.head _ | refine List.Mem.tail _ ?_ | refine List.mem_append_left _ ?_)))), ?_⟩
      refine List.forall_mem_cons.mpr ⟨Ne.symm (fr8 (L + 1 + 1, o2) (by (repeat (first | assumption | exact List.Mem.head _ | refine List.Mem.tail _ ?_ | refine List.mem_append_left _ ?_)))), ?_⟩
      refine List.forall_mem_cons.mpr ⟨Ne.symm (fr8 (L + 1, o1) (by (repeat (first | assumption | exact List.Mem.head _ | refine List.Mem.tail _ ?_ | refine List.mem_append_left _ ?_)))), ?_⟩
      exact List.forall_mem_nil _
  case cr2 =>
    rintro zs _ ⟨Os, a5, b5, t5, u5, k5, rfl, rfl, hLO⟩
    unfold LCg.FinA
    intro D h9 tk9 F9 N9 o9
    (try dsimp only)
    refine rest8 hb0 B X T GL (Os := Os) (k9 := k9) (kD := (Os.map fun e : PE => Value.ref e.ad).length) F9 (newsDrop N9 (by ((repeat (refine List.forall_mem_cons.mpr (And.intro (by (repeat (first | exact List.Mem.head _ | refine List.Mem.tail _ ?_))) ?_))); intro p9 hp9; (repeat' (first | exact hp9 | refine List.Mem.tail _ ?_ | refine List.mem_append_left _ ?_))))) ?hx4 (Nat.ne_of_lt (lb (L + 1 + 1 + 1, o3) (by (repeat (first | assumption | exact List.Mem.head _ | refine List.Mem.tail _ ?_ | refine List.mem_append_left _ ?_))))) hO hL.nd hL.rg ce3 ce4 lo hbs hperm hO9 hm hP (by have := hLO.ln; omega) hIb hret
    case hx4 =>
      refine List.forall_mem_cons.mpr ⟨Ne.symm (Nat.ne_of_lt (lb (L + 1 + 1 + 1 + 1, o4) (by (repeat (first | assumption | exact List.Mem.head _ | refine List.Mem.tail _ ?_ | refine List.mem_append_left _ ?_))))), List.forall_mem_cons.mpr ⟨(by first | exact hA.hd _ (by (repeat (first | assumption | exact List.Mem.head _ | refine List.Mem.tail _ ?_ | refine List.mem_append_left _ ?_))) | exact Ne.symm (hA.hd _ (by (repeat (first | assumption | exact List.Mem.head _ | refine List.Mem.tail _ ?_ | refine List.mem_append_left _ ?_)))) | exact hA.hS _ (by (repeat (first | assumption | exact List.Mem.head _ | refine List.Mem.tail _ ?_ | refine List.mem_append_left _ ?_))) | exact Ne.symm (hA.hS _ (by (repeat (first | assumption | exact List.Mem.head _ | refine List.Mem.tail _ ?_ | refine List.mem_append_left _ ?_)))) | exact hA.hp _ (by (repeat (first | assumption | exact List.Mem.head _ | refine List.Mem.tail _ ?_ | refine List.mem_append_left _ ?_))) | exact Ne.symm (hA.hp _ (by (repeat (first | assumption | exact List.Mem.head _ | refine List.Mem.tail _ ?_ | refine List.mem_append_left _ ?_)))) | exact hA.hq _ (by (repeat (first | assumption | exact List.Mem.head _ | refine List.Mem.tail _ ?_ | refine List.mem_append_left _ ?_))) | exact Ne.symm (hA.hq _ (by (repeat (first | assumption | exact List.Mem.head _ | refine List.Mem.tail _ ?_ | refine List.mem_append_left _ ?_)))) | k_ne), List.forall_mem_cons.mpr ⟨by k_ne, List.forall_mem_cons.mpr ⟨by k_ne, List.forall_mem_cons.mpr ⟨by k_ne, ?_⟩⟩⟩⟩⟩
      intro x hx
      rcases List.mem_append.mp hx with hx | hx
      · obtain ⟨e, he, rfl⟩ := List.mem_map.mp hx
        exact hLO.ap e he _ (by (repeat (first | assumption | exact List.Mem.head _ | refine List.Mem.tail _ ?_ | refine List.mem_append_left _ ?_)))
      · obtain ⟨e, he, rfl⟩ := List.mem_map.mp hx
        exact hLB.ap e he _ (by (repeat (first | assumption | exact List.Mem.head _ | refine List.Mem.tail _ ?_ | refine List.mem_append_left _ ?_)))
end

end PB
namespace PB
theorem fresh41 : (if True then True else True) := by
  w_top off
  try (walk1; trivial)
  try simp
section
variable {w : World} {mean : ExcName → Option Value} {mg mb : Str → Option Value} {h₀ : Heap} {L fa : Addr} {cd : Value} {s : Shared} {Q : Flow → Shared → Prop} {E : Value → Shared → Prop}
variable {d S p q : Addr} {o o1 o2 o3 o4 : Obj} {us ys : List Value} {ns : List Int} {kS kq k : Nat} {a b : Int} {t u : Tok} {P : List PE} {olap x3 x4 : Option Value} {mm : FMap}
theorem rest4 {ps : Arguments} {s0 s1 s2 s4 s5 s6 s7 s10 : Stmt} {t3 i3 t8 i8 t9 i9 : Expr} {b3 e3 b8 e8 b9 e9 : List Stmt} {p3 p8 p9 : Pos} {sc : Scope} (hb : PySem.Challenge.rw_pb0162_01.row.prog.theDef (Str.ofString "law") = some (ps, [s0, s1, s2, .For t3 i3 b3 e3 p3, s4, s5, s6, s7, .For t8 i8 b8 e8 p8, .For t9 i9 b9 e9 p9, s10], sc)) (B : Below callerA h₀ [] h₀) (X : (hd.heap_1 w.params).In h₀) (T : Top hd.view_1 (looseW hd.view_1 [Str.ofString "ShapeError", Str.ofString "write_kern"]) mean mg mb h₀) (GL : Glob 0 mg mb (List.map itemOf (recsOf hd.view_1)) (scalarsOf [] ++ constsW hd.view_1) [] (namesW hd.view_1 [Str.ofString "ShapeError", Str.ofString "write_kern"]) h₀)
  (F : Fr h₀ L s.heap (fun y => if y = Str.ofString "lap" then olap else if y = Str.ofString "pairs" then some (.ref d) else mm y))
  (N : News h₀ L s.heap ((d, o) :: (S, W.listOf us.toArray kS) :: (p, penO q a b t u k) :: (q, W.listOf ys.toArray kq) :: (L + 1 + 1 + 1 + 1, o4) :: (L + 1 + 1 + 1, o3) :: (L + 1 + 1, o2) :: (L + 1, o1) :: P.map PE.tup)) (hO : DictP w o P) (hL : LG P a 12 (d :: S :: p :: q :: [L + 1 + 1 + 1 + 1, L + 1 + 1 + 1, L + 1 + 1, L + 1])) (ce1 : o1.data = .cell (some (.ref p))) (ce2 : o2.data = .cell (some (.ref S))) (ce3 : o3.data = .cell x3) (ce4 : o4.data = .cell x4) (lo : (d == sysModules) = false) (hns : ns.length ≤ 40) (hI : IntsAre ys ns) (hS : IntsAre us [0, 1, 2, 3, 255, 256, 65535]) (hA : Apart d S p q [L + 1 + 1 + 1 + 1, L + 1 + 1 + 1, L + 1 + 1, L + 1])
  (hret : ∀ m' h' tk', Fr h₀ L h' m' → Q (.ret (.bool true)) { s with heap := h', toks := tk' }) :
  wpX (model PySem.Challenge.rw_pb0162_01.row.prog w) (callerA.deeper (envOfC (Str.ofString "law") sc L fa cd)) (execs [s4, s5, s6, s7, .For t8 i8 b8 e8 p8, .For t9 i9 b9 e9 p9, s10] (envOfC (Str.ofString "law") sc L fa cd)) Q E s := by
  k_with_none
  (k_with "call ref" => (k_here; (with_reducible show wpAny _ _ (call (Value.ref 191) [Value.ref _, Value.int _ _]) _ _ _); (refine Stop.out ?_)))
  (k_with "call ref" => (k_here; (with_reducible show wpAny _ _ (call (Value.ref 198) [Value.ref _, Value.ref _]) _ _ _); (refine Stop.out ?_)))
  (k_with "pyIter ref" => (refine Stop.out ?_))
  revert X; k_fill; intro X
  have hb0 := hb
  injection hb with hb
  injection hb with _ hb
  injection hb with hb hsc
  injection hb with h09 hb
  injection hb with h19 hb
  injection hb with h29 hb
  injection hb with h39 hb
  injection hb with h49 hb
  injection hb with h59 hb
  injection hb with h69 hb
  injection hb with h79 hb
  injection hb with h89 hb
  injection hb with h99 hb
  injection hb with h109 hb
  injection h39 with h3a h3b h3c h3d h3e
  injection h89 with h8a h8b h8c h8d h8e
  injection h99 with h9a h9b h9c h9d h9e
  subst hsc h09 h19 h29 h49 h59 h69 h79 h109 h3a h3b h3c h3d h3e h8a h8b h8c h8d h8e h9a h9b h9c h9d h9e
  clear hb
  have hnx := hL.off (own := []) (fun x hx => nomatch hx) rfl
  rw [List.append_nil] at hnx
  refine wpX_execs_cons (wpX_Assign_Name (wpX_Call ?_))
  k_steps
  refine callWith_XK (K := hd.heap_1 w.params) rfl ?_
  k_steps
  refine Stop.go ?_
  k_dflt (refine' draw_tells (p := p) (q := q) (a1 := a) (b1 := b) (t := t) (u := u) (k := k) (kq := kq) (vs := ys) (news := (d, o) :: (S, W.listOf us.toArray kS) :: (L + 1 + 1 + 1 + 1, o4) :: (L + 1 + 1 + 1, o3) :: (L + 1 + 1, o2) :: (L + 1, o1) :: P.map PE.tup) ?kB ?kF ?kX ?kN ?kT ?kk ?kr ?ku hI hns hL.a0 ?da (by decide) (by decide) (by first | exact hA.hd _ (by (repeat (first | assumption | exact List.Mem.head _ | refine List.Mem.tail _ ?_ | refine List.mem_append_left _ ?_))) | exact Ne.symm (hA.hd _ (by (repeat (first | assumption | exact List.Mem.head _ | refine List.Mem.tail _ ?_ | refine List.mem_append_left _ ?_)))) | exact hA.hS _ (by (repeat (first | assumption | exact List.Mem.head _ | refine List.Mem.tail _ ?_ | refine List.mem_append_left _ ?_))) | exact Ne.symm (hA.hS _ (by (repeat (first | assumption | exact List.Mem.head _ | refine List.Mem.tail _ ?_ | refine List.mem_append_left _ ?_)))) | exact hA.hp _ (by (repeat (first | assumption | exact List.Mem.head _ | refine List.Mem.tail _ ?_ | refine List.mem_append_left _ ?_))) | exact Ne.symm (hA.hp _ (by (repeat (first | assumption | exact List.Mem.head _ | refine List.Mem.tail _ ?_ | refine List.mem_append_left _ ?_)))) | exact hA.hq _ (by (repeat (first | assumption | exact List.Mem.head _ | refine List.Mem.tail _ ?_ | refine List.mem_append_left _ ?_))) | exact Ne.symm (hA.hq _ (by (repeat (first | assumption | exact List.Mem.head _ | refine List.Mem.tail _ ?_ | refine List.mem_append_left _ ?_)))) | k_ne) ?dp1 ?_; (case kN => exact newsDrop (by k_asm) (by ((repeat (refine List.forall_mem_cons.mpr (And.intro (by (repeat (first | exact List.Mem.head _ | refine List.Mem.tail _ ?_))) ?_))); intro p9 hp9; (repeat' (first | exact hp9 | refine List.Mem.tail _ ?_ | refine List.mem_append_left _ ?_))))); (case kB => k_asm); (case kF => k_asm); (case kX => k_asm); (case kT => k_asm); (case kk => first | exact rfl | assumption); (case kr => ktr_room); (case ku => ktr_units))
  case da => have := hL.a1; omega
  case dp1 => ((repeat (refine List.forall_mem_cons.mpr (And.intro (by first | exact hA.hd _ (by (repeat (first | assumption | exact List.Mem.head _ | refine List.Mem.tail _ ?_ | refine List.mem_append_left _ ?_))) | exact Ne.symm (hA.hd _ (by (repeat (first | assumption | exact List.Mem.head _ | refine List.Mem.tail _ ?_ | refine List.mem_append_left _ ?_)))) | exact hA.hS _ (by (repeat (first | assumption | exact List.Mem.head _ | refine List.Mem.tail _ ?_ | refine List.mem_append_left _ ?_))) | exact Ne.symm (hA.hS _ (by (repeat (first | assumption | exact List.Mem.head _ | refine List.Mem.tail _ ?_ | refine List.mem_append_left _ ?_)))) | exact hA.hp _ (by (repeat (first | assumption | exact List.Mem.head _ | refine List.Mem.tail _ ?_ | refine List.mem_append_left _ ?_))) | exact Ne.symm (hA.hp _ (by (repeat (first | assumption | exact List.Mem.head _ | refine List.Mem.tail _ ?_ | refine List.mem_append_left _ ?_)))) | exact hA.hq _ (by (repeat (first | assumption | exact List.Mem.head _ | refine List.Mem.tail _ ?_ | refine List.mem_append_left _ ?_))) | exact Ne.symm (hA.hq _ (by (repeat (first | assumption | exact List.Mem.head _ | refine List.Mem.tail _ ?_ | refine List.mem_append_left _ ?_)))) | k_ne) ?_))); first | exact List.forall_mem_nil _ | exact fun x hx => hnx x hx _ (by (repeat (first | assumption | exact List.Mem.head _ | refine List.Mem.tail _ ?_ | refine List.mem_append_left _ ?_))))
  intro r0 r1 a2 b2 t2 u2 k2 h3 tk3 hr0 hr1 ha0 ha1 F3 N3
  (try dsimp only)
  obtain ⟨n0, rfl⟩ := Int.eq_ofNat_of_zero_le hr0
  k_steps
  refine wpX_of0 ?_
  have hP : P.length < 16 := by have := hL.ln; omega
  k_dflt (refine' wkern_X (P := P) (dO := o) (most := 1 + n0) (news := (p, penO q a2 b2 t2 u2 k2) :: (q, W.listOf ys.toArray kq) :: (S, W.listOf us.toArray kS) :: (L + 1 + 1 + 1 + 1, o4) :: (L + 1 + 1 + 1, o3) :: (L + 1 + 1, o2) :: (L + 1, o1) :: P.map PE.tup) ?kB ?kF ?kX ?kN ?kT ?kk ?kr ?ku lo hO ?wT hL.nd hL.rg hP (by omega) (by omega) ?_; (case kN => exact newsDrop (by k_asm) (by ((repeat (refine List.forall_mem_cons.mpr (And.intro (by (repeat (first | exact List.Mem.head _ | refine List.Mem.tail _ ?_))) ?_))); intro p9 hp9; (repeat' (first | exact hp9 | refine List.Mem.tail _ ?_ | refine List.mem_append_left _ ?_))))); (case kB => k_asm); (case kF => k_asm); (case kX => k_asm); (case kT => k_asm); (case kk => first | exact rfl | assumption); (case kr => ktr_room); (case ku => ktr_units))
  case wT => exact fun e he => .tail _ (.tail _ (.tail _ (.tail _ (.tail _ (.tail _ (.tail _ (List.mem_map_of_mem he)))))))
  intro bs bt ws h4 tk4 hperm hsort hbs F4 N4
  (try dsimp only)
  have hO9 : Octs (encAll ws (1 + n0)) ws (1 + n0) := octs_of (by omega) (by rw [hperm.length_eq]; exact hP) hsort fun e he => hL.rg e (hperm.mem_iff.mp he)
  refine storeX_C (v₀ := x3) (news := (L + 1 + 1 + 1, o3) :: (d, o) :: (S, W.listOf us.toArray kS) :: (p, penO q a2 b2 t2 u2 k2) :: (q, W.listOf ys.toArray kq) :: (L + 1 + 1 + 1 + 1, o4) :: (L + 1 + 1, o2) :: (L + 1, o1) :: P.map PE.tup) F4 (newsDrop N4 (by ((repeat (refine List.forall_mem_cons.mpr (And.intro (by (repeat (first | exact List.Mem.head _ | refine List.Mem.tail _ ?_))) ?_))); intro p9 hp9; (repeat' (first | exact hp9 | refine List.Mem.tail _ ?_ | refine List.mem_append_left _ ?_))))) rfl (UpdF.head ?hne) ce3 fun h5 o5 F5 N5 ce5 => ?_
  case hne => ((repeat (refine List.forall_mem_cons.mpr (And.intro (by first | exact hA.hd _ (by (repeat (first | assumption | exact List.Mem.head _ | refine List.Mem.tail _ ?_ | refine List.mem_append_left _ ?_))) | exact Ne.symm (hA.hd _ (by (repeat (first | assumption | exact List.Mem.head _ | refine List.Mem.tail _ ?_ | refine List.mem_append_left _ ?_)))) | exact hA.hS _ (by (repeat (first | assumption | exact List.Mem.head _ | refine List.Mem.tail _ ?_ | refine List.mem_append_left _ ?_))) | exact Ne.symm (hA.hS _ (by (repeat (first | assumption | exact List.Mem.head _ | refine List.Mem.tail _ ?_ | refine List.mem_append_left _ ?_)))) | exact hA.hp _ (by (repeat (first | assumption | exact List.Mem.head _ | refine List.Mem.tail _ ?_ | refine List.mem_append_left _ ?_))) | exact Ne.symm (hA.hp _ (by (repeat (first | assumption | exact List.Mem.head _ | refine List.Mem.tail _ ?_ | refine List.mem_append_left _ ?_)))) | exact hA.hq _ (by (repeat (first | assumption | exact List.Mem.head _ | refine List.Mem.tail _ ?_ | refine List.mem_append_left _ ?_))) | exact Ne.symm (hA.hq _ (by (repeat (first | assumption | exact List.Mem.head _ | refine List.Mem.tail _ ?_ | refine List.mem_append_left _ ?_)))) | k_ne) ?_))); first | exact List.forall_mem_nil _ | exact fun x hx => hnx x hx _ (by (repeat (first | assumption | exact List.Mem.head _ | refine List.Mem.tail _ ?_ | refine List.mem_append_left _ ?_))))
  (try dsimp only)
  refine rest5 hb0 B X T GL (by k_asm) (newsDrop (by k_asm) (by ((repeat (refine List.forall_mem_cons.mpr (And.intro (by (repeat (first | exact List.Mem.head _ | refine List.Mem.tail _ ?_))) ?_))); intro p9 hp9; (repeat' (first | exact hp9 | refine List.Mem.tail _ ?_ | refine List.mem_append_left _ ?_))))) hO (hL.mono ?la0 ?la1) ce1 ce2 ce4 lo hns hI hS hA hret ce5 hbs hperm hO9 (by omega)
  case la0 => omega
  case la1 => omega
end

end PB
namespace PB
theorem fresh42 : (if True then True else True) := by
  w_top off
  try (walk1; trivial)
  try simp
section
variable {w : World} {mean : ExcName → Option Value} {mg mb : Str → Option Value} {h₀ : Heap} {L fa : Addr} {cd : Value} {s : Shared} {Q : Flow → Shared → Prop} {E : Value → Shared → Prop}
variable {d S p q : Addr} {o o1 o2 o3 o4 : Obj} {us ys : List Value} {ns : List Int} {kS kq k : Nat} {a b : Int} {t u : Tok} {P : List PE} {olap x3 x4 : Option Value} {mm : FMap}
theorem rest3 {ps : Arguments} {s0 s1 s2 s4 s5 s6 s7 s10 : Stmt} {t3 i3 t8 i8 t9 i9 : Expr} {b3 e3 b8 e8 b9 e9 : List Stmt} {p3 p8 p9 : Pos} {sc : Scope} (hb : PySem.Challenge.rw_pb0162_01.row.prog.theDef (Str.ofString "law") = some (ps, [s0, s1, s2, .For t3 i3 b3 e3 p3, s4, s5, s6, s7, .For t8 i8 b8 e8 p8, .For t9 i9 b9 e9 p9, s10], sc)) (B : Below callerA h₀ [] h₀) (X : (hd.heap_1 w.params).In h₀) (T : Top hd.view_1 (looseW hd.view_1 [Str.ofString "ShapeError", Str.ofString "write_kern"]) mean mg mb h₀) (GL : Glob 0 mg mb (List.map itemOf (recsOf hd.view_1)) (scalarsOf [] ++ constsW hd.view_1) [] (namesW hd.view_1 [Str.ofString "ShapeError", Str.ofString "write_kern"]) h₀)
  (F : Fr h₀ L s.heap (fun y => if y = Str.ofString "pairs" then some (.ref d) else mm y))
  (N : News h₀ L s.heap ((d, o) :: (S, W.listOf us.toArray kS) :: (p, penO q 0 0 t u k) :: (q, W.listOf ys.toArray kq) :: (L + 1 + 1 + 1 + 1, o4) :: (L + 1 + 1 + 1, o3) :: (L + 1 + 1, o2) :: (L + 1, o1) :: [])) (hO : DictP w o []) (ce1 : o1.data = .cell (some (.ref p))) (ce2 : o2.data = .cell (some (.ref S))) (ce3 : o3.data = .cell x3) (ce4 : o4.data = .cell x4) (lo : (d == sysModules) = false) (hns : ns.length ≤ 40) (hI : IntsAre ys ns) (hS : IntsAre us [0, 1, 2, 3, 255, 256, 65535]) (hA : Apart d S p q [L + 1 + 1 + 1 + 1, L + 1 + 1 + 1, L + 1 + 1, L + 1])
  (hret : ∀ m' h' tk', Fr h₀ L h' m' → Q (.ret (.bool true)) { s with heap := h', toks := tk' }) :
  wpX (model PySem.Challenge.rw_pb0162_01.row.prog w) (callerA.deeper (envOfC (Str.ofString "law") sc L fa cd)) (execs [.For t3 i3 b3 e3 p3, s4, s5, s6, s7, .For t8 i8 b8 e8 p8, .For t9 i9 b9 e9 p9, s10] (envOfC (Str.ofString "law") sc L fa cd)) Q E s := by
  k_with_none
  (k_with "call ref" => (k_here; (with_reducible show wpAny _ _ (call (Value.ref 191) [Value.ref _, Value.int _ _]) _ _ _); (refine Stop.out ?_)))
  (k_with "call ref" => (k_here; (with_reducible show wpAny _ _ (call (Value.ref 198) [Value.ref _, Value.ref _]) _ _ _); (refine Stop.out ?_)))
  (k_with "pyIter ref" => (refine Stop.out ?_))
  revert X; k_fill; intro X
  have hb0 := hb
  injection hb with hb
  injection hb with _ hb
  injection hb with hb hsc
  injection hb with h09 hb
  injection hb with h19 hb
  injection hb with h29 hb
  injection hb with h39 hb
  injection hb with h49 hb
  injection hb with h59 hb
  injection hb with h69 hb
  injection hb with h79 hb
  injection hb with h89 hb
  injection hb with h99 hb
  injection hb with h109 hb
  injection h39 with h3a h3b h3c h3d h3e
  injection h89 with h8a h8b h8c h8d h8e
  injection h99 with h9a h9b h9c h9d h9e
  subst hsc h09 h19 h29 h49 h59 h69 h79 h109 h3a h3b h3c h3d h3e h8a h8b h8c h8d h8e h9a h9b h9c h9d h9e
  clear hb
  refine wpX_execs_cons (wpX_of0 (wpX_For ?_))
  k_steps
  refine Stop.go ?_
  k_dflt (refine' draw_tells (p := p) (q := q) (a1 := 0) (b1 := 0) (t := t) (u := u) (k := k) (kq := kq) (vs := ys) (news := (d, o) :: (S, W.listOf us.toArray kS) :: (L + 1 + 1 + 1 + 1, o4) :: (L + 1 + 1 + 1, o3) :: (L + 1 + 1, o2) :: (L + 1, o1) :: []) ?kB ?kF ?kX ?kN ?kT ?kk ?kr ?ku hI hns (by decide) (by decide) (by decide) (by decide) (by first | exact hA.hd _ (by (repeat (first | assumption | exact List.Mem.head _ | refine List.Mem.tail _ ?_ | refine List.mem_append_left _ ?_))) | exact Ne.symm (hA.hd _ (by (repeat (first | assumption | exact List.Mem.head _ | refine List.Mem.tail _ ?_ | refine List.mem_append_left _ ?_)))) | exact hA.hS _ (by (repeat (first | assumption | exact List.Mem.head _ | refine List.Mem.tail _ ?_ | refine List.mem_append_left _ ?_))) | exact Ne.symm (hA.hS _ (by (repeat (first | assumption | exact List.Mem.head _ | refine List.Mem.tail _ ?_ | refine List.mem_append_left _ ?_)))) | exact hA.hp _ (by (repeat (first | assumption | exact List.Mem.head _ | refine List.Mem.tail _ ?_ | refine List.mem_append_left _ ?_))) | exact Ne.symm (hA.hp _ (by (repeat (first | assumption | exact List.Mem.head _ | refine List.Mem.tail _ ?_ | refine List.mem_append_left _ ?_)))) | exact hA.hq _ (by (repeat (first | assumption | exact List.Mem.head _ | refine List.Mem.tail _ ?_ | refine List.mem_append_left _ ?_))) | exact Ne.symm (hA.hq _ (by (repeat (first | assumption | exact List.Mem.head _ | refine List.Mem.tail _ ?_ | refine List.mem_append_left _ ?_)))) | k_ne) ?dp1 ?_; (case kN => exact newsDrop (by k_asm) (by ((repeat (refine List.forall_mem_cons.mpr (And.intro (by (repeat (first | exact List.Mem.head _ | refine List.Mem.tail _ ?_))) ?_))); intro p9 hp9; (repeat' (first | exact hp9 | refine List.Mem.tail _ ?_ | refine List.mem_append_left _ ?_))))); (case kB => k_asm); (case kF => k_asm); (case kX => k_asm); (case kT => k_asm); (case kk => first | exact rfl | assumption); (case kr => ktr_room); (case ku => ktr_units))
  case dp1 => ((repeat (refine List.forall_mem_cons.mpr (And.intro (by first | exact hA.hd _ (by (repeat (first | assumption | exact List.Mem.head _ | refine List.Mem.tail _ ?_ | refine List.mem_append_left _ ?_))) | exact Ne.symm (hA.hd _ (by (repeat (first | assumption | exact List.Mem.head _ | refine List.Mem.tail _ ?_ | refine List.mem_append_left _ ?_)))) | exact hA.hS _ (by (repeat (first | assumption | exact List.Mem.head _ | refine List.Mem.tail _ ?_ | refine List.mem_append_left _ ?_))) | exact Ne.symm (hA.hS _ (by (repeat (first | assumption | exact List.Mem.head _ | refine List.Mem.tail _ ?_ | refine List.mem_append_left _ ?_)))) | exact hA.hp _ (by (repeat (first | assumption | exact List.Mem.head _ | refine List.Mem.tail _ ?_ | refine List.mem_append_left _ ?_))) | exact Ne.symm (hA.hp _ (by (repeat (first | assumption | exact List.Mem.head _ | refine List.Mem.tail _ ?_ | refine List.mem_append_left _ ?_)))) | exact hA.hq _ (by (repeat (first | assumption | exact List.Mem.head _ | refine List.Mem.tail _ ?_ | refine List.mem_append_left _ ?_))) | exact Ne.symm (hA.hq _ (by (repeat (first | assumption | exact List.Mem.head _ | refine List.Mem.tail _ ?_ | refine List.mem_append_left _ ?_)))) | k_ne) ?_))); first | exact List.forall_mem_nil _ | exact fun x hx => hnx x hx _ (by (repeat (first | assumption | exact List.Mem.head _ | refine List.Mem.tail _ ?_ | refine List.mem_append_left _ ?_))))
  intro r0 r1 a2 b2 t2 u2 k2 h3 tk3 hr0 hr1 ha0 ha1 F3 N3
  (try dsimp only)
  obtain ⟨n0, rfl⟩ := Int.eq_ofNat_of_zero_le hr0
  k_steps
  refine Stop.go (forG_rangeM (h₀ := h₀) (n := n0)
    (fun m₀ i m₁ nx => (∀ z, z ≠ Str.ofString "lap" → m₁ z = m₀ z) ∧ ∃ P o a b t u k, nx = (d, o) :: (S, W.listOf us.toArray kS) :: (p, penO q a b t u k) :: (q, W.listOf ys.toArray kq) :: (L + 1 + 1 + 1 + 1, o4) :: (L + 1 + 1 + 1, o3) :: (L + 1 + 1, o2) :: (L + 1, o1) :: P.map PE.tup ∧ DictP w o P ∧ LG P a i (d :: S :: p :: q :: [L + 1 + 1 + 1 + 1, L + 1 + 1 + 1, L + 1 + 1, L + 1]))
    (news := (d, o) :: (S, W.listOf us.toArray kS) :: (p, penO q a2 b2 t2 u2 k2) :: (q, W.listOf ys.toArray kq) :: (L + 1 + 1 + 1 + 1, o4) :: (L + 1 + 1 + 1, o3) :: (L + 1 + 1, o2) :: (L + 1, o1) :: []) (by k_asm) (newsDrop (by k_asm) (by ((repeat (refine List.forall_mem_cons.mpr (And.intro (by (repeat (first | exact List.Mem.head _ | refine List.Mem.tail _ ?_))) ?_))); intro p9 hp9; (repeat' (first | exact hp9 | refine List.Mem.tail _ ?_ | refine List.mem_append_left _ ?_))))) (by assumption) (range1 (by omega)).1 (range1 (by omega)).2 rfl ?lj1 ?lt1 ?ld1)
  case lj1 => exact ⟨fun _ _ => rfl, [], o, a2, b2, t2, u2, k2, rfl, hO, ⟨.nil, (fun _ h => nomatch h), Nat.le_refl _, by omega, by omega, (fun _ h => nomatch h)⟩⟩
  case lt1 =>
    rintro i t6 m₁ _ h6 tk6 own hi6 hoff ⟨hm, P, o5, a5, b5, t5, u5, k5, rfl, hO5, hL5⟩ F6 N6
    have F5 := Eq.subst (motive := fun x => Fr _ _ h6 x) (frame1 hm) F6
    clear F6
    (try dsimp only at F5)
    generalize m₁ (Str.ofString "lap") = olap at F5
    simp only [List.cons_append] at N6
    k_steps
    refine turn1 hb0 B X T GL (h7 := _) (P := P) (a5 := a5) (olap := olap) (by k_asm) (by k_asm) hO5 hL5 (by omega) ?lo1 ce1 ce2 hns hI hS hA
    case lo1 =>
      intro x hx y hy
      refine hoff x hx y ?_
      rw [List.map_cons, List.map_cons, List.map_cons, List.map_cons, List.map_cons, List.map_cons, List.map_cons, List.map_cons, List.map_map]
      exact hy
  case ld1 =>
    rintro m₁ _ h6 tk6 ⟨hm, P, o5, a5, b5, t5, u5, k5, rfl, hO5, hL5⟩ F6 N6
    have F5 := Eq.subst (motive := fun x => Fr _ _ h6 x) (frame1 hm) F6
    (try dsimp only)
    exact rest4 hb0 B X T GL F5 N6 hO5 ⟨hL5.nd, hL5.rg, by have := hL5.ln; omega, hL5.a0, by have := hL5.a1; omega, hL5.ap⟩ ce1 ce2 ce3 ce4 lo hns hI hS hA hret
end

end PB
namespace PB
theorem fresh43 : (if True then True else True) := by
  w_top off
  try (walk1; trivial)
  try simp
section
theorem top : PySem.Challenge.rw_pb0162_01.Holds := by
  k_with_none
  (k_with "compareOp Eq ref ref" => (refine Stop.out ?_))
  (k_with "call ref" => (k_here; (with_reducible show wpAny _ _ (call (Value.ref 191) [Value.ref _, Value.int _ _]) _ _ _); (refine Stop.out ?_)))
  (k_with "call ref" => (k_here; (with_reducible show wpAny _ _ (call (Value.ref 198) [Value.ref _, Value.ref _]) _ _ _); (refine Stop.out ?_)))
  (k_with "pyIter ref" => (refine Stop.out ?_))
  (k_with "setItem ref ref" => (refine Stop.out ?_))
  refine holds_law said_open fun said => ?_
  refine holds_X (q := hd.view_1) (loose := [Str.ofString "ShapeError", Str.ofString "write_kern"]) (Xt := fun s => xlAt hd.view_1 [] s && recOk PySem.Challenge.rw_pb0162_01.row.records s) (XP := XL hd.view_1 []) (Yf := Hook.obs (kHook hd.heap_1 asK asK_eq)) (Ya := Hook.val (kHook hd.heap_1 asK asK_eq)) (YP := Hook.says (kHook hd.heap_1 asK asK_eq)) (N := 1600) left_open (Hook.of (kHook hd.heap_1 asK asK_eq)) (Hook.keeps (kHook hd.heap_1 asK asK_eq)) (fun s e => xl_of s (Bool.and_eq_true_iff.mp e).1) XL.keeps (by rfl) (by rfl) (by rfl) (fun s e => recFacts_of (Bool.and_eq_true_iff.mp e).2) (by rfl) said ok_open ⟨rfl, rfl, rfl, rfl, rfl, by decide +kernel⟩ ?hw ?_
  case hw => w_witness2
  clear said
  k_fill
  intro w s₀ s₁ mg mb G Y fa o pm cd doc dV kV ho hd hcd hD hmg hg args vals as hpre hlay hrd hwl hlo
  have KX := kIn_of Y
  have X := (Ground.X G).1
  have V := (Ground.X G).2
  have GL := glob_more (Ground.glob G names_view imports_view) V
  refine Ground.open G ?_
  intro T B D TE TW
  try (refine guard_noD D (by decide +kernel) ?_; clear D)
  obtain ⟨_, _, M⟩ := bmod_of_top T
  have TA := at_of_top T
  try (obtain ⟨_, _, he, B0⟩ := based_of_top T rfl hmg ho hd; have he' : cd = _ := he; subst he'; clear he)
  clear hmg
  wrow_args hpre hlay hrd hwl hlo
  refine enter_X ?_
  w_top on
  have K0 := below_caller (Top.heap T)
  have he := Dflts.none hD rfl
  subst he
  have he := Dflts.noKw hD
  subst he
  refine call_cellsX (by decide) ho (fd_plain hd) (Top.nolimit T) hcd rfl (kinds_of (by kinds_ok)) (by decide) fun h₁ tk₁ cells F N0 X0 => ?_
  cells_open X0
  clear hd TA
  k_drop
  (try k_fold)
  refine wpX_execs_cons (wpX_of ?_)
  k_steps
  (try dsimp only)
  refine wpX_execs_cons (wpX_of ?_)
  k_steps
  (try dsimp only)
  refine wpX_execs_cons (wpX_of ?_)
  k_steps
  (try dsimp only)
  refine cut1 (G := fun h tk => wpX _ _ _ _ _ { s₁ with heap := h, toks := tk }) (by k_asm) (by k_asm) (by assumption) (by assumption) (by assumption) (by assumption) (by assumption) (by assumption) (by assumption) ?cutN (.cons _ _ (.cons _ _ (.cons _ _ (.cons _ _ (.cons _ _ (.cons _ _ (.cons _ _ .nil))))))) (by assumption) ?cutA ?cutB ?cutC ?cutK
  case cutN =>
    rw [List.length_map, List.length_take]
    omega
  case cutA => (repeat (refine List.forall_mem_cons.mpr (And.intro (by k_ne) ?_))); exact fun _ h => nomatch h
  case cutB => (repeat (refine List.forall_mem_cons.mpr (And.intro (by k_ne) ?_))); exact fun _ h => nomatch h
  case cutC => (repeat (refine List.forall_mem_cons.mpr (And.intro (by k_ne) ?_))); exact fun _ h => nomatch h
  case cutK =>
    intro h tk d S p q o kS kp kq t u us ys ns o1 o2 o3 o4 hns F2 N2 hO ce1 ce2 ce3 ce4 lo hI hS hA
    clear G Y hcd hD ho
    refine rest3 (L := s₁.heap.objs.size) rfl (show Below callerA _ [] _ by k_asm) (by k_asm) (by k_asm) (by k_asm) F2 N2 hO ce1 ce2 ce3 ce4 lo hns hI hS hA ?hret
    case hret =>
      intro m' h' tk' F9
      refine GoodW.toG ?_
      (try dsimp only)
      wrow_close
end

end PB
end
theorem PySem.Challenge.cw_pb0162_01_holds : PySem.Challenge.rw_pb0162_01.Holds := by
  exact PB.top

