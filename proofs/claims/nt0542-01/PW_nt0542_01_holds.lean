import PyProof.Rows.All
import Wide.All
import OpenK.AllK
import Wide.FinOn
import Lean
import PySem.Challenge.RW_nt0542_01
open PySem PySem.W PyProof.Rows PySem.Calls
set_option Elab.async false
set_option maxRecDepth 100000
set_option linter.all false
namespace Mine
/-- the program without its four rows that name a module -/
def hd.V : Program := { PySem.Challenge.rw_nt0542_01.row.prog with main := { PySem.Challenge.rw_nt0542_01.row.prog.main with body := [1, 2, 3, 4, 6, 7, 8, 9, 10, 12, 14, 15, 16, 17, 18, 19, 20, 21, 22, 23].filterMap fun i => PySem.Challenge.rw_nt0542_01.row.prog.main.body[i]? } }
def pickK {P : Prop} {K : Params → Frag} (_ : (∀ K' : Params → Frag, K' = K → P) → P) : Params → Frag := K
section
local macro_rules | `(tactic| o_head (kHook $K $_ $_)) => `(tactic| (rename (∀ K' : Params → Frag, _ → _) => hX; exact hX $K rfl))
noncomputable def hd.K : Params → Frag := by
  apply pickK (P := OpenRow.Holds PySem.Challenge.rw_nt0542_01.row)
  intro hX
  k_head
end
example : (fun (_ : OpenLaw) (_ : Params → Frag) => True) PySem.Challenge.rw_nt0542_01 hd.K.heap_1 := by
  k_fill
  trivial
section
/-- what a contract is told of its caller -/
def Con (w : World) (f : Addr) (vs : List Value) (news : List (Addr × Obj)) (D U : Nat) (Post : Value → List (Addr × Obj) → Prop) : Prop :=
  ∀ (dp un : Nat) (gd : Option (List Code)) (cn : Str) (cs : Scope) (a : Addr) (ccd : Value) (cl : List (Str × Addr)) (outer : List Env) (A₀ : Around) (base h₀ : Heap) (L : Addr) (m mg mb : Str → Option Value) (mean : ExcName → Option Value) (s : Shared) (Q E : Value → Shared → Prop),
    Below A₀ base outer h₀ → Fr h₀ L s.heap m → (hd.K.heap_1 w.params).In h₀ → News h₀ L s.heap news → Top hd.V (looseW hd.V []) mean mg mb h₀ → cs.kind = .function →
    dp + D < recursionLimit → un + U < cLine →
    (∀ v news' h' tk', Fr h₀ L h' m → News h₀ L h' news' → Post v news' → Q v { s with heap := h', toks := tk' }) →
    wpAny (model PySem.Challenge.rw_nt0542_01.row.prog w) (ktrTop dp un gd cn cs L a ccd cl outer) (call (.ref f) vs) Q E s
end
section
abbrev bmE : List Value := [.type "Exception", .type "BaseException", .type "object"]
abbrev excObj (C t : Addr) : Obj := { cls := .ref C, data := .fields #[.ref t, .none, .none, .none, .bool false, .none] }
abbrev tupObj (vs : List Value) : Obj := { cls := .type "tuple", data := .seq vs.toArray }

section
variable {prog : Program} {w : World} {A : Around} {E : Value → Shared → Prop} {h : Heap} {g : Array GenState} {d : Drawn} {t : Nat} {os : OsState}
variable {nm q : Str} {C N P : Addr} {bs bm : List Value} {hdct : Bool} {sn : List Str} {sub : List Value} {ab : Bool} {col : Option Bool} {dd : Option Addr} {k0 k1 k2 k3 k5 : Option Value}

theorem exc_new {R : Result → Shared → Prop} {rest : List Value} (hC : h.get? C = some (excClassObj nm q C N bs bm hdct sn sub ab col dd k0 k1 k2 k3 k5 "Exception.__new__"))
    (h1 : bm.contains (.type "Exception") = true) (h2 : bm.contains (.type "AttributeError") = false) (h3 : bm.contains (.type "NameError") = false) (hrest : rest.length ≤ sizeLine)
    (hq : R (.ok (.ret (.ref (h.objs.size + 1)))) ⟨(h.push (tupObj rest)).push (excObj C h.objs.size), g, d, t, os⟩) :
    codeAny (model prog w) A (.call (.builtin "Exception.__new__") ⟨.ref C :: rest, []⟩) R ⟨h, g, d, t, os⟩ := by
  have F := PySem.F.excBase_Exception
  have hcE : (Value.ref C :: bm).contains (.type "Exception") = true := by rw [List.contains_cons, h1, Bool.or_true]
  have hcA : (Value.ref C :: bm).contains (.type "AttributeError") = false := by rw [List.contains_cons, h2]; rfl
  have hcN : (Value.ref C :: bm).contains (.type "NameError") = false := by rw [List.contains_cons, h3]; rfl
  have hstar := F.noStar
  refine codeAny_call_builtin_code (Code.quiet_builtin _ F.quiet) ?_
  simp only [checkBuiltinCall, F.newKind, F.newSplit, F.newRow]
  repeat (first | refine wpAny_loadPart_at hC ?_ | (refine wpAny_isSubtype_exc hC ?_; rw [hcE]) | refine wpAny_staticBase_exc hC ?_ | refine wpAny_madeBy_exc hC ?_ | simp only [bne_self_eq_false, Bool.false_eq_true, if_false] | wp_step)
  have hends := F.ends
  refine codeAny_builtinAt F.entry ?_
  unfold Builtin.«BaseException.__new__»
  refine PySem.wpAt_bind ?_
  show PySem.wpAt _ _ _ (stack >>= _) _ _ _
  refine PySem.wpAt_bind (PySem.wpAt_stack fun p below => PySem.wpAt_of_wpAny ?_)
  wp_walk
  refine PySem.wpAt_of_wpAny ?_
  rw [F.owner]
  repeat (first | with_reducible refine wpAny_madeHere_exc F.canon hC ?_ | with_reducible refine wpAny_loadPart_at hC ?_ | (with_reducible refine wpAny_isSubtype_exc hC ?_; first | rw [hcE] | rw [hcA] | rw [hcN]) | wp_step)
  show R _ _
  rw [Heap.size_push]
  exact hq

theorem exc_make {rest : List Value} {fI : Addr} {Q : Value → Shared → Prop}
    (hC : h.get? C = some (excClassObj nm q C N bs (.ref P :: bmE) hdct sn sub ab col dd k0 k1 k2 k3 k5 "Exception.__new__"))
    (hl : Looks (model prog w) h (typeLookup (.ref C) "__init__") (some (.ref fI))) (hb : ∀ self, Looks (model prog w) h (bindSpecial (.ref fI) self) (.ref fI, [self])) (hrest : rest.length ≤ sizeLine)
    (hq : wpAny (model prog w) (A.under (.builtin "type.__call__" ⟨.ref C :: rest, []⟩)) (call (.ref fI) (.ref (h.objs.size + 1) :: rest)) (fun r s' => r = .none ∧ Q (.ref (h.objs.size + 1)) s') E ⟨(h.push (tupObj rest)).push (excObj C h.objs.size), g, d, t, os⟩) :
    wpAny (model prog w) A (call (.ref C) rest) Q E ⟨h, g, d, t, os⟩ := by
  have f1 := tc_lookup
  have f2 := tc_bind (.ref C)
  have hT : (⟨h, g, d, t, os⟩ : Shared).TypeIs (.ref C) "type" := ⟨_, hC, rfl⟩
  refine wpAny_call (codeAny_of_tree ?_)
  show wpAny _ _ (callAny (.ref C) _) _ _ _
  repeat (any_goals (first | assumption | with_reducible refine wpAny_loadPart_at hC ?_ | wp_step))
  refine ⟨rfl, ?_⟩
  refine codeAny_call_builtin_at (Code.quiet_builtin _ (by decide +kernel)) entry_typeCall (wpAny_check_type_call_sub hC ?_)
  repeat (first | with_reducible refine wpAny_loadPart_at hC ?_ | with_reducible refine wpAny_madeBy_exc hC ?_ | wp_step)
  refine exc_new hC (by rw [List.contains_cons]; rfl) (by rw [List.contains_cons]; rfl) (by rw [List.contains_cons]; rfl) hrest ?_
  have k : ∀ b o, h.get? b = some o → ((h.push (tupObj rest)).push (excObj C h.objs.size)).get? b = some o := fun b o e => Heap.get?_push_of_some _ (Heap.get?_push_of_some _ e)
  have hC₁ := k _ _ hC
  have hl₁ := hl.keeps k
  have hb₁ := (hb (.ref (h.objs.size + 1))).keeps k
  have hget : ((h.push (tupObj rest)).push (excObj C h.objs.size)).get? (h.objs.size + 1) = some { cls := .ref C, data := .fields #[.ref h.objs.size, .none, .none, .none, .bool false, .none] } := by heap_get
  have hcC : (Value.ref C :: .ref P :: bmE).contains (.ref C) = true := by simp
  show wpAny _ _ _ _ _ ⟨(h.push (tupObj rest)).push (excObj C h.objs.size), g, d, t, os⟩
  unfold isInstance
  repeat (first | with_reducible refine wpAny_loadPart_at hget ?_ | (with_reducible refine wpAny_isSubtype_exc hC₁ ?_; rw [hcC]) | wp_step)
  show wpAny _ _ (typeLookup (.ref C) _) _ _ _
  refine hl₁.here ?_
  refine wpAny_holding (wpAny_bind ?_)
  refine hb₁.here ?_
  refine wpAny_bind (wpAny_mono hq (fun r s' hr => ?_) fun _ _ x => x)
  obtain ⟨rfl, hQ⟩ := hr
  wp_walk
  exact hQ
end
end
section
section
variable {prog : Program} {w : World} {A : Around} {E : Value → Shared → Prop} {s : Shared} {env : Env} {h₀ : Heap} {target : Expr} {body : List Stmt} {Q : Flow → Shared → Prop}

/-- the end of a turn -/
def TurnM (h₀ : Heap) (L : Addr) (Jn : (Str → Option Value) → List (Addr × Obj) → Prop) (it : Addr) (io : Obj) (s₁ : Shared) (Q : Flow → Shared → Prop) (f : Flow) (s₂ : Shared) : Prop :=
  match f with
  | .ret v => Q (.ret v) s₂
  | .brk => Q .next s₂
  | _ => ∃ h' tk m' news' nx, s₂ = { s₁ with heap := h', toks := tk } ∧ Fr h₀ L h' m' ∧ News h₀ L h' news' ∧ (it, io) ∈ news' ∧ (∀ p ∈ nx, p ∈ news') ∧ (∀ p ∈ nx, p.1 ≠ it) ∧ Jn m' nx
theorem TurnM.intro {L it : Addr} {io : Obj} {Jn : (Str → Option Value) → List (Addr × Obj) → Prop} {s₁ : Shared} {h' : Heap} {tk : Nat} {m' : Str → Option Value} {news' : List (Addr × Obj)} (nx : List (Addr × Obj)) (F : Fr h₀ L h' m') (N : News h₀ L h' news') (hi : (it, io) ∈ news')
    (hs : ∀ p ∈ nx, p ∈ news') (hn : ∀ p ∈ nx, p.1 ≠ it) (hj : Jn m' nx) : TurnM h₀ L Jn it io s₁ Q .next { s₁ with heap := h', toks := tk } := ⟨h', tk, m', news', nx, rfl, F, N, hi, hs, hn, hj⟩

def LoopM (prog : Program) (w : World) (A : Around) (h₀ : Heap) (env : Env) (target : Expr) (body : List Stmt) (Q : Flow → Shared → Prop) (E : Value → Shared → Prop) (it : Value) (s₂ : Shared) : Prop :=
  ∃ (I : Addr) (fp : List Addr) (n : Nat) (P : Nat → Value → Prop) (St : Nat → Heap → Prop) (m : Str → Option Value) (news : List (Addr × Obj)) (J : Nat → (Str → Option Value) → List (Addr × Obj) → Prop),
    it = .ref I ∧ Walks prog w A I fp [I] n P St ∧ h₀.get? I = none ∧ I ≠ env.locals ∧ (∀ p ∈ news, p.1 ≠ I) ∧ St 0 s₂.heap ∧ Fr h₀ env.locals s₂.heap m ∧ News h₀ env.locals s₂.heap news ∧ J 0 m news ∧
    (∀ i (s' : Shared) v (Q' : Unit → Shared → Prop), St i s'.heap → Q' () s' → wpAny (model prog w) A (letOwnedTupleGo target (.ref I) v) Q' E s') ∧
    (∀ i (h : Heap), St i h → ∃ o, h.get? I = some o) ∧
    (∀ i (h h' : Heap) (m₁ : Str → Option Value) nx, i ≤ n → J i m₁ nx → (∃ m, Fr h₀ env.locals h m) → St i h → h'.get? I = h.get? I → (∃ m, Fr h₀ env.locals h' m) → News h₀ env.locals h' nx → St i h') ∧
    (∀ i v m₁ nx io h tk, i < n → P i v → J i m₁ nx → (∀ p ∈ nx, p.1 ≠ I) → Fr h₀ env.locals h m₁ → News h₀ env.locals h ((I, io) :: nx) →
      wpAny (model prog w) A (assign target env v) (fun _ s₃ => wpAny (model prog w) A (execs body env) (TurnM h₀ env.locals (J (i + 1)) I io { s₂ with heap := h, toks := tk } Q) E s₃) E { s₂ with heap := h, toks := tk }) ∧
    ∀ h' tk m' nx, Fr h₀ env.locals h' m' → News h₀ env.locals h' nx → J n m' nx → Q .next { s₂ with heap := h', toks := tk }

theorem For_M {iter : Expr} {pos : Pos} {m : Str → Option Value} (_F : Fr h₀ env.locals s.heap m)
    (h : wpAny (model prog w) A (eval iter env) (fun xv s₁ => wpAny (model prog w) A (pyIter xv) (fun it s₂ => LoopM prog w A h₀ env target body Q E it s₂) E s₁) E s)
    (hs : ∀ x, foldedSetIterable iter env x = pure x := by intro _; rfl)
    (hE : PassesOwn (model prog w) A env E := by passes_own) :
    wpAny (model prog w) A (exec (.For target iter body [] pos) env) Q E s := by
  refine wpAny_For (wpAny_mono h (fun xv s₁ h₁ => wpAny_mono h₁ (fun it s₂ h₂ => ?_) fun _ _ e => e) fun _ _ e => e) hs
  obtain ⟨I, fp, n, P, St, m, news, J, rfl, W, hwr, hIL, hnw, hst, F, N, h0, hgo, hio, hkeep, step, hQ⟩ := h₂
  refine codeAny_forLoop_any (R := fun r s' => match r with | .ok f => Q f s' | .error e => cameBackBy (model prog w) A env E e s')
    (fun k s' => ∃ h' tk m' news' i, s' = { s₂ with heap := h', toks := tk } ∧ St i h' ∧ Fr h₀ env.locals h' m' ∧ News h₀ env.locals h' news' ∧ (∀ p ∈ news', p.1 ≠ I) ∧ J i m' news' ∧ i ≤ n ∧ k = n + 1 - i) ?_ (n + 1)
    ⟨s₂.heap, s₂.toks, m, news, 0, rfl, hst, F, N, hnw, h0, Nat.zero_le _, rfl⟩
  rintro k s' ⟨h', tk, m', news', i, rfl, hst', F', N', hnw', hJ, hi, rfl⟩
  have next : ∀ h₁ : Heap, (∀ b o, b ∉ [I] → h'.get? b = some o → h₁.get? b = some o) → Fr h₀ env.locals h₁ m' ∧ News h₀ env.locals h₁ news' := fun h₁ hk₁ =>
    ⟨⟨F'.ns.at' fun o e => hk₁ _ o (by simpa using fun q => hIL q.symm) e, fun b o e => hk₁ b o (by
        intro q
        rw [List.mem_singleton.mp q, hwr] at e
        cases e) (F'.keep b o e), F'.above⟩,
     fun p hp => ⟨hk₁ _ _ (by simpa using hnw' p hp) (N' p hp).1, (N' p hp).2⟩⟩
  by_cases hlt : i < n
  · refine W.item i _ _ _ hlt hst' fun v h₁ tk₁ hP hst₁ hk₁ => ?_
    obtain ⟨F₁, N₁⟩ := next h₁ hk₁
    refine wpAny_passesOwn hE ?_
    refine hgo (i + 1) _ v _ hst₁ ?_
    refine wpAny_passesOwn hE ?_
    obtain ⟨io, hio₁⟩ := hio _ _ hst₁
    have N₂ : News h₀ env.locals h₁ ((I, io) :: news') := fun p hp => by
      rcases List.mem_cons.mp hp with rfl | hp
      · exact ⟨hio₁, hIL, hwr⟩
      · exact N₁ p hp
    refine wpAny_mono (step i v m' news' io h₁ tk₁ hlt hP hJ hnw' F₁ N₂) (fun _ s₃ h₃ => wpAny_passesOwn hE (wpAny_mono h₃ (fun f s₄ h₄ => ?_) fun _ _ e => e)) fun _ _ e => e
    have go : (∃ h' tk m' news' nx, s₄ = { s₂ with heap := h', toks := tk } ∧ Fr h₀ env.locals h' m' ∧ News h₀ env.locals h' news' ∧ (I, io) ∈ news' ∧ (∀ p ∈ nx, p ∈ news') ∧ (∀ p ∈ nx, p.1 ≠ I) ∧ J (i + 1) m' nx) →
        ∃ k, k < n + 1 - i ∧ ∃ h' tk m' news' i, s₄ = { s₂ with heap := h', toks := tk } ∧ St i h' ∧ Fr h₀ env.locals h' m' ∧ News h₀ env.locals h' news' ∧ (∀ p ∈ news', p.1 ≠ I) ∧ J i m' news' ∧ i ≤ n ∧ k = n + 1 - i := by
      rintro ⟨h', tk, m', news', nx, rfl, F₄, N₄, hI₄, hs₄, hn₄, hJ₄⟩
      refine ⟨n + 1 - (i + 1), by omega, h', tk, m', nx, i + 1, rfl, ?_, F₄, fun p hp => N₄ p (hs₄ p hp), hn₄, hJ₄, hlt, rfl⟩
      exact hkeep (i + 1) h₁ h' m' nx hlt hJ₄ ⟨_, F₁⟩ hst₁ ((N₄ _ hI₄).1.trans hio₁.symm) ⟨_, F₄⟩ fun p hp => N₄ p (hs₄ p hp)
    cases f with
    | ret v => exact h₄
    | brk => exact h₄
    | next => exact go h₄
    | cont => exact go h₄
  · have hin : i = n := by omega
    subst hin
    refine W.done _ _ _ hst' fun h₁ tk₁ hk₁ => wpAny_execs_nil ?_
    obtain ⟨F₁, N₁⟩ := next h₁ hk₁
    exact hQ h₁ tk₁ m' news' F₁ N₁ hJ

theorem pyIter_listM {l : Addr} {vs : List Value} {nn : Nat} {m₀ : Str → Option Value} {news : List (Addr × Obj)} (J : Nat → (Str → Option Value) → List (Addr × Obj) → Prop)
    (hh : A.handled = none) (F : Fr h₀ env.locals s.heap m₀) (N : News h₀ env.locals s.heap news) (hj : J 0 m₀ news) (hl : ∀ i m nx, i ≤ vs.length → J i m nx → (l, listOf vs.toArray nn) ∈ nx)
    (turn : ∀ i v m₁ nx it io h tk, vs[i]? = some v → J i m₁ nx → (∀ p ∈ nx, p.1 ≠ it) → Fr h₀ env.locals h m₁ → News h₀ env.locals h ((it, io) :: nx) →
      wpAny (model prog w) A (assign target env v) (fun _ s₃ => wpAny (model prog w) A (execs body env) (TurnM h₀ env.locals (J (i + 1)) it io { s with heap := h, toks := tk } Q) E s₃) E { s with heap := h, toks := tk })
    (done : ∀ m₁ nx h tk, J vs.length m₁ nx → Fr h₀ env.locals h m₁ → News h₀ env.locals h nx → Q .next { s with heap := h, toks := tk }) :
    wpAny (model prog w) A (pyIter (.ref l)) (fun it s₂ => LoopM prog w A h₀ env target body Q E it s₂) E s := by
  have hl0 := hl 0 m₀ news (Nat.zero_le _) hj
  have hol : s.heap.get? l = some (listOf vs.toArray nn) := (N _ hl0).1
  have hls : s.heap.IsList l vs.toArray := ⟨_, hol, rfl, nn, rfl⟩
  have hne : l ≠ s.heap.objs.size := Nat.ne_of_lt (Heap.lt_size hol)
  refine wpAny_pyIter_list hls ?_
  have W := Walks.list (prog := prog) (w := w) hh s.heap.objs.size l hne vs.toArray
  rw [List.size_toArray] at W
  refine ⟨_, _, vs.length, _, _, m₀, news, J, rfl, W, next_is_new F, Nat.ne_of_gt F.ns.lt, (fun p hp q => absurd (Heap.lt_size (N p hp).1) (by rw [q]; exact Nat.lt_irrefl _)),
    ⟨⟨_, Heap.get?_push_size _ rfl, rfl, rfl⟩, hls.at fun o e => Heap.get?_push_of_some _ e⟩, F.push _, (fun p hp => ⟨Heap.get?_push_of_some _ (N p hp).1, (N p hp).2⟩), hj,
    (fun i s' v Q' st hQ' => letGo_listiter st.1 hQ'), (fun i h st => by obtain ⟨o, ho, _⟩ := st.1; exact ⟨o, ho⟩), ?_, ?_, ?_⟩
  · intro i h h' m₁ nx hi hJ _ st e _ N'
    refine ⟨st.1.at fun o ho => e.trans ho, ?_⟩
    exact ⟨_, (N' _ (hl i m₁ nx hi hJ)).1, rfl, nn, rfl⟩
  · intro i v m₁ nx io h tk hi hP hJ hn F₁ N₁
    exact turn i v m₁ nx _ io h tk (by simpa using hP) hJ hn F₁ N₁
  · intro h' tk m' nx F' N' hJ
    exact done m' nx h' tk hJ F' N'

theorem pyIter_rangeM {r : Addr} {a₀ b₀ : Int} {t₀ u₀ v₀ : Tok} {n : Nat} {m₀ : Str → Option Value} {news : List (Addr × Obj)} {x : Str} {px : Pos} (J : Nat → (Str → Option Value) → List (Addr × Obj) → Prop)
    (hh : A.handled = none) (hr : IsRange s.heap r a₀ b₀ 1 t₀ u₀ v₀) (hsmall : Builtin.Range.small a₀ b₀ 1 = true) (hn : Builtin.Range.rangeSize a₀ b₀ 1 = (n : Int)) (F : Fr h₀ env.locals s.heap m₀) (N : News h₀ env.locals s.heap news) (hj : J 0 m₀ news)
    (turn : ∀ i t m₁ nx it io h tk, i < n → J i m₁ nx → (∀ p ∈ nx, p.1 ≠ it) → Fr h₀ env.locals h m₁ → News h₀ env.locals h ((it, io) :: nx) →
      wpAny (model prog w) A (assign (.Name x px) env (.int (a₀ + (i : Int)) t)) (fun _ s₃ => wpAny (model prog w) A (execs body env) (TurnM h₀ env.locals (J (i + 1)) it io { s with heap := h, toks := tk } Q) E s₃) E { s with heap := h, toks := tk })
    (done : ∀ m₁ nx h tk, J n m₁ nx → Fr h₀ env.locals h m₁ → News h₀ env.locals h nx → Q .next { s with heap := h, toks := tk }) :
    wpAny (model prog w) A (pyIter (.ref r)) (fun it s₂ => LoopM prog w A h₀ env (.Name x px) body Q E it s₂) E s := by
  refine wpAny_pyIter_range hr hsmall ?_
  have W := Walks.range (prog := prog) (w := w) hh s.heap.objs.size a₀ 1 n
  refine ⟨_, _, n, _, _, m₀, news, J, rfl, W, next_is_new F, Nat.ne_of_gt F.ns.lt, (fun p hp q => absurd (Heap.lt_size (N p hp).1) (by rw [q]; exact Nat.lt_irrefl _)),
    (by show IsRangeIter _ _ _ _ _; rw [hn]; simpa using Heap.get?_push_size _ rfl), F.push _, (fun p hp => ⟨Heap.get?_push_of_some _ (N p hp).1, (N p hp).2⟩), hj,
    (fun i s' v Q' st hQ' => by unfold letOwnedTupleGo; exact wpAny_pure hQ'), (fun i h st => ⟨_, st⟩), ?_, ?_, ?_⟩
  · intro i h h' m₁ nx hi hJ _ st e _ N'
    exact e.trans st
  · rintro i v m₁ nx io h tk hi ⟨t, rfl⟩ hJ hn' F₁ N₁
    have e1 : a₀ + (i : Int) * 1 = a₀ + (i : Int) := by omega
    rw [e1]
    exact turn i t m₁ nx _ io h tk hi hJ hn' F₁ N₁
  · intro h' tk m' nx F' N' hJ
    exact done m' nx h' tk hJ F' N'
end

/-- a frame's names between the turns: ps as told, stored forgotten, the rest as ahead of the loop -/
def Loc (stored : List Str) (m₀ m : Str → Option Value) (ps : List (Str × Value)) : Prop := (∀ p ∈ ps, m p.1 = some p.2) ∧ ∀ z, (∀ p ∈ ps, z ≠ p.1) → stored.contains z = false → m z = m₀ z
theorem Loc.fr {stored : List Str} {m₀ m : Str → Option Value} {ps : List (Str × Value)} {h₀ h : Heap} {L : Addr} (H : Loc stored m₀ m ps) (F : Fr h₀ L h m) : Fr h₀ L h (kstB (fun z => if stored.contains z then m z else m₀ z) ps) := by
  have e : kstB (fun z => if stored.contains z then m z else m₀ z) ps = m := by
    funext z
    refine kstB_eq H.1 fun hn => ?_
    show (if stored.contains z = true then m z else m₀ z) = m z
    cases h3 : stored.contains z with
    | true => simp
    | false => simp only [Bool.false_eq_true, if_false]; exact (H.2 z hn h3).symm
  rw [e]; exact F
theorem frGen {h₀ h : Heap} {L : Addr} {m : Str → Option Value} (F : Fr h₀ L h m) : ∃ m1, m1 = m ∧ Fr h₀ L h m1 := ⟨m, rfl, F⟩
/-- a goal that the walk is to leave alone -/
def Stop (P : Prop) : Prop := P
theorem Stop.of {P : Prop} (h : Stop P) : P := h
theorem Stop.go {P : Prop} (h : P) : Stop P := h
theorem newsOf {h₀ : Heap} {L : Addr} {h : Heap} {l l' : List (Addr × Obj)} (N : News h₀ L h l) (hs : ∀ p ∈ l', p ∈ l) : News h₀ L h l' := fun p hp => N p (hs p hp)
end
section
section
variable {prog : Program} {w : World} {A : Around} {E : Value → Shared → Prop} {s : Shared} {K : Frag} {h₀ : Heap} {L : Addr} {m : Str → Option Value} {C P e t : Addr} {rest : List (Addr × Obj)}

variable {nm q : Str} {Nn : Addr} {bs : List Value} {hdct : Bool} {sn : List Str} {sub : List Value} {ab : Bool} {col : Option Bool} {dd : Option Addr} {k0 k1 k2 k3 k5 : Option Value}
theorem exc_check_init {M : Model} {v : Value} {Q : Unit → Shared → Prop} {h : Heap} {g : Array GenState} {d : Drawn} {tk : Nat} {os : OsState} (hC : h.get? C = some (excClassObj nm q C Nn bs (.ref P :: bmE) hdct sn sub ab col dd k0 k1 k2 k3 k5 "Exception.__new__"))
    (he : h.get? e = some { cls := .ref C, data := .fields #[.ref t, .none, .none, .none, .bool false, .none] }) (hq : Q () ⟨h, g, d, tk, os⟩) :
    wpAny M A (checkBuiltinCall "Exception.__init__" ⟨[.ref e, v], []⟩) Q E ⟨h, g, d, tk, os⟩ := by
  have F := PySem.F.excBase_Exception
  have hshort := F.noStar
  have hcB : (Value.ref C :: .ref P :: bmE).contains (.type "Exception") = true := by rw [List.contains_cons, List.contains_cons]; rfl
  simp only [checkBuiltinCall, F.initKind, F.initSplit, F.initRow]
  repeat (first | with_reducible refine wpAny_loadPart_at he ?_ | with_reducible refine wpAny_loadPart_at hC ?_ | (with_reducible refine wpAny_isSubtype_exc hC ?_; rw [hcB]) | wp_step)
  exact hq

set_option maxHeartbeats 4000000 in
theorem exc_setargs {v : Value} {Q : Value → Shared → Prop} (F : Fr h₀ L s.heap m) (N : News h₀ L s.heap ((e, excObj C t) :: rest)) (hr : ∀ p ∈ rest, p.1 ≠ e) (X : K.In h₀) (hC : K.lookup C = some (excClassObj nm q C Nn bs (.ref P :: bmE) hdct sn sub ab col dd k0 k1 k2 k3 k5 "Exception.__new__"))
    (h : ∀ h' t2, Fr h₀ L h' m → News h₀ L h' ((t2, tupObj [v]) :: (e, excObj C t2) :: rest) → t2 ≠ e → (∀ p ∈ rest, p.1 ≠ t2) → Q .none { s with heap := h' }) :
    wpAny (model prog w) A (call (.builtin "Exception.__init__") [.ref e, v]) Q E s := by
  have FB := PySem.F.excBase_Exception
  obtain ⟨hh, g, d, tk, os⟩ := s
  have X' : K.In hh := X.keeps F.keep
  have hget : hh.get? e = some { cls := .ref C, data := .fields #[.ref t, .none, .none, .none, .bool false, .none] } := (N _ (.head _)).1
  refine wpAny_call (codeAny_call_builtin FB.init.plain FB.initEntry (exc_check_init (X' _ _ hC) hget ?_))
  unfold Builtin.«BaseException.__init__»
  wp_walk
  have hne : e ≠ hh.objs.size := Nat.ne_of_lt (Heap.lt_size hget)
  have N1 := N.push F (tupObj [v])
  have U := news_upd (pre := [(hh.objs.size, tupObj [v])]) (post := rest) (d := e) (o := excObj C t) (o' := excObj C hh.objs.size) (f := Obj.mapFields (·.setIfInBounds 0 (.ref hh.objs.size))) (F.push (tupObj [v])) N1
    (fun p hp => by rw [List.mem_singleton.mp hp]; exact hne.symm) hr rfl rfl
  exact h _ _ U.1 U.2 hne.symm (fun p hp => Nat.ne_of_lt (Heap.lt_size (N p (.tail _ hp)).1))

theorem refuse_exc (self : Value) : refuseLoop self "__setattr__" (.ref C :: .ref P :: bmE) = pure () := by
  rw [refuseLoop_ref, refuseLoop_ref]; exact PySem.F.store_Exception.passes self

set_option maxHeartbeats 4000000 in
theorem exc_setmsg {v : Value} {Q : Unit → Shared → Prop} {name : Str} {cd : ClassData} (F : Fr h₀ L s.heap m) (N : News h₀ L s.heap ((e, { cls := .ref C, data := .fields #[.ref t, .none, .none, .none, .bool false, .none] }) :: rest)) (hr : ∀ p ∈ rest, p.1 ≠ e) (X : K.In h₀)
    (hc : clsIn K C = some cd) (hm : cd.mro = .ref C :: .ref P :: bmE) (hd : cd.hasDict = true)
    (hs : findIn K (.ref C) "__setattr__" = some (some (.builtin "object.__setattr__"))) (ht : takerIn K C name = some none)
    (h : ∀ h' tk' dx od, Fr h₀ L h' m → News h₀ L h' ((dx, od) :: (e, { cls := .ref C, dict := some dx, data := .fields #[.ref t, .none, .none, .none, .bool false, .none] }) :: rest) → Q () { s with heap := h', toks := tk' }) :
    wpAny (model prog w) A (setAttr (.ref e) name v) Q E s := by
  obtain ⟨hh, g, d, tk, os⟩ := s
  have X' : K.In hh := X.keeps F.keep
  have hget : hh.get? e = some { cls := .ref C, data := .fields #[.ref t, .none, .none, .none, .bool false, .none] } := (N _ (.head _)).1
  have IT : Looks (model prog w) hh (typeOf (.ref e)) (.ref C) := (Looks.ld (part := some headPart) hget).andThen .now
  have SF := PySem.F.store_object
  have hm' : Looks (model prog w) hh (mroOf (.ref C)) cd.mro := (looks_clsIn X' hc).andThen .now
  have sub : Looks (model prog w) hh (isInstance (.ref e) (.type "object")) true := IT.andThen (looks_mroIn X' (by unfold mroIn; rw [hc, Option.bind_some, hm]; rfl))
  refine wpAny_bind (wpAny_mkText (wpAny_bind (wpAny_bind (wpAny_bind (IT _ _ _ _ (fun _ _ e => e) (looks_findIn X' hs _ _ _ _ (fun _ _ e => e) (wpAny_holding ?_)))))))
  rw [PySem.F.store_object.slot.bind]
  refine wpAny_bind (wpAny_pure (wpAny_bind (wpAny_call ?_)))
  refine codeAny_call_builtin SF.slot.plain SF.entry (@check_slot (model prog w) _ _ ⟨hh, g, d, tk + 1, os⟩ "object.__setattr__" "object" "__setattr__" (.ref e) [.str name tk, v] [] _ SF.kind SF.split sub (SF.args (.ref e) (.str name tk) v) ?_)
  obtain ⟨attr, ha, hr'⟩ := Option.bind_eq_some_iff.mp ht
  have L3 : Looks (model prog w) hh (Builtin.ObjectAttr.storeTaker? attr) none := by
    cases attr with
    | none => exact .now
    | some a =>
      obtain ⟨b, hb, hb2⟩ := Option.map_eq_some_iff.mp hr'
      refine (looks_takesIn X' hb).andThen ?_
      cases b with
      | true => cases hb2
      | false => exact .now
  show wpAny _ _ (Builtin.«object.__setattr__» ⟨[.ref e, .str name tk, v], []⟩) _ _ ⟨hh, g, d, tk + 1, os⟩
  rw [osa_eq, refuse_eq]
  refine wpAny_bind (wpAny_bind (IT.here (wpAny_bind (hm'.here ?_))))
  rw [hm, refuse_exc]
  refine wpAny_pure (wpAny_bind (IT.here (wpAny_bind ((looks_findIn X' ha).here (wpAny_bind (L3.here ?_))))))
  dsimp only
  unfold Builtin.ObjectAttr.storeInOwnDict
  refine wpAny_bind (wpAny_pure ?_)
  show wpAny _ _ (Builtin.ObjectAttr.ownDictForStores (.ref e) >>= _) _ _ _
  refine wpAny_bind ?_
  unfold Builtin.ObjectAttr.ownDictForStores instanceDict
  refine wpAny_bind (wpAny_loadPart hget ?_)
  refine wpAny_bind ((looks_clsIn X' hc).here ?_)
  rw [hd]
  show wpAny _ _ (alloc { cls := .type "dict", data := .dict #[] } >>= _) _ _ _
  refine wpAny_bind (wpAny_alloc ?_)
  have hx₁ : (hh.push emptyDict).get? e = some { cls := .ref C, data := .fields #[.ref t, .none, .none, .none, .bool false, .none] } := Heap.get?_push_of_some _ hget
  refine wpAny_bind (wpAny_update hx₁ ?_)
  refine wpAny_pure ?_
  show wpAny _ _ (Builtin.ObjectAttr.storeInDict hh.objs.size (.str name tk) name v) _ _ ⟨(hh.push emptyDict).update e fun o => { cls := o.cls, dict := some hh.objs.size, data := o.data, slots := o.slots }, g, d, tk + 1, os⟩
  have hxs : e ≠ hh.objs.size := Nat.ne_of_lt (Heap.lt_size hget)
  have N1 := N.push F emptyDict
  have U := news_upd (pre := [(hh.objs.size, emptyDict)]) (post := rest) (d := e) (o' := { cls := .ref C, dict := some hh.objs.size, data := .fields #[.ref t, .none, .none, .none, .bool false, .none] }) (f := fun o => { cls := o.cls, dict := some hh.objs.size, data := o.data, slots := o.slots }) (F.push emptyDict) N1
    (fun p hp => by rw [List.mem_singleton.mp hp]; exact hxs.symm) hr rfl rfl
  obtain ⟨U1, U2⟩ := U
  have hgd := (U2 _ (.head _)).1
  unfold Builtin.ObjectAttr.storeInDict Builtin.ObjectAttr.newKeyGuard
  refine wpAny_bind (wpAny_pure (wpAny_bind (wpAny_nsSet1 (Heap.Ns1.of_empty ⟨_, #[], _, hgd, rfl, fun e he => absurd he (by simp), fun _ => rfl⟩) fun h' hn' hs => ?_)))
  obtain ⟨oD, esD, epD, hoD, hdD, hcD⟩ := hn'.count (Within.cons name v Within.nil)
  refine wpAny_bind (wpAny_lookBehind hoD (by rw [hdD]; exact pastItsLine_dict (Nat.le_trans hcD (by rw [List.length_cons, List.length_nil, sizeLine_eq]; omega))) ?_)
  refine wpAny_pure (wpAny_pure (wpAny_pure ?_))
  obtain ⟨oL, esL, epL, hL, rL⟩ := U1.ns
  have hLD : L ≠ hh.objs.size := fun q => (U2 _ (.head _)).2.1 q.symm
  refine h h' _ hh.objs.size oD ⟨⟨oL, esL, epL, (hs.2 L hLD).trans hL, rL⟩, fun b o q => (hs.2 b fun z => ?_).trans (U1.keep b o q), U1.above⟩ fun p hp => ?_
  · have := (U2 _ (.head _)).2.2
    dsimp only at this
    rw [← z, q] at this
    cases this
  · rcases List.mem_cons.mp hp with rfl | hp
    · exact ⟨hoD, (U2 _ (.head _)).2⟩
    · have P := U2 p (.tail _ hp)
      refine ⟨(hs.2 p.1 fun z => ?_).trans P.1, P.2⟩
      rcases List.mem_cons.mp hp with rfl | hp
      · exact hxs z
      · have q := Heap.lt_size (N p (.tail _ hp)).1
        rw [z] at q
        exact absurd q (Nat.lt_irrefl _)
end
end
section
example : True := by
  w_top off
  trivial
local macro_rules | `(tactic| k_all) => `(tactic| assumption)
theorem exc_meta : typeOf (.type "Exception") = pure (.type "type") := by kernel_rfl

/-- what making an exception of the text's own leaves: the exception, its argument -/
abbrev excMade (C e t dx : Addr) : Obj := { cls := .ref C, dict := some dx, data := .fields #[.ref t, .none, .none, .none, .bool false, .none] }

set_option maxHeartbeats 8000000 in
theorem exc_con (w : World) (msg : Str) (zt : Tok) (news : List (Addr × Obj)) (C Nn : Addr) {nm q : Str} {bs : List Value} {hdct : Bool} {sn : List Str} {sub : List Value} {ab : Bool} {col : Option Bool} {dd : Option Addr} {k0 k1 k2 k3 k5 : Option Value}
    (hC : (hd.K.heap_1 w.params).lookup C = some (excClassObj nm q C Nn bs (.ref 31 :: bmE) hdct sn sub ab col dd k0 k1 k2 k3 k5 "Exception.__new__")) (hdc : hdct = true)
    (hl : findIn (hd.K.heap_1 w.params) (.ref C) "__init__" = some (some (.ref 28)))
    (hs : findIn (hd.K.heap_1 w.params) (.ref C) "__setattr__" = some (some (.builtin "object.__setattr__"))) (ht : takerIn (hd.K.heap_1 w.params) C "message" = some none) :
    Con w C [.str msg zt] news 2 20 (fun v news' => ∃ e t dx, v = .ref e ∧ t ≠ e ∧ (∀ p ∈ news, p.1 ≠ e ∧ p.1 ≠ t) ∧ news' = (e, excMade C e t dx) :: (t, tupObj [.str msg zt]) :: news) := by
  intro dp un gd cn cs_ a_ ccd cl outer A₀ base h₀ L m mg mb mean s Q E B F X N T hk hd hu hret
  obtain ⟨hh, g, d, tk0, os⟩ := s
  have X' : (Mine.hd.K.heap_1 w.params).In hh := X.keeps F.keep
  refine' exc_make (C := C) (P := 31) (N := Nn) (fI := 28) (X' C _ hC) (looks_findIn X' hl) (fun self => bind_fn X' self ?f) (by show 1 ≤ sizeLine; decide) ?_
  case f => k_dflt k_is
  have hc : clsIn (Mine.hd.K.heap_1 w.params) C = some { name := nm, bases := bs, mro := .ref C :: .ref 31 :: bmE, ns := Nn, qualname := q, hasDict := hdct, slotNames := sn, subclasses := sub, abstract := ab, collection := col, hasDel := false } := by
    unfold clsIn; rw [hC]
  have F1 := (F.push (tupObj [.str msg zt])).push (excObj C hh.objs.size)
  have N1 := (N.push F (tupObj [.str msg zt])).push (F.push _) (excObj C hh.objs.size)
  rw [Heap.size_push] at N1
  have hne : ∀ p ∈ (hh.objs.size, tupObj [.str msg zt]) :: news, p.1 ≠ hh.objs.size + 1 := by
    intro p hp
    rcases List.mem_cons.mp hp with rfl | hp
    · exact Nat.ne_of_lt (Nat.lt_succ_self _)
    · have := Heap.lt_size (N p hp).1
      exact Nat.ne_of_lt (Nat.lt_succ_of_lt this)
  generalize hh.objs.size + 1 = e at N1 hne ⊢
  refine wpAny_call ?_
  k_dflt cell_enter
  k_steps
  refine' method_type ?F ?X exc_meta (by decide +kernel) ?e ?h ?_
  case F => k_asm
  case X => k_asm
  case e => k_dflt k_is
  case h => k_handed
  k_steps
  refine exc_setargs (P := 31) (by k_asm) (by k_asm) hne (by k_asm) hC ?_
  intro h2 t2 F2 N2 n1 n2
  k_steps
  have N3 : News _ _ h2 ((e, excObj C t2) :: (t2, tupObj [.str msg zt]) :: (hh.objs.size, tupObj [.str msg zt]) :: news) := fun p hp => N2 p (by
    rcases List.mem_cons.mp hp with rfl | hp
    · exact .tail _ (.head _)
    · rcases List.mem_cons.mp hp with rfl | hp
      · exact .head _
      · exact .tail _ (.tail _ hp))
  refine exc_setmsg (P := 31) (by k_asm) N3 ?_ (by k_asm) hc rfl hdc hs ht ?_
  · intro p hp
    rcases List.mem_cons.mp hp with rfl | hp
    · exact n1
    · exact hne p hp
  intro h4 tk4 dx od F4 N4
  k_steps
  refine hret _ ((e, excMade C e t2 dx) :: (t2, tupObj [.str msg zt]) :: news) _ _ (by assumption) (kst_newsOf (by assumption) ?_) ⟨e, t2, dx, rfl, n1, fun p hp => ⟨hne p (.tail _ hp), n2 p (.tail _ hp)⟩, rfl⟩
  intro p hp
  rcases List.mem_cons.mp hp with rfl | hp
  · exact .tail _ (.head _)
  · rcases List.mem_cons.mp hp with rfl | hp
    · exact .tail _ (.tail _ (.head _))
    · exact .tail _ (.tail _ (.tail _ (.tail _ hp)))

/-- the text's three exceptions -/
theorem exc_con44 (w : World) (msg : Str) (zt : Tok) (news : List (Addr × Obj)) :
    Con w 44 [.str msg zt] news 2 20 (fun v news' => ∃ e t dx, v = .ref e ∧ t ≠ e ∧ (∀ p ∈ news, p.1 ≠ e ∧ p.1 ≠ t) ∧ news' = (e, excMade 44 e t dx) :: (t, tupObj [.str msg zt]) :: news) := by
  refine' exc_con w msg zt news 44 43 ?a rfl ?b ?c ?d
  case a => k_dflt k_is
  case b => k_dflt k_is
  case c => k_dflt k_is
  case d => k_dflt k_is
theorem exc_con56 (w : World) (msg : Str) (zt : Tok) (news : List (Addr × Obj)) :
    Con w 56 [.str msg zt] news 2 20 (fun v news' => ∃ e t dx, v = .ref e ∧ t ≠ e ∧ (∀ p ∈ news, p.1 ≠ e ∧ p.1 ≠ t) ∧ news' = (e, excMade 56 e t dx) :: (t, tupObj [.str msg zt]) :: news) := by
  refine' exc_con w msg zt news 56 55 ?a rfl ?b ?c ?d
  case a => k_dflt k_is
  case b => k_dflt k_is
  case c => k_dflt k_is
  case d => k_dflt k_is
theorem exc_con68 (w : World) (msg : Str) (zt : Tok) (news : List (Addr × Obj)) :
    Con w 68 [.str msg zt] news 2 20 (fun v news' => ∃ e t dx, v = .ref e ∧ t ≠ e ∧ (∀ p ∈ news, p.1 ≠ e ∧ p.1 ≠ t) ∧ news' = (e, excMade 68 e t dx) :: (t, tupObj [.str msg zt]) :: news) := by
  refine' exc_con w msg zt news 68 67 ?a rfl ?b ?c ?d
  case a => k_dflt k_is
  case b => k_dflt k_is
  case c => k_dflt k_is
  case d => k_dflt k_is
end
section
section
variable {prog : Program} {w : World} {A : Around} {E : Value → Shared → Prop} {s : Shared} {env : Env}

/-- what makes a value raise: an exception object of a class of the text's own -/
def RaisableM (E : Value → Shared → Prop) (v : Value) (s₁ : Shared) : Prop :=
  ∃ e t dx C nm q N bs hdct sn sub ab col dd k0 k1 k2 k3 k5, v = .ref e ∧ s₁.heap.get? e = some (excMade C e t dx) ∧ s₁.heap.get? C = some (excClassObj nm q C N bs (.ref 31 :: bmE) hdct sn sub ab col dd k0 k1 k2 k3 k5 "Exception.__new__") ∧ E (.ref e) s₁

set_option maxHeartbeats 4000000 in
theorem Raise_mine {e : Expr} {pos : Pos} {Q : Flow → Shared → Prop} (hh : A.handled = none)
    (h : wpAny (model prog w) A (eval e env) (RaisableM E) E s) : wpAny (model prog w) A (exec (.Raise (some e) none pos) env) Q E s := by
  show wpAny _ A (do standAt pos; raiseStmt env (some (do let v ← eval e env; standAt pos; pure v)) none) Q E s
  refine wpAny_bind (wpAny_standAt ?_)
  unfold raiseStmt
  dsimp only
  refine wpAny_bind (wpAny_bind (wpAny_mono h (fun v s₁ h₁ => wpAny_bind (wpAny_standAt (wpAny_pure ?_))) fun _ _ x => x))
  obtain ⟨e, t, dx, C, nm, q, N, bs, hdct, sn, sub, ab, col, dd, k0, k1, k2, k3, k5, rfl, he, hC, hE⟩ := h₁
  have hcB : (Value.ref C :: .ref 31 :: bmE).contains (.type "BaseException") = true := by rw [List.contains_cons, List.contains_cons]; rfl
  obtain ⟨hp, g, d, tk, os⟩ := s₁
  have he' : hp.get? e = some { cls := .ref C, dict := some dx, data := .fields #[.ref t, .none, .none, .none, .bool false, .none] } := he
  repeat (first | with_reducible refine wpAny_loadPart_at he' ?_ | with_reducible refine wpAny_loadPart_at hC ?_ | (with_reducible refine wpAny_isSubtype_exc hC ?_; rw [hcB]) | wp_step)
  exact wpAny_raiseNew_none hh hE
end

section
variable {M : Model} {A : Around} {E : Value → Shared → Prop} {s' : Shared} {base g : Heap} {outer : List Env} {L a e t dx C : Addr} {m : Str → Option Value} {name : Str} {scope : Scope} {cd : Value} {Q : Unit → Shared → Prop} {news : List (Addr × Obj)}
theorem leave_raiseM {vs : List Value} (K : Below A base outer g) (F : Fr g L s'.heap m) (N : News g L s'.heap ((e, excMade C e t dx) :: (t, tupObj vs) :: news)) (hn : ∀ p ∈ news, p.1 ≠ e ∧ p.1 ≠ t)
    (hQ : ∀ h', RaisedS base g outer e (.ref C) t vs news h' → RaisedK base outer e (.ref C) t vs news h' → g.UpToSlots h' → Q () { s' with heap := h' }) (hk : scope.kind = .function := by rfl) :
    wpAny M (A.deeper (envOf name scope L a cd)) (leaving (envOf name scope L a cd) (.ref e)) Q E s' := by
  have K' := K.push (name := name) (a := a) (cd := cd) F hk
  obtain ⟨he, heL, heg⟩ := N _ (.head _)
  obtain ⟨ht, htL, htg⟩ := N _ (.tail _ (.head _))
  dsimp only at he heL heg ht htL htg
  let fs := (envOf name scope L a cd :: outer).filterMap (·.frame)
  let B := hideAll s'.heap (e :: t :: fs)
  have notf : ∀ b, g.get? b = none → b ≠ L → b ∉ fs := fun b hb hL hm => by
    rcases kts_mem hm with z | z
    · exact hL z
    · obtain ⟨o, ho, _⟩ := (K.frames.mem z).2
      rw [hb] at ho; cases ho
  have hin : ∀ env ∈ (envOf name scope L a cd :: outer), ∀ b, env.frame = some b → b ∈ e :: t :: fs := fun env he b hb => .tail _ (.tail _ (List.mem_filterMap.mpr ⟨env, he, hb⟩))
  have gone : ∀ b o, g.get? b = some o → b ∉ fs → B.get? b = some o := fun b o q nm => hideAll_get _ (F.keep b o q) fun hm => by
    rcases List.mem_cons.mp hm with z | hm
    · rw [z, heg] at q; cases q
    · rcases List.mem_cons.mp hm with z | hm
      · rw [z, htg] at q; cases q
      · exact nm hm
  have st : base.StaysIn B := fun b o q => hideAll_get _ (K'.stays b o q) fun hm => by
    have q' := K.stays b o q
    rcases List.mem_cons.mp hm with z | hm
    · rw [z, heg] at q'; cases q'
    · rcases List.mem_cons.mp hm with z | hm
      · rw [z, htg] at q'; cases q'
      · rw [(K'.frames.mem hm).1] at q; cases q
  have sg : ∀ b o, g.get? b = some o → b ∉ outer.filterMap (·.frame) → B.get? b = some o := fun b o q nm => gone b o q fun hm => by
    rcases kts_mem hm with z | z
    · rw [z, kts_self F] at q; cases q
    · exact nm z
  have hl : ∀ q ∈ news, B.get? q.1 = some q.2 ∧ g.get? q.1 = none ∧ base.get? q.1 = none := fun q hq => by
    have P := N q (.tail _ (.tail _ hq))
    refine ⟨hideAll_get _ P.1 fun hm => ?_, P.2.2, fresh_of_stays K.stays P.2.2⟩
    rcases List.mem_cons.mp hm with z | hm
    · exact (hn q hq).1 z
    · rcases List.mem_cons.mp hm with z | hm
      · exact (hn q hq).2 z
      · exact notf _ P.2.2 P.2.1 hm
  refine wpAny_leaving_firstW (base := B) (a0 := .ref t) K'.stack (funFrames_hide K'.frames hin) rfl he (fun b o hb => of_hideAll _ hb) (hideAll_none _ (.head _)) rfl rfl rfl fun h' hL => ?_
  obtain ⟨k1, ⟨_, _, k2⟩, k3, k4⟩ := hL
  have R : RaisedS base g outer e (.ref C) t vs news h' := ⟨⟨B, st, sg, hl, ⟨k1, hideAll_none _ (.head _), k2, k3⟩, hideAll_none _ (.tail _ (.head _))⟩, Heap.TupAt.of_slots ⟨_, _, ht, rfl, rfl⟩ k4⟩
  exact hQ h' R R.toK ((Heap.UpToSlots.of_keeps F.keep).trans k4)
end
end
section
section
variable {M : Model} {A : Around} {E : Value → Shared → Prop}
variable {nm q : Str} {C N P C' : Addr} {bs bm : List Value} {hdct : Bool} {sn : List Str} {sub : List Value} {ab : Bool} {col : Option Bool} {dd : Option Addr} {k0 k1 k2 k3 k5 : Option Value} {newId : String}
variable {nm' q' : Str} {N' : Addr} {bs' bm' : List Value} {hdct' : Bool} {sn' : List Str} {sub' : List Value} {ab' : Bool} {col' : Option Bool} {dd' : Option Addr} {k0' k1' k2' k3' k5' : Option Value} {newId' : String}

theorem excMatches_other {h : Heap} {g : Array GenState} {d : Drawn} {t : Nat} {os : OsState} {e : Addr} {oe : Obj} {Q : Bool → Shared → Prop}
    (hC : h.get? C = some (excClassObj nm q C N bs bm hdct sn sub ab col dd k0 k1 k2 k3 k5 newId)) (hC' : h.get? C' = some (excClassObj nm' q' C' N' bs' bm' hdct' sn' sub' ab' col' dd' k0' k1' k2' k3' k5' newId'))
    (he : h.get? e = some oe) (hcls : oe.cls = .ref C) (hbase : bm'.contains (.type "BaseException") = true) (hno : (Value.ref C :: bm).contains (.ref C') = false)
    (hq : Q false ⟨h, g, d, t, os⟩) : wpAny M A (excMatches (.ref e) (.ref C')) Q E ⟨h, g, d, t, os⟩ := by
  have hcB : (Value.ref C' :: bm').contains (.type "BaseException") = true := by rw [List.contains_cons, hbase, Bool.or_true]
  have f := tc_notTuple
  unfold excMatches
  repeat (first | (with_reducible refine wpAny_loadPart_at he ?_; rw [hcls]) | with_reducible refine wpAny_loadPart_at hC' ?_ | (with_reducible refine wpAny_isSubtype_exc hC' ?_; rw [hcB]) | (with_reducible refine wpAny_isSubtype_exc hC ?_; rw [hno]) | wp_step)
  exact hq
end

section
variable {prog : Program} {w : World} {A₀ : Around} {E : Value → Shared → Prop} {s' : Shared} {base g g₀ G : Heap} {outer : List Env} {L a e t C D' : Addr} {m : Str → Option Value} {name : Str} {scope : Scope} {cd : Value}
  {vs : List Value} {n : Str} {b₀ c₀ : Stmt} {suite suite' : List Stmt} {pos np pos' np' : Pos} {rest : List ExceptHandler} {Q : Flow → Shared → Prop} {news : List (Addr × Obj)} {KF : Frag}
  {p : Program} {loose : List Str} {mean : ExcName → Option Value} {mg mb : Str → Option Value} {x y : Str}

theorem caught_second (R : RaisedS base G (envOf name scope L a cd :: outer) e (.ref C) t vs news s'.heap) (F : Fr g L G m) (K : Below A₀ base outer g) (hsm : G.UpToSlots s'.heap) (XB : KF.In base) (TB : Top p loose mean mg mb base)
    (D : KtsDicts (outer.filterMap (·.frame)) g) (T0 : KtsTurn (outer.filterMap (·.frame)) g₀ g)
    (ey : nsIn KF mainGlobals y = some (some (.ref D'))) (q' : ktsIn KF D' "BaseException" = true) (hno : mroIn KF C (.ref D') = some false)
    (ex : nsIn KF mainGlobals x = some (some (.ref C))) (q : ktsIn KF C "BaseException" = true)
    (k : ∀ h' g' news₂, KtsTurn (outer.filterMap (·.frame)) g₀ g' → Fr g' L h' m → News g' L h' news₂ → Got news₂ e t (.ref C) vs → News g' L h' news → Below A₀ base outer g' → KF.In g' → Top p loose mean mg mb g' → KtsDicts (outer.filterMap (·.frame)) g' →
      wpAny (model prog w) ((A₀.deeper (envOf name scope L a cd)).mark (some (.ref e))) (execs (b₀ :: suite) (envOf name scope L a cd)) Q E { s' with heap := h' })
    (hk : scope.kind = .function := by rfl) (hx : (envOf name scope L a cd).kindOf x = some .globalImplicit := by rfl) (hd : (x == ("__debug__" : Str)) = false := by decide)
    (hy : (envOf name scope L a cd).kindOf y = some .globalImplicit := by rfl) (hdy : (y == ("__debug__" : Str)) = false := by decide)
    (hE : PassesOwnAt (model prog w) ((A₀.deeper (envOf name scope L a cd)).mark (some (.ref e))) (A₀.deeper (envOf name scope L a cd)) (envOf name scope L a cd) E := by passes_own) :
    wpAny (model prog w) (A₀.deeper (envOf name scope L a cd)) (noteFrame (.ref e) (envOf name scope L a cd))
      (fun _ s₂ => wpAny (model prog w) (A₀.deeper (envOf name scope L a cd)) (setFlight (.ref e) none) (fun _ s₃ =>
        wpAny (model prog w) (A₀.deeper (envOf name scope L a cd)) (handleBy (.ref e) (envOf name scope L a cd) (.ExceptHandler (some (.Name y np')) none (c₀ :: suite') pos' :: .ExceptHandler (some (.Name x np)) none (b₀ :: suite) pos :: rest)) Q E s₃) E s₂) E s' := by
  obtain ⟨⟨B, hB, hBG, hl, hfl, hnew⟩, htup⟩ := R
  have hL : B.get? L = none := by
    obtain ⟨_, ⟨L', _, hf, hn', _⟩, _⟩ := hfl.2.2.1
    obtain rfl : L = L' := Option.some.inj hf
    exact hn'
  refine wpAny_looks_onW (Around.frames_deeper K.stack) rfl hfl fun h₄ hheld₄ hsm₄ => ?_
  refine wpAny_landsW hheld₄ fun h₅ hheld hsm₅' => ?_
  have hsm₅ := hsm₄.trans hsm₅'
  obtain ⟨g₅, T₅, F₅, K₅⟩ := kts_ground K F hBG hheld.1 (hsm.trans hsm₅)
  have X₅ : KF.In g₅ := XB.keeps K₅.stays
  have P₅ : TopRead p loose mg mb g₅ := topRead_of (TB.keeps K₅.stays)
  obtain ⟨ob, hob, hobc⟩ := hheld.there
  obtain ⟨nm, qn, N, bs, bm, hdct, sn, sub, ab, col, dd, k0, k1, k2, k3, k5, newId, hC, hbase, hbT⟩ := kts_cls X₅ q
  obtain ⟨nm', qn', N', bs', bm', hdct', sn', sub', ab', col', dd', k0', k1', k2', k3', k5', newId', hC', hbase', hbT'⟩ := kts_cls X₅ q'
  have hC₅ := F₅.keep _ _ hC
  have hC₅' := F₅.keep _ _ hC'
  have hno' : (Value.ref C :: bm).contains (.ref D') = false := by
    unfold mroIn at hno
    obtain ⟨cd', hcd, hno⟩ := Option.bind_eq_some_iff.mp hno
    unfold clsIn at hcd
    split at hcd
    · rename_i hlk
      have z := X₅ _ _ hlk
      rw [hC] at z
      cases z
      cases hcd
      split at hno
      · cases hno
      · exact Option.some.inj hno
    · cases hcd
  refine wpAny_handleBy_cons (codeAny_handlers_test (name_K F₅ X₅ P₅ ey ?_ hk hy hdy)) (by intro q; cases q)
  refine excMatches_other hC₅ hC₅' hob hobc hbase' hno' ?_
  refine wpAny_handleBy_cons (codeAny_handlers_test (name_K F₅ X₅ P₅ ex ?_ hk hx hd)) (by intro q; cases q)
  refine wpAny_excMatches_sub_self hC₅ hob hobc hbase (codeAny_handlers_suite ?_)
  refine lands_againW hheld fun h₆ hfl₆ hsm₆ => ?_
  obtain ⟨g₆, T₆, F₆, K₆⟩ := kts_ground K F hBG hfl₆.1 ((hsm.trans hsm₅).trans hsm₆)
  obtain ⟨oe, ws, hoe, hoec, hoed, hoe0⟩ := hfl₆.first
  obtain ⟨ot, nt, hot, hotc, hotd⟩ := (htup.of_slots hsm₅).of_slots hsm₆
  have ne₆ : g₆.get? e = none := T₆.none_ _ (kts_fresh F hBG hfl₆.2.1 fun o ho m => by
    obtain ⟨_, o', ho', hd⟩ := K.frames.mem m
    rw [ho] at ho'
    cases ho'
    obtain ⟨sl, hs⟩ := ((hsm.trans hsm₅).trans hsm₆) _ _ (F.keep _ _ ho) hd
    rw [hoe] at hs
    cases hs
    exact hd _ hoed)
  have nt₆ : g₆.get? t = none := T₆.none_ _ (kts_fresh F hBG hnew fun o ho m => by
    obtain ⟨o', es, n', ho', hd⟩ := D _ m
    rw [ho] at ho'
    cases ho'
    obtain ⟨sl, hs⟩ := ((hsm.trans hsm₅).trans hsm₆) _ _ (F.keep _ _ ho) (fun vs q => by rw [hd] at q; cases q)
    rw [hot] at hs
    cases hs
    have z := hd.symm.trans hotd
    cases z)
  have N₆ := News.more F₆ (News.more F₆ News.nil hot (fun es n q => by rw [hotd] at q; cases q) nt₆) hoe (fun es n q => by rw [hoed] at q; cases q) ne₆
  have Nl : News g₆ L h₆ news := fun q hq => ⟨hfl₆.1 _ _ (hl q hq).1, (fun z => by have := (hl q hq).1; rw [z, hL] at this; cases this), T₆.none_ _ (kts_none F.keep (hl q hq).2.1)⟩
  exact wpAny_passesOwnAt hE (k h₆ g₆ _ (T0.trans T₆) F₆ N₆ ⟨oe, ot, ws, nt, .head _, .tail _ (.head _), hoec, hoed, hoe0, hotc, hotd⟩ Nl K₆ (XB.keeps K₆.stays) (TB.keeps K₆.stays) (D.turn T₆))
end

section
variable {prog : Program} {w : World} {A₀ A : Around} {s : Shared} {base h₀ : Heap} {outer : List Env} {L : Addr} {m : Str → Option Value} {env : Env} {news : List (Addr × Obj)} {K : Frag} {p : Program} {loose : List Str} {mean : ExcName → Option Value} {mg mb : Str → Option Value}
    {R : Result → Shared → Prop} {name qual : Str} {params : Arguments} {body : List Stmt} {scope : Scope} {dV kV doc pm cdv ct oc : Value} {an od : Option Addr} {osl : Array (Option Value)} {f : Addr} {args : Args} {binds : List (Str × Value)}

theorem mem_frames {b : Addr} (hf : env.frame = some L) (hm : b ∈ (env :: outer).filterMap (·.frame)) : b = L ∨ b ∈ outer.filterMap (·.frame) := by
  obtain ⟨env', he, hf'⟩ := List.mem_filterMap.mp hm
  rcases List.mem_cons.mp he with rfl | he
  · exact .inl (Option.some.inj (hf.symm.trans hf')).symm
  · exact .inr (List.mem_filterMap.mpr ⟨env', he, hf'⟩)

/-- how a def that catches is left: the frames below may have been given their frame objects -/
def LeaveT (fs : List Addr) (A₀ : Around) (base : Heap) (outer : List Env) (K : Frag) (p : Program) (loose : List Str) (mean : ExcName → Option Value) (mg mb : Str → Option Value) (h₀ : Heap) (L : Addr) (m : Str → Option Value) (g : Heap) (R : Result → Shared → Prop) (v : Value) (s' : Shared) : Prop :=
  ∃ g' L' m' news', KtsTurn fs g g' ∧ Fr g' L' s'.heap m' ∧ News g' L' s'.heap news' ∧ ∀ h₀', KtsTurn (outer.filterMap (·.frame)) h₀ h₀' → Fr h₀' L s'.heap m → News h₀' L s'.heap news' → Below A₀ base outer h₀' → K.In h₀' → Top p loose mean mg mb h₀' →
    KtsDicts (outer.filterMap (·.frame)) h₀' → R (.ok (.ret v)) s'

theorem code_defT (B : Below A₀ base outer h₀) (F : Fr h₀ L s.heap m) (X₀ : K.In h₀) (N : News h₀ L s.heap news) (T : Top p loose mean mg mb h₀) (XB : K.In base) (TB : Top p loose mean mg mb base) (D : KtsDicts (outer.filterMap (·.frame)) h₀)
    (hA : A.frames = some (env :: outer)) (hfE : env.frame = some L) (hke : env.scope.kind = .function)
    (ho : K.lookup f = some ⟨oc, od, .func (fnOf name qual params body scope dV kV doc pm an cdv ct), osl⟩) (hcd : codeIn K cdv qual = true) (hroom : A.depth < recursionLimit)
    (hbind : BindsTo s (fnOf name qual params body scope dV kV doc pm an cdv ct) args binds) (hloc : ∀ y ∈ binds, scope.names.lookup y.1 = some .local)
    (h : ∀ g L' h₁, Fr h₀ L g m → Fr g L' h₁ (fun y => binds.reverse.lookup y) → News g L' h₁ news → Below A base (env :: outer) g → K.In g → Top p loose mean mg mb g → KtsDicts ((env :: outer).filterMap (·.frame)) g →
      wpAny (model prog w) (A.deeper (envOf qual scope L' f cdv)) (execs body (envOf qual scope L' f cdv))
        (fun fl s' => LeaveT ((env :: outer).filterMap (·.frame)) A₀ base outer K p loose mean mg mb h₀ L m g R (match fl with | .ret v => v | _ => .none) s')
        (fun e s' => wpAny (model prog w) (A.deeper (envOf qual scope L' f cdv)) (leaving (envOf qual scope L' f cdv) e) (fun _ s'' => R (.error e) s'') (fun e' s'' => R (.error e') s'') s')
        { s with heap := h₁, toks := s.toks + binds.length })
    (hco : scope.isCoroutine = false) (hgen : scope.isGenerator = false) (hk : scope.kind = .function)
    (hcell : ∀ x ∈ scope.names, x.2 ≠ .cell) : codeAny (model prog w) A (.call (.ref f) args) R s := by
  have X := X₀.keeps F.keep
  refine codeAny_call_def (fd := fnOf name qual params body scope dV kV doc pm an cdv ct) (body := body) (binds := binds) hroom (X _ _ ho) rfl (T.nolimit.keeps F.keep) (codeRec_of X hcd) rfl hbind hcell hloc (fun h₁ hns hk₁ => ?_) hco hgen hk
  obtain ⟨FG, B₂, st, _⟩ := groundX (R := R) B F N hA hfE hke
  obtain ⟨oL, es, ep, hL, hLd, hLk, hLf⟩ := FG.ns
  refine wpAny_mono (h _ s.heap.objs.size h₁ FG ⟨hns, fun b o e => hk₁ b o (of_hideAll _ e), Nat.le_of_eq (hideAll_size _ _)⟩
    (fun p hp => ⟨hk₁ _ _ (N p hp).1, Nat.ne_of_lt (Heap.lt_size (N p hp).1), hideAll_none _ (List.mem_map_of_mem hp)⟩) B₂ (X₀.keeps st) (T.keeps st) (fun b hb => by
      rcases mem_frames hfE hb with rfl | hb
      · exact ⟨oL, es, ep, hL, hLd⟩
      · obtain ⟨o, es', n', ho', hd'⟩ := D b hb
        exact ⟨o, es', n', st b o ho', hd'⟩)) (fun fl s' hl => ?_) fun _ _ y => y
  have nL₀ : h₀.get? L = none := kts_self F
  obtain ⟨g', L', m', news', T', F', N', k⟩ := hl
  obtain ⟨sl, hs⟩ := T'.up hL
  obtain ⟨T₁, S₁⟩ := kts_turn_at (h := s'.heap) (fs := outer.filterMap (·.frame)) (g := h₀)
    (fun b hb => by
      obtain ⟨_, o, ho', _⟩ := B.frames.mem hb
      exact ⟨o, ho'⟩)
    (fun b o e nmem => F'.keep b o (T'.other b o (st b o e) (fun q => by
      rcases mem_frames hfE q with z | z
      · rw [z, nL₀] at e
        cases e
      · exact nmem z)))
    (fun b o e hm => by
      obtain ⟨sl', hs'⟩ := T'.up (st b o e)
      exact ⟨sl', F'.keep _ _ hs'⟩)
  have B₃ : Below A₀ base outer (ktsHeap s'.heap (outer.filterMap (·.frame)) h₀) := ⟨B.stack, fun b o e => T₁.other b o (B.stays b o e) (fun hm => by
    rw [(B.frames.mem hm).1] at e
    cases e), B.frames.of_keeps fun b o e _ => by
    obtain ⟨sl', hs'⟩ := T₁.up e
    exact ⟨_, hs', rfl⟩⟩
  refine k _ T₁ ⟨⟨_, es, ep, F'.keep _ _ hs, hLd, hLk, hLf⟩, S₁, by rw [T₁.size]; exact F.above⟩ (fun p hp => ⟨(N' p hp).1, fun q => ?_, ?_⟩) B₃ (XB.keeps B₃.stays) (TB.keeps B₃.stays) (D.turn T₁)
  · have := (N' p hp).2.2; rw [q, hs] at this; cases this
  · refine T₁.none_ _ ?_
    cases q : h₀.get? p.1 with
    | none => rfl
    | some o =>
      obtain ⟨sl', hs'⟩ := T'.up (st _ _ q)
      have := (N' p hp).2.2
      rw [hs'] at this
      cases this
end
end
section
/-- a contract of a def that may raise: Bad says which class, and when; keep: what stands where it raises -/
def ConE (w : World) (f : Addr) (vs : List Value) (news keep : List (Addr × Obj)) (D U : Nat) (Post : Value → List (Addr × Obj) → Prop) (Bad : Addr → Prop) : Prop :=
  ∀ (dp un : Nat) (gd : Option (List Code)) (cn : Str) (cs : Scope) (a : Addr) (ccd : Value) (cl : List (Str × Addr)) (outer : List Env) (A₀ : Around) (base h₀ : Heap) (L : Addr) (m mg mb : Str → Option Value) (mean : ExcName → Option Value) (s : Shared) (Q E : Value → Shared → Prop),
    Below A₀ base outer h₀ → Fr h₀ L s.heap m → (hd.K.heap_1 w.params).In h₀ → News h₀ L s.heap news → Top hd.V (looseW hd.V []) mean mg mb h₀ → cs.kind = .function →
    dp + D < recursionLimit → un + U < cLine →
    (∀ v news' h' tk', Fr h₀ L h' m → News h₀ L h' news' → Post v news' → Q v { s with heap := h', toks := tk' }) →
    (∀ C e t vs' news2 G h' tk', Bad C → (∀ p ∈ keep, p ∈ news2) → Fr h₀ L G m → RaisedS base G (envX cn cs L a ccd cl :: outer) e (.ref C) t vs' news2 h' → RaisedK base (envX cn cs L a ccd cl :: outer) e (.ref C) t vs' news2 h' → G.UpToSlots h' → E (.ref e) { s with heap := h', toks := tk' }) →
    wpAny (model PySem.Challenge.rw_nt0542_01.row.prog w) (ktrTop dp un gd cn cs L a ccd cl outer) (call (.ref f) vs) Q E s

section
variable {w : World} {A : Around} {E : Value → Shared → Prop} {s : Shared} {K : Frag}
theorem raisable_of {h₀ : Heap} {L : Addr} {m : Str → Option Value} {e t dx C : Addr} {rest : List (Addr × Obj)} {nm q : Str} {N : Addr} {bs : List Value} {hdct : Bool} {sn : List Str} {sub : List Value} {ab : Bool} {col : Option Bool} {dd : Option Addr} {k0 k1 k2 k3 k5 : Option Value}
    (F : Fr h₀ L s.heap m) (X : K.In h₀) (hN : News h₀ L s.heap ((e, excMade C e t dx) :: rest)) (hC : K.lookup C = some (excClassObj nm q C N bs (.ref 31 :: bmE) hdct sn sub ab col dd k0 k1 k2 k3 k5 "Exception.__new__")) (hE : E (.ref e) s) : RaisableM E (.ref e) s :=
  ⟨e, t, dx, C, nm, q, N, bs, hdct, sn, sub, ab, col, dd, k0, k1, k2, k3, k5, rfl, (hN _ (.head _)).1, F.keep _ _ (X _ _ hC), hE⟩
end

section
variable {w : World} {f : Addr} {vs : List Value} {news keep : List (Addr × Obj)} {D U : Nat} {Post : Value → List (Addr × Obj) → Prop} {Bad : Addr → Prop}
  {dp un : Nat} {gd : Option (List Code)} {cn : Str} {cs : Scope} {a : Addr} {ccd : Value} {cl : List (Str × Addr)} {outer : List Env} {A₀ : Around} {base h₀ : Heap} {L : Addr} {m mg mb : Str → Option Value} {mean : ExcName → Option Value} {s : Shared} {Q E : Value → Shared → Prop}
theorem Con.use (c : Con w f vs news D U Post) (B : Below A₀ base outer h₀) (F : Fr h₀ L s.heap m) (X : (hd.K.heap_1 w.params).In h₀) (N : News h₀ L s.heap news) (T : Top hd.V (looseW hd.V []) mean mg mb h₀) (hk : cs.kind = .function)
    (hd : dp + D < recursionLimit) (hu : un + U < cLine) (hr : ∀ v news' h' tk', Fr h₀ L h' m → News h₀ L h' news' → Post v news' → Q v { s with heap := h', toks := tk' }) :
    wpAny (model PySem.Challenge.rw_nt0542_01.row.prog w) (ktrTop dp un gd cn cs L a ccd cl outer) (call (.ref f) vs) Q E s := c _ _ _ _ _ _ _ _ _ _ _ _ _ _ _ _ _ _ _ _ B F X N T hk hd hu hr
theorem ConE.use (c : ConE w f vs news keep D U Post Bad) (B : Below A₀ base outer h₀) (F : Fr h₀ L s.heap m) (X : (hd.K.heap_1 w.params).In h₀) (N : News h₀ L s.heap news) (T : Top hd.V (looseW hd.V []) mean mg mb h₀) (hk : cs.kind = .function)
    (hd : dp + D < recursionLimit) (hu : un + U < cLine) (hr : ∀ v news' h' tk', Fr h₀ L h' m → News h₀ L h' news' → Post v news' → Q v { s with heap := h', toks := tk' })
    (hb : ∀ C e t vs' news2 G h' tk', Bad C → (∀ p ∈ keep, p ∈ news2) → Fr h₀ L G m → RaisedS base G (envX cn cs L a ccd cl :: outer) e (.ref C) t vs' news2 h' → RaisedK base (envX cn cs L a ccd cl :: outer) e (.ref C) t vs' news2 h' → G.UpToSlots h' → E (.ref e) { s with heap := h', toks := tk' }) :
    wpAny (model PySem.Challenge.rw_nt0542_01.row.prog w) (ktrTop dp un gd cn cs L a ccd cl outer) (call (.ref f) vs) Q E s := c _ _ _ _ _ _ _ _ _ _ _ _ _ _ _ _ _ _ _ _ B F X N T hk hd hu hr hb
end
end
local macro_rules | `(tactic| k_all) => `(tactic| assumption)
local macro_rules | `(tactic| walk_at "exec Raise some none") => `(tactic| (k_here; (refine Raise_mine rfl ?_)))
local macro_rules | `(tactic| walk_at "con") => `(tactic| ((case B => k_asm); (case F => k_asm); (case X => k_asm); (case N => k_asm); (case T => k_asm); (case hk => first | exact rfl | assumption); (case hd => ktr_room); (case hu => ktr_units)))
local macro_rules | `(tactic| walk_at "raised") => `(tactic| (walk_at "con"; (intro v' news' h' tk' F' N' P'); (obtain ⟨e', t', ddx', hv', hte', hn', hN'⟩ := P'); (subst hv'); (subst hN'); (refine' raisable_of F' ?X N' ?c ?_); (case X => k_asm); (case c => k_dflt k_is)))
local macro_rules | `(tactic| walk_at "call ref") => `(tactic| (k_here; (with_reducible show wpAny _ _ (call (Value.ref 68) _) _ _ _); (refine' Con.use (exc_con68 _ _ _ _) ?B ?F ?X ?N ?T ?hk ?hd ?hu ?_); walk_at "raised"))
local macro_rules | `(tactic| walk_at "call ref") => `(tactic| (k_here; (with_reducible show wpAny _ _ (call (Value.ref 56) _) _ _ _); (refine' Con.use (exc_con56 _ _ _ _) ?B ?F ?X ?N ?T ?hk ?hd ?hu ?_); walk_at "raised"))
local macro_rules | `(tactic| walk_at "call ref") => `(tactic| (k_here; (with_reducible show wpAny _ _ (call (Value.ref 44) _) _ _ _); (refine' Con.use (exc_con44 _ _ _ _) ?B ?F ?X ?N ?T ?hk ?hd ?hu ?_); walk_at "raised"))
local macro_rules | `(tactic| walk_at "leaving ref") => `(tactic| (k_here; (refine' leave_raiseM ?K ?F ?N ?hn ?_); (case K => k_asm); (case N => assumption); (case F => k_asm); (case hn => assumption); intro h' R' K' U'))
local macro_rules | `(tactic| walk_at "enterC") => `(tactic| (refine' code_defC ?k1 ?k2 ?k3 ?k4 ?k5 ?kA ?kF ?kK ?k6 ?k7 ?k8 ?k9 ?kB ?kD ?_ ?c2 ?c3 ?c4; (case kA => exact rfl); (case kF => exact rfl); (case kK => assumption); (case k1 => k_asm); (case k2 => k_asm); (case k3 => k_asm); (case k4 => k_asm); (case k5 => k_asm); (case k6 => k_is); (case k7 => k_is); (case k8 => ktr_room); (case k9 => exact BindsTo.of_eq rfl); (case kB => exact rfl); (case kD => decide +kernel); (case c2 => exact rfl); (case c3 => exact rfl); (case c4 => exact rfl); k_whole; intro g' L' h' tk' cells' FG' F' N' Y' B' X' T' l1; (try k_lt l1); k_cells Y'; (try simp only [List.cons_append, List.nil_append] at N'); (try dsimp only); (try k_lift B'); (try k_fold)))
local macro_rules | `(tactic| walk_at "leaving ref") => `(tactic| (k_here; (refine' leave_onS ?K ?F ?R ?U ?_); (case R => assumption); (case K => k_asm); (case F => assumption); (case U => assumption); intro h' R' K' U'))
local macro_rules | `(tactic| walk_at "exec For Name Name cons nil") => `(tactic| (k_here; (refine Stop.of ?_)))
local macro_rules | `(tactic| walk_at "exec For") => `(tactic| (k_here; (refine Stop.of ?_)))
local macro_rules | `(tactic| k_mem) => `(tactic| first | assumption | (refine List.Mem.tail _ ?_; k_mem))
local macro_rules | `(tactic| walk_at "exec For Name Call cons nil") => `(tactic| (k_here; (refine Stop.of ?_)))
local macro_rules | `(tactic| walk_at "pyIter ref") => `(tactic| (k_here; (with_reducible show wpAny _ _ _ (fun _ _ => LoopM _ _ _ _ _ _ _ _ _ _ _) _ _); (refine Stop.of ?_)))
local macro_rules | `(tactic| walk_at "call ref") => `(tactic| (k_here; (first | (with_reducible show wpAny _ _ (call (Value.ref 77) _) _ _ _) | (with_reducible show wpAny _ _ (call (Value.ref 84) _) _ _ _) | (with_reducible show wpAny _ _ (call (Value.ref 115) _) _ _ _) | (with_reducible show wpAny _ _ (call (Value.ref 112) _) _ _ _) | (with_reducible show wpAny _ _ (call (Value.ref 147) _) _ _ _) | (with_reducible show wpAny _ _ (call (Value.ref 175) _) _ _ _) | (with_reducible show wpAny _ _ (call (Value.ref 168) _) _ _ _) | (with_reducible show wpAny _ _ (call (Value.ref 105) _) _ _ _) | (with_reducible show wpAny _ _ (call (Value.ref 180) _) _ _ _) | (with_reducible show wpAny _ _ (call (Value.ref 185) _) _ _ _) | (with_reducible show wpAny _ _ (call (Value.ref 190) _) _ _ _) | (with_reducible show wpAny _ _ (call (Value.ref 197) _) _ _ _) | (with_reducible show wpAny _ _ (call (Value.ref 204) _) _ _ _) | (with_reducible show wpAny _ _ (call (Value.ref 211) _) _ _ _) | (with_reducible show wpAny _ _ (call (Value.ref 216) _) _ _ _)); (refine Stop.of ?_)))
local macro_rules | `(tactic| ktr_units) => `(tactic| (have hcL9 := cLine_is; (try simp only [units_in1, units_deeper, units_under_make, Around.mark_units, units_caller] at *); (try dsimp only [ktrTop] at *); omega))
local macro_rules | `(tactic| walk_at "enterR") => `(tactic| (refine' code_def ?k1 ?k2 ?k3 ?k4 ?k5 ?kA ?kF ?kK ?k6 ?k7 ?k8 ?k9 ?kB ?_ ?c2 ?c3 ?c4 ?c5; (case kA => exact rfl); (case kF => exact rfl); (case kK => first | exact rfl | assumption); (case k1 => k_asm); (case k2 => k_asm); (case k3 => k_asm); (case k4 => k_asm); (case k5 => k_asm); (case k6 => k_is); (case k7 => k_is); (case k8 => ktr_room); (case k9 => exact BindsTo.of_eq rfl); (case c5 => decide); (case kB => exact locs rfl); (case c2 => exact rfl); (case c3 => exact rfl); (case c4 => exact rfl); k_whole; intro g' L' h' FG' F' N' B' X' T'; (try dsimp only); (try k_lift B'); (try k_fold)))
local macro_rules | `(tactic| walk_at "call ref") => `(tactic| (k_here; (with_reducible show wpAny _ _ (call (Value.ref 157) _) _ _ _); k_dflt (refine' call_cls ?k1 ?k2 ?k3 ?k4 ?k5 ?k6 ?_; (case k1 => k_asm); (case k2 => k_asm); (case k3 => k_asm); (case k4 => k_is); (case k5 => k_is); (case k6 => k_is); intro x' d' h' F' N' l1 l2); k_lt l1; k_lt2 l2; k_dflt (walk_at "enterR")))
local macro_rules | `(tactic| walk_at "eval ListComp") => `(tactic| (k_here; (refine Stop.of ?_)))
local macro_rules | `(tactic| walk_at "exec Assign cons ListComp") => `(tactic| (k_here; (refine Stop.of ?_)))
local macro_rules | `(tactic| walk_at "call builtin:sorted") => `(tactic| (k_here; (refine Stop.of ?_)))
local macro_rules | `(tactic| walk_at "call builtin:str.join") => `(tactic| (k_here; (refine Stop.of ?_)))
section
example : True := by
  w_top off
  trivial
set_option maxRecDepth 100000 in
set_option maxHeartbeats 8000000 in
theorem take_con (w : World) (src : Addr) (a1 b top : Int) (ta tb tt : Tok) (n : Nat) (rest : List (Addr × Obj)) (hr : ∀ p ∈ rest, p.1 ≠ src) (h1 : 0 < top) (h2 : top ≤ 1000) (hb0 : 0 ≤ b) (hb1 : b < 2147483647) :
    Con w 175 [.ref src, .int top tt] ((src, listOf [.int a1 ta, .int b tb].toArray n) :: rest) 1 8
      (fun v news' => ∃ x t a' b' ta' tb' n', v = .int x t ∧ 0 ≤ x ∧ x < top ∧ news' = (src, listOf [.int a' ta', .int b' tb'].toArray n') :: rest ∧ 0 ≤ b' ∧ b' < 2147483647) := by
  intro dp un gd cn cs_ a_ ccd cl outer A₀ base h₀ L m mg mb mean s Q E B F X N T hk hd hu hret
  refine wpAny_call ?_
  k_dflt cell_enter
  k_steps
  · refine hret _ _ _ _ (by assumption) (by assumption) ⟨_, _, _, _, _, _, _, rfl, ?_, ?_, rfl, ?_, ?_⟩
    · show 0 ≤ Int.fmod a1 top
      rw [Int.fmod_eq_emod_of_nonneg _ (by omega)]; exact Int.emod_nonneg _ (by omega)
    · show Int.fmod a1 top < top
      rw [Int.fmod_eq_emod_of_nonneg _ (by omega)]; exact Int.emod_lt_of_pos _ (by omega)
    · exact hb0
    · exact hb1
  · refine PyProof.Rows.mul_int ?_ (mulOk_of_bits (m := 31) (n := 31) ?_ ?_ (by decide))
    rotate_left
    · exact bits_fmod_by (by decide) (by decide)
    · exact bits_fmod_by (by decide) (by decide)
    k_steps
    refine hret _ _ _ _ (by assumption) (by assumption) ⟨_, _, _, _, _, _, _, rfl, ?_, ?_, rfl, ?_, ?_⟩
    · rw [Int.fmod_eq_emod_of_nonneg _ (by omega)]; exact Int.emod_nonneg _ (by omega)
    · rw [Int.fmod_eq_emod_of_nonneg _ (by omega)]; exact Int.emod_lt_of_pos _ (by omega)
    · rw [Int.fmod_eq_emod_of_nonneg _ (by omega)]; exact Int.emod_nonneg _ (by omega)
    · rw [Int.fmod_eq_emod_of_nonneg _ (by omega)]; exact Int.emod_lt_of_pos _ (by omega)
end
section
example : True := by
  w_top off
  trivial
local macro_rules | `(tactic| walk_at "binaryOp RShift int int") => `(tactic| (k_here; (refine PyProof.Rows.rshift_int ?z ?_); (case z => first | decide | (simp only [bitAnd_m3]; omega))))
def bitAt (bs : List UInt8) (i : Nat) : Int := (((bs.getD (i / 8) 0).toNat / 2 ^ (7 - i % 8)) % 2 : Nat)
abbrev rdD (h1 h2 : Int) (t1 t2 tb : Tok) (bs : List UInt8) (k : Int) (zk : Tok) : Obj := dictOf [⟨h1, .str "source" t1, .bytes bs.toArray tb⟩, ⟨h2, .str "at" t2, .int k zk⟩] 2

theorem bit_value (bs : List UInt8) (k : Int) (hk0 : 0 ≤ k) : Int.fdiv (((bs.getD (k / 8).toNat 0).toNat : Nat) : Int) (2 ^ (7 - k % 8).toNat) % 2 = bitAt bs k.toNat := by
  obtain ⟨n, rfl⟩ := Int.eq_ofNat_of_zero_le hk0
  have h1 : ((n : Int) / 8).toNat = n / 8 := by omega
  have h2 : (7 - (n : Int) % 8).toNat = 7 - n % 8 := by omega
  rw [h1, h2, Int.fdiv_eq_ediv_of_nonneg _ (Int.le_of_lt (kbt_pos _)), ← kbt_cast]
  rfl

set_option maxHeartbeats 8000000 in
theorem bit_con (w : World) (x dx : Addr) (hx : @LT.lt Nat _ dx x) (h1 h2 : Int) (t1 t2 tb zk : Tok) (bs : List UInt8) (k : Int) (rest : List (Addr × Obj)) (hk0 : 0 ≤ k) (hk1 : k ≤ 1000) (hb : bs.length ≤ 100) (hr : ∀ p ∈ rest, p.1 ≠ x) (hr' : ∀ p ∈ rest, p.1 ≠ dx) :
    ConE w 147 [.ref x] ((x, instObj 157 dx) :: (dx, rdD h1 h2 t1 t2 tb bs k zk) :: rest) rest 5 40
      (fun v news' => k < 8 * bs.length ∧ ∃ t zk', v = .int (bitAt bs k.toNat) t ∧ news' = (x, instObj 157 dx) :: (dx, rdD h1 h2 t1 t2 tb bs (k + 1) zk') :: rest)
      (fun C => C = 68 ∧ 8 * bs.length ≤ k) := by
  intro dp un gd cn cs_ a_ ccd cl outer A₀ base h₀ L m mg mb mean s Q E B F X N T hk hd hu hret hbad
  refine wpAny_call ?_
  k_dflt cell_enter
  k_steps
  · rename 8 * _ ≤ k => hsz
    exact hbad _ _ _ _ _ _ _ _ ⟨rfl, by simpa using hsz⟩ (fun p hp => .tail _ (.tail _ hp)) (by assumption) (by assumption) (by assumption) (by assumption)
  · have hk8 : k.fdiv (2 ^ Int.toNat 3) = k / 8 := Int.fdiv_eq_ediv_of_nonneg _ (by decide)
    rename ¬ 8 * _ ≤ k => hsz
    replace hsz : ¬ 8 * (bs.length : Int) ≤ k := by simpa using hsz
    refine bytes_item_K (by omega) (by rw [hk8]; omega) (by rw [hk8]; omega) rfl ?_
    k_steps
    refine hret _ _ _ _ (by assumption) (by assumption) ⟨by omega, _, _, congrArg (fun z => Value.int z _) ?_, rfl⟩
    rw [bitAnd_m1, bitAnd_m3, hk8]
    exact bit_value bs k hk0
end
section
example : True := by
  w_top off
  trivial
def okTold (cs ss : List Int) : Prop := cs.length = 16 ∧ (∀ c ∈ cs, 0 ≤ c) ∧ cs.sum = ss.length ∧ ss.length ≤ 256 ∧ ss.Nodup
theorem twice {ss : List Int} {i : Nat} (hi : i < ss.length) (h : ss[i] ∈ ss.take i) : ¬ ss.Nodup := by
  intro hn
  rw [← List.take_append_drop i ss, List.drop_eq_getElem_cons hi] at hn
  exact (List.nodup_append.mp hn).2.2 _ h _ (.head _) rfl
theorem take_met {ss : List Int} {i : Nat} (hi : i < ss.length) : (fun k' => decide (k' ∈ ss.take i) || decide (k' = ss[i])) = fun k => decide (k ∈ ss.take (i + 1)) := by
  funext k
  rw [List.take_succ_eq_append_getElem hi]
  simp only [List.mem_append, List.mem_singleton, Bool.decide_or]
set_option maxHeartbeats 8000000 in
theorem told_con (w : World) (lc ls : Addr) (cvs svs : List Value) (cs ss : List Int) (n1 n2 : Nat) (rest : List (Addr × Obj)) (hc : IntsAre cvs cs) (hs : IntsAre svs ss) (h1 : cs.length ≤ 400) (h2 : ss.length ≤ 400) :
    ConE w 84 [.ref lc, .ref ls] ((lc, listOf cvs.toArray n1) :: (ls, listOf svs.toArray n2)   :: rest) ((lc, listOf cvs.toArray n1) :: (ls, listOf svs.toArray n2) :: rest) 10 80
      (fun v news' => okTold cs ss ∧ news' = (lc, listOf cvs.toArray n1) :: (ls, listOf svs.toArray n2) :: rest) (fun C => C = 44 ∧ ¬ okTold cs ss) := by
  intro dp un gd cn cs_ a_ ccd cl outer A₀ base h₀ L m mg mb mean s Q E B F X N T hk hd hu hret hbad
  refine wpAny_call ?_
  k_dflt cell_enter
  k_steps
  · rename ¬ _ = _ => hx
    exact hbad _ _ _ _ _ _ _ _ ⟨rfl, fun ok => hx (by have := ok.1; omega)⟩ (fun p hp => hp) (by assumption) (by assumption) (by assumption) (by assumption)
  · rename _ < _ => hx
    rename _ ∈ cs => hy
    exact hbad _ _ _ _ _ _ _ _ ⟨rfl, fun ok => by have := ok.2.1 _ hy; omega⟩ (fun p hp => hp) (by assumption) (by assumption) (by assumption) (by assumption)
  · rename ¬ cs.sum = _ => hx
    exact hbad _ _ _ _ _ _ _ _ ⟨rfl, fun ok => hx ok.2.2.1⟩ (fun p hp => hp) (by assumption) (by assumption) (by assumption) (by assumption)
  · rename _ < _ => hx
    exact hbad _ _ _ _ _ _ _ _ ⟨rfl, fun ok => by have := ok.2.2.2.1; omega⟩ (fun p hp => hp) (by assumption) (by assumption) (by assumption) (by assumption)
  rename ∀ a : Int, a ∈ cs → _ => hmin
  rename _ = 16 => hL
  rename ¬ _ < 0 => hM
  rename cs.sum = _ => hS
  rename ¬ 256 < _ => hB
  have hpos : ∀ c ∈ cs, 0 ≤ c := fun c hc => by have := hmin c hc; omega
  refine Stop.go ?_
  refine For_M (by k_asm) ?_
  k_steps
  rename Obj.SetObjOf (intKind _ _) _ _ _ => hset
  rename Addr => D
  rename Fr _ _ _ _ => F1
  obtain ⟨m1, e1, F2⟩ := frGen F1
  clear F1
  refine pyIter_listM (vs := svs) (nn := n2) (J := fun i m nx => ∃ so n, Loc ["symbol"] m1 m [] ∧ nx = (D, so) :: (lc, listOf cvs.toArray n1) :: (ls, listOf svs.toArray n2) :: rest ∧
    so.SetObjOf (intKind PySem.Challenge.rw_nt0542_01.row.prog w) (fun k => decide (k ∈ ss.take i)) n ∧ n ≤ i ∧ (ss.take i).Nodup) rfl F2 (by k_asm) ?hj ?hl ?turn ?done
  case hj => exact ⟨_, 0, ⟨List.forall_mem_nil _, fun _ _ _ => rfl⟩, rfl, by simpa using hset, Nat.le_refl _, by simp⟩
  case hl =>
    rintro i m nx hi ⟨so, n, _, rfl, _⟩
    simp
  case turn =>
    rintro i v m₁ nx it io h tk hv ⟨so, n, hloc, rfl, hso, hni, hnd⟩ hit F3 N3
    have F4 := hloc.fr F3
    have hi : i < svs.length := (List.getElem?_eq_some_iff.mp hv).1
    have hi2 : i < ss.length := by rw [← hs.length]; exact hi
    clear hloc F3 F2
    subst e1
    have g1 := neN (hit _ (.head _))
    obtain ⟨t5, ht5⟩ := hs.get i ss[i] (List.getElem?_eq_getElem hi2)
    obtain rfl : v = .int ss[i] t5 := by rw [hv] at ht5; exact Option.some.inj ht5
    k_steps
    · rename ss[i] ∈ _ => hx
      exact hbad _ _ _ _ _ _ _ _ ⟨rfl, fun ok => twice hi2 hx ok.2.2.2.2⟩ (fun p hp => .tail _ (.tail _ hp)) (by assumption) (by assumption) (by assumption) (by assumption)
    · rename ¬ ss[i] ∈ _ => hx
      rename Obj.SetObjOf (intKind _ _) _ _ _ => hso'
      rename Obj => so2
      rw [take_met hi2] at hso'
      refine TurnM.intro ((D, so2) :: (lc, listOf cvs.toArray n1) :: (ls, listOf svs.toArray n2) :: rest) (by assumption) (by assumption) (.head _) (by kst_in) (List.forall_mem_cons.mpr ⟨hit (D, so) (.head _), fun p hp => hit p (.tail _ hp)⟩) ?_
      refine' Exists.intro _ (Exists.intro _ ⟨⟨List.forall_mem_nil _, ?_⟩, rfl, hso', ?_, ?_⟩)
      · intro z hz hs
        simp only [List.contains_cons, List.contains_nil, Bool.or_false, Bool.or_eq_false_iff, beq_eq_false_iff_ne, ne_eq] at hs
        simp [kstB, hs]
      · split <;> omega
      · rw [List.take_succ_eq_append_getElem hi2, List.nodup_append]
        exact ⟨hnd, by simp, fun a ha b hb => by rw [List.mem_singleton.mp hb]; rintro rfl; exact hx ha⟩
  case done =>
    rintro m₁ nx h tk ⟨so, n, hloc, rfl, hso, hni, hnd⟩ F3 N3
    have F4 := hloc.fr F3
    clear hloc F3 F2
    subst e1
    k_steps
    refine hret _ _ _ _ (by assumption) (newsOf (by assumption) (by kst_in)) ⟨⟨by omega, hpos, hS, by omega, ?_⟩, rfl⟩
    rwa [hs.length, List.take_length] at hnd
end
section
example : True := by
  w_top off
  trivial
local macro_rules | `(tactic| k_mem) => `(tactic| assumption)

/-- what a read comes to -/
inductive RR where
  | sym (i : Int) (k : Nat)
  | noCode
  | cut
def readFrom (b : Nat → Int) (lim : Nat) : List (Int × Int × Int) → Nat → Int → RR
  | [], _, _ => .noCode
  | (f, m, p) :: r, k, code => if lim ≤ k then .cut else if code * 2 + b k - f < m then .sym (p + (code * 2 + b k) - f) (k + 1) else readFrom b lim r (k + 1) (code * 2 + b k)

theorem readFrom_drop {b : Nat → Int} {lim : Nat} {rows : List (Int × Int × Int)} {i : Nat} (hi : i < rows.length) (K : Nat) (c : Int) :
    readFrom b lim (rows.drop i) K c = if lim ≤ K then .cut else if c * 2 + b K - rows[i].1 < rows[i].2.1 then .sym (rows[i].2.2 + (c * 2 + b K) - rows[i].1) (K + 1) else readFrom b lim (rows.drop (i + 1)) (K + 1) (c * 2 + b K) := by
  rw [List.drop_eq_getElem_cons hi]
  obtain ⟨f, m, p⟩ := rows[i]
  rfl

theorem TurnM.retI {h₀ : Heap} {L : Addr} {Jn : (Str → Option Value) → List (Addr × Obj) → Prop} {it : Addr} {io : Obj} {s₁ s₂ : Shared} {Q : Flow → Shared → Prop} {v : Value} (h : Q (.ret v) s₂) : TurnM h₀ L Jn it io s₁ Q (.ret v) s₂ := h
/-- the rows' tuples stand in the ledger -/
def RowsIn (led : List (Addr × Obj)) (rvs : List Value) (rows : List (Int × Int × Int)) : Prop :=
  rvs.length = rows.length ∧ ∀ (i : Nat) (f m p : Int), rows[i]? = some (f, m, p) → ∃ ri tf tm tp, rvs[i]? = some (Value.ref ri) ∧ (ri, ({ cls := .type "tuple", data := .seq [Value.int f tf, Value.int m tm, Value.int p tp].toArray } : Obj)) ∈ led

abbrev tabD (q1 q2 q3 q4 : Int) (u1 u2 u3 u4 : Tok) (tc ts lr dc : Addr) : Obj := dictOf [⟨q1, .str "counts" u1, .ref tc⟩, ⟨q2, .str "symbols" u2, .ref ts⟩, ⟨q3, .str "rows" u3, .ref lr⟩, ⟨q4, .str "codes" u4, .ref dc⟩] 4

set_option maxHeartbeats 8000000 in
theorem read_con (w : World) (x xd lr ts rd rdx : Addr) (a1 : @LT.lt Nat _ xd x) (a2 : @LT.lt Nat _ x rdx) (a3 : @LT.lt Nat _ lr rdx) (a4 : @LT.lt Nat _ ts rdx) (a5 : @LT.lt Nat _ rdx rd) (q1 q2 q3 q4 h1 h2 : Int) (u1 u2 u3 u4 t1 t2 tb zk : Tok) (tc dc : Addr) (rvs svs : List Value) (rows : List (Int × Int × Int)) (ss : List Int) (nr ns : Nat) (bs : List UInt8) (k : Int) (rest : List (Addr × Obj)) (hk0 : 0 ≤ k) (hk1 : k ≤ 100) (hb : bs.length ≤ 100)
    (hrows : RowsIn rest rvs rows) (hlen : rows.length ≤ 16) (hss : IntsAre svs ss) (hr1 : ∀ p ∈ rest, p.1 ≠ rd) (hr2 : ∀ p ∈ rest, p.1 ≠ rdx)
    (hrange : ∀ i k', readFrom (bitAt bs) (8 * bs.length) rows k.toNat 0 = .sym i k' → 0 ≤ i ∧ i < ss.length) (hsl : ss.length ≤ 1000) :
    ConE w 112 [.ref x, .ref rd] ((rd, instObj 157 rdx) :: (rdx, rdD h1 h2 t1 t2 tb bs k zk) :: (x, instObj 115 xd) :: (xd, tabD q1 q2 q3 q4 u1 u2 u3 u4 tc ts lr dc) :: (lr, listOf rvs.toArray nr) :: (ts, ({ cls := .type "tuple", data := .seq svs.toArray ns } : Obj)) :: rest) ((x, instObj 115 xd) :: (xd, tabD q1 q2 q3 q4 u1 u2 u3 u4 tc ts lr dc) :: (lr, listOf rvs.toArray nr) :: (ts, ({ cls := .type "tuple", data := .seq svs.toArray ns } : Obj)) :: rest) 10 80
      (fun v news' => ∃ i k' t zk', readFrom (bitAt bs) (8 * bs.length) rows k.toNat 0 = .sym i k' ∧ v = .int (ss.getD i.toNat 0) t ∧ news' = (rd, instObj 157 rdx) :: (rdx, rdD h1 h2 t1 t2 tb bs k' zk') :: (x, instObj 115 xd) :: (xd, tabD q1 q2 q3 q4 u1 u2 u3 u4 tc ts lr dc) :: (lr, listOf rvs.toArray nr) :: (ts, ({ cls := .type "tuple", data := .seq svs.toArray ns } : Obj)) :: rest)
      (fun C => (C = 56 ∧ readFrom (bitAt bs) (8 * bs.length) rows k.toNat 0 = .noCode) ∨ (C = 68 ∧ readFrom (bitAt bs) (8 * bs.length) rows k.toNat 0 = .cut)) := by
  intro dp un gd cn cs_ a_ ccd cl outer A₀ base h₀ L m mg mb mean s Q E B F X N T hk hd hu hret hbad
  refine wpAny_call ?_
  k_dflt cell_enter
  iterate 6 walk1
  refine For_M (by k_asm) ?_
  iterate 3 walk1
  rename Fr _ _ _ _ => F1
  obtain ⟨m1, e1, F2⟩ := frGen F1
  clear F1
  refine pyIter_listM (vs := rvs) (nn := nr) (J := fun i m nx => ∃ c tc' zk', Loc ["first", "many", "place"] m1 m [("code", .int c tc')] ∧
    nx = (rd, instObj 157 rdx) :: (rdx, rdD h1 h2 t1 t2 tb bs (k + (i : Int)) zk') :: (x, instObj 115 xd) :: (xd, tabD q1 q2 q3 q4 u1 u2 u3 u4 tc ts lr dc) :: (lr, listOf rvs.toArray nr) :: (ts, ({ cls := .type "tuple", data := .seq svs.toArray ns } : Obj)) :: rest ∧
    readFrom (bitAt bs) (8 * bs.length) rows k.toNat 0 = readFrom (bitAt bs) (8 * bs.length) (rows.drop i) (k.toNat + i) c) rfl F2 (by k_asm) ?hj ?hl ?turn ?done
  case hj => exact ⟨0, _, zk, ⟨List.forall_mem_cons.mpr ⟨by subst e1; rfl, List.forall_mem_nil _⟩, fun _ _ _ => rfl⟩, by simp, by simp⟩
  case hl =>
    rintro i m nx hi ⟨c, tc', zk', _, rfl, _⟩
    simp
  case turn =>
    rintro i v m₁ nx it io h tk hv ⟨c, tc', zk', hloc, rfl, hread⟩ hit F3 N3
    have hi : i < rows.length := by rw [← hrows.1]; exact (List.getElem?_eq_some_iff.mp hv).1
    obtain ⟨ri, tf, tm, tp, hri, hmem⟩ := hrows.2 i rows[i].1 rows[i].2.1 rows[i].2.2 (by simp [hi])
    obtain rfl : v = .ref ri := by rw [hv] at hri; exact Option.some.inj hri
    have F4 := hloc.fr F3
    clear hloc F3 F2
    subst e1
    have g1 := neN (hit _ (.head _))
    have g2 := neN (hit _ (.tail _ (.head _)))
    k_steps
    refine Stop.go ?_
    refine' ConE.use (bit_con w rd rdx a5 h1 h2 t1 t2 tb zk' bs (k + (i : Int)) ((it, io) :: (x, instObj 115 xd) :: (xd, tabD q1 q2 q3 q4 u1 u2 u3 u4 tc ts lr dc) :: (lr, listOf rvs.toArray nr) :: (ts, ({ cls := .type "tuple", data := .seq svs.toArray ns } : Obj)) :: rest) (by omega) (by omega) hb (by k_all) (by k_all)) ?B ?F ?X ?N ?T ?hk ?hd ?hu ?hr ?hb'
    case N => exact newsOf (by assumption) (by kst_in)
    case B => k_asm
    case F => k_asm
    case X => k_asm
    case T => k_asm
    case hk => exact rfl
    case hd => ktr_room
    case hu => ktr_units
    case hb' =>
      rintro C e t' vs' news2 G h' tk' ⟨rfl, hcut⟩ hsub FG R K U
      k_steps
      refine hbad _ _ _ _ _ _ _ _ (.inr ⟨rfl, ?_⟩) (fun p hp => hsub p (.tail _ hp)) (by assumption) (by assumption) (by assumption) (by assumption)
      rw [hread, readFrom_drop hi, if_pos (by omega)]
    case hr =>
      rintro v' news' h' tk' F' N' ⟨hlt, t, zk'', rfl, rfl⟩
      have hK : (k + (i : Int)).toNat = k.toNat + i := by omega
      rw [hK] at *
      k_steps
      · rename _ < _ => hlt2
        have hsym := hread
        rw [readFrom_drop hi, if_neg (by omega), if_pos hlt2] at hsym
        obtain ⟨i0, i1⟩ := hrange _ _ hsym
        have hj : (rows[i].2.2 + (c * 2 + bitAt bs (k.toNat + i)) - rows[i].1).toNat < ss.length := by omega
        obtain ⟨t5, ht5⟩ := hss.get _ _ (List.getElem?_eq_getElem hj)
        refine item_tupleT (News.isTup (by assumption) (by k_mem)) (by omega) (by omega) (j := (rows[i].2.2 + (c * 2 + bitAt bs (k.toNat + i)) - rows[i].1).toNat) (PySem.seqIndex_of (by omega) (by rw [hss.length]; omega)) ht5 ?_
        dsimp only
        k_steps
        refine TurnM.retI ?_
        k_steps
        refine hret _ ((rd, instObj 157 rdx) :: (rdx, rdD h1 h2 t1 t2 tb bs (k + (i : Int) + 1) zk'') :: (x, instObj 115 xd) :: (xd, tabD q1 q2 q3 q4 u1 u2 u3 u4 tc ts lr dc) :: (lr, listOf rvs.toArray nr) :: (ts, ({ cls := .type "tuple", data := .seq svs.toArray ns } : Obj)) :: rest) _ _ (by assumption) (newsOf (by assumption) (by kst_in)) ⟨_, _, t5, zk'', hsym, ?_, ?_⟩
        · rw [List.getD_eq_getElem?_getD, List.getElem?_eq_getElem hj]; rfl
        · have e5 : k + (i : Int) + 1 = ((k.toNat + i + 1 : Nat) : Int) := by omega
          rw [e5]
      · rename ¬ _ < _ => hlt2
        refine TurnM.intro ((rd, instObj 157 rdx) :: (rdx, rdD h1 h2 t1 t2 tb bs (k + (i : Int) + 1) zk'') :: (x, instObj 115 xd) :: (xd, tabD q1 q2 q3 q4 u1 u2 u3 u4 tc ts lr dc) :: (lr, listOf rvs.toArray nr) :: (ts, ({ cls := .type "tuple", data := .seq svs.toArray ns } : Obj)) :: rest) (by assumption) (by assumption) (by simp) (by kst_in) (List.forall_mem_cons.mpr ⟨hit _ (.head _), List.forall_mem_cons.mpr ⟨(show rdx ≠ it from hit (rdx, _) (.tail _ (.head _))), fun p hp => hit p (.tail _ (.tail _ hp))⟩⟩) ?_
        refine' Exists.intro (c * 2 + bitAt bs (k.toNat + i)) (Exists.intro _ (Exists.intro zk'' ⟨⟨List.forall_mem_cons.mpr ⟨rfl, List.forall_mem_nil _⟩, ?_⟩, ?_, ?_⟩))
        · intro z hz hs
          simp only [List.forall_mem_cons, List.not_mem_nil, false_implies, implies_true, and_true, ne_eq] at hz
          simp only [List.contains_cons, List.contains_nil, Bool.or_false, Bool.or_eq_false_iff, beq_eq_false_iff_ne, ne_eq] at hs
          simp [kstB, hz, hs]
        · rw [show k + (i : Int) + 1 = k + ((i + 1 : Nat) : Int) by omega]
        · rw [hread, readFrom_drop hi, if_neg (by omega), if_neg hlt2]
          rfl
  case done =>
    rintro m₁ nx h tk ⟨c, tc', zk', hloc, rfl, hread⟩ F3 N3
    have F4 := hloc.fr F3
    clear hloc F3 F2
    subst e1
    k_steps
    refine hbad _ _ _ _ _ _ _ _ (.inl ⟨rfl, ?_⟩) (fun p hp => .tail _ (.tail _ hp)) (by assumption) (by assumption) (by assumption) (by assumption)
    rw [hread, hrows.1, List.drop_length]
    rfl
end
section
example : True := by
  w_top off
  trivial
/-- code_rows, as a plain thing: the code ahead of size i+1, its symbols' place -/
def codeAt (cs : List Int) : Nat → Int
  | 0 => 0
  | i + 1 => (codeAt cs i + cs.getD i 0) * 2
def placeAt (cs : List Int) : Nat → Int
  | 0 => 0
  | i + 1 => placeAt cs i + cs.getD i 0
def rowAt (cs : List Int) (i : Nat) : Int × Int × Int := (codeAt cs i, cs.getD i 0, placeAt cs i)
def rowsTo (cs : List Int) (n : Nat) : List (Int × Int × Int) := (List.range n).map (rowAt cs)
def badAt (cs : List Int) (i : Nat) : Prop := 2 ^ (i + 1) ≤ codeAt cs i + cs.getD i 0 ∧ 0 < cs.getD i 0

theorem getD_all {P : Int → Prop} {cs : List Int} (h : ∀ c ∈ cs, P c) (h0 : P 0) (i : Nat) : P (cs.getD i 0) := by
  rw [List.getD_eq_getElem?_getD]
  cases e : cs[i]? with
  | none => exact h0
  | some x => exact h x (List.mem_of_getElem? e)
theorem code_bound {cs : List Int} (h2 : ∀ c ∈ cs, 0 ≤ c) (h3 : ∀ c ∈ cs, c ≤ 256) : ∀ i, 0 ≤ codeAt cs i ∧ codeAt cs i + 512 ≤ 512 * 2 ^ i
  | 0 => ⟨Int.le_refl _, by simp [codeAt]⟩
  | i + 1 => by
    obtain ⟨a, b⟩ := code_bound h2 h3 i
    have p := getD_all (P := fun c => 0 ≤ c) h2 (by decide) i
    have q := getD_all (P := fun c => c ≤ 256) h3 (by decide) i
    rw [codeAt, Int.pow_succ]
    omega
theorem place_bound {cs : List Int} (h2 : ∀ c ∈ cs, 0 ≤ c) (h3 : ∀ c ∈ cs, c ≤ 256) : ∀ i : Nat, 0 ≤ placeAt cs i ∧ placeAt cs i ≤ 256 * i
  | 0 => ⟨Int.le_refl _, by simp [placeAt]⟩
  | i + 1 => by
    obtain ⟨a, b⟩ := place_bound h2 h3 i
    have p := getD_all (P := fun c => 0 ≤ c) h2 (by decide) i
    have q := getD_all (P := fun c => c ≤ 256) h3 (by decide) i
    rw [placeAt]
    omega
theorem pow_le_16 {i : Nat} (h : i ≤ 16) : (2 : Int) ^ i ≤ 65536 := by
  have := Nat.pow_le_pow_right (n := 2) (by decide) h
  have e : ((2 ^ i : Nat) : Int) = 2 ^ i := by push_cast; rfl
  omega

theorem rowsTo_succ (cs : List Int) (i : Nat) : rowsTo cs (i + 1) = rowsTo cs i ++ [rowAt cs i] := by
  simp [rowsTo, List.range_succ]
theorem RowsIn.snoc {led : List (Addr × Obj)} {rvs : List Value} {rows : List (Int × Int × Int)} {D : Addr} {f m p : Int} {tf tm tp : Tok} (h : RowsIn led rvs rows) :
    RowsIn ((D, ({ cls := .type "tuple", data := .seq [Value.int f tf, Value.int m tm, Value.int p tp].toArray } : Obj)) :: led) (rvs ++ [.ref D]) (rows ++ [(f, m, p)]) := by
  refine ⟨by simp [h.1], ?_⟩
  intro i f' m' p' he
  by_cases hi : i < rows.length
  · rw [List.getElem?_append_left hi] at he
    obtain ⟨ri, a, b, c, h1, h2⟩ := h.2 i f' m' p' he
    exact ⟨ri, a, b, c, by rw [List.getElem?_append_left (by rw [h.1]; exact hi)]; exact h1, .tail _ h2⟩
  · rw [List.getElem?_append_right (by omega)] at he
    have hi2 : i - rows.length = 0 := by
      have := (List.getElem?_eq_some_iff.mp he).1
      simp at this
      omega
    rw [hi2] at he
    cases he
    refine ⟨D, tf, tm, tp, ?_, .head _⟩
    rw [List.getElem?_append_right (by rw [h.1]; omega), h.1, hi2]
    rfl

/-- an equation that the walk is to leave alone -/
def Same {α : Type} (a b : α) : Prop := a = b
theorem Same.cons {α : Type} {x : α} {a b c : List α} (h : Same a (b ++ c)) : Same (x :: a) ((x :: b) ++ c) := congrArg (List.cons x) h
theorem RowsIn.mono {led led' : List (Addr × Obj)} {rvs : List Value} {rows : List (Int × Int × Int)} (h : RowsIn led rvs rows) (hs : ∀ p ∈ led, p ∈ led') : RowsIn led' rvs rows :=
  ⟨h.1, fun i f m p e => let ⟨ri, a, b, c, h1, h2⟩ := h.2 i f m p e; ⟨ri, a, b, c, h1, hs _ h2⟩⟩
set_option maxHeartbeats 8000000 in
theorem rows_con (w : World) (tc : Addr) (cvs : List Value) (cs : List Int) (nc : Nat) (rest : List (Addr × Obj)) (hc : IntsAre cvs cs) (h1 : cs.length = 16) (h2 : ∀ c ∈ cs, 0 ≤ c) (h3 : ∀ c ∈ cs, c ≤ 256) (hm : (tc, ({ cls := .type "tuple", data := .seq cvs.toArray nc } : Obj)) ∈ rest) :
    ConE w 77 [.ref tc] rest rest 10 80
      (fun v news' => (∀ i < 16, ¬ badAt cs i) ∧ ∃ lr rvs nr led, v = .ref lr ∧ news' = (lr, listOf rvs.toArray nr) :: (led ++ rest) ∧ RowsIn led rvs (rowsTo cs 16) ∧ (∀ p ∈ rest, @LT.lt Nat _ p.1 lr) ∧ ∀ p ∈ led, @LT.lt Nat _ lr p.1)
      (fun C => C = 44 ∧ ∃ i < 16, badAt cs i) := by
  intro dp un gd cn cs_ a_ ccd cl outer A₀ base h₀ L m mg mb mean s Q E B F X N T hk hd hu hret hbad
  refine wpAny_call ?_
  k_dflt cell_enter
  k_steps
  refine Stop.go ?_
  refine For_M (by k_asm) ?_
  k_steps
  refine kun_lenT (k := 16) (News.isTup (by k_asm) (by k_mem)) (by simp [hc.length, h1]) (by decide) ?_
  k_steps
  refine Stop.go ?_
  rename_i lr _ lt0 _ _ D _ lt1 _ _ _ F0 N0 _ tk t1 u1 v1 hrg F1 N1 _
  obtain ⟨m1, e1, F2⟩ := frGen F1
  have hlr : ∀ p ∈ rest, p.1 ≠ lr := fun p hp => Nat.ne_of_lt (lt0 p hp)
  clear F1 F0 N0
  refine pyIter_rangeM (n := 16) (news := (lr, listOf ([] : List Value).toArray 0) :: rest) (J := fun i m nx => ∃ tk1 tk2 rvs nr led tl, Same tl (led ++ rest) ∧ Loc ["size", "many"] m1 m [("code", .int (codeAt cs i) tk1), ("place", .int (placeAt cs i) tk2)] ∧
     nx = (lr, listOf rvs.toArray nr) :: tl ∧ RowsIn led rvs (rowsTo cs i) ∧ (∀ p ∈ led, @LT.lt Nat _ lr p.1) ∧ ∀ j < i, ¬ badAt cs j) rfl hrg (by decide) (by decide) F2 (newsOf N1 (by kst_in)) ?hj ?turn ?done
  case hj =>
    refine ⟨_, _, [], 0, [], rest, rfl, ⟨List.forall_mem_cons.mpr ⟨by subst e1; rfl, List.forall_mem_cons.mpr ⟨by subst e1; rfl, List.forall_mem_nil _⟩⟩, fun _ _ _ => rfl⟩, rfl, ⟨rfl, ?_⟩, List.forall_mem_nil _, fun j hj => absurd hj (Nat.not_lt_zero _)⟩
    intro i f m p h
    simp [rowsTo] at h
  case turn =>
    rintro i t m₁ nx it io h tk hi ⟨tk1, tk2, rvs, nr, led, tl, htl, hloc, rfl, hrows, hgt, hok⟩ hit F3 N3
    have F4 := hloc.fr F3
    clear hloc F3 F2
    subst e1
    have c0 := (code_bound h2 h3 i).1
    have c1 := (code_bound h2 h3 i).2
    have c2 := pow_le_16 (i := i) (by omega)
    have c3 := place_bound h2 h3 i
    have g1 := neN (hit _ (.head _))
    have hsub : ∀ p ∈ rest, p ∈ tl := fun p hp => by rw [show tl = led ++ rest from htl]; exact List.mem_append_right _ hp
    have hne : ∀ p ∈ tl, p.1 ≠ lr := fun p hp => by
      rw [show tl = led ++ rest from htl] at hp
      rcases List.mem_append.mp hp with h | h
      · exact Nat.ne_of_gt (hgt p h)
      · exact hlr p h
    have hm2 := hsub _ hm
    k_steps
    have hz : rvs.toArray.size ≤ sizeLine := by
      have e : rvs.length = i := by rw [hrows.1]; simp [rowsTo]
      rw [List.size_toArray, e, sizeLine_eq]; omega
    rename Addr => D2
    rename _ ∧ _ ∧ AllLt D2 _ => lt2
    refine' append_K ?F ?N ?U ?_ hz
    case F => k_asm
    case N => k_asm
    case U => k_upd
    intro h' F' N'
    rw [List.push_toArray] at N'
    have e9 : (1 + (i : Int) - 1).toNat = i := by omega
    have e8 : (1 + (i : Int)).toNat = i + 1 := by omega
    k_steps
    · rename 2 ^ _ ≤ _ => x1
      rename 0 < _ => x2
      rw [e9, e8] at x1
      rw [e9] at x2
      exact hbad _ _ _ _ _ _ _ _ ⟨rfl, i, hi, x1, x2⟩ (fun p hp => .tail _ (.tail _ (.tail _ (hsub p hp)))) (by assumption) (by assumption) (by assumption) (by assumption)
    all_goals
      rw [e9] at *
      rename ¬ _ => hx
      refine TurnM.intro ((lr, listOf (rvs ++ [Value.ref D2]).toArray (nr + 1)) :: (D2, ({ cls := .type "tuple", data := .seq #[Value.int (codeAt cs i) tk1, Value.int (cs.getD i 0) _, Value.int (placeAt cs i) tk2] } : Obj)) :: tl) (by assumption) (by assumption) (.tail _ (.head _)) (by kst_in) (List.forall_mem_cons.mpr ⟨(show lr ≠ it from hit (lr, _) (.head _)), List.forall_mem_cons.mpr ⟨?_, fun p hp => hit p (.tail _ hp)⟩⟩) ?_
      · exact Nat.ne_of_gt lt2.1
      refine' Exists.intro _ (Exists.intro _ (Exists.intro _ (Exists.intro _ (Exists.intro _ (Exists.intro _ ⟨htl.cons, ⟨List.forall_mem_cons.mpr ⟨rfl, List.forall_mem_cons.mpr ⟨rfl, List.forall_mem_nil _⟩⟩, ?_⟩, rfl, ?_, ?_, ?_⟩)))))
      · intro z hz hs
        simp only [List.forall_mem_cons, List.not_mem_nil, false_implies, implies_true, and_true, ne_eq] at hz
        simp only [List.contains_cons, List.contains_nil, Bool.or_false, Bool.or_eq_false_iff, beq_eq_false_iff_ne, ne_eq] at hs
        simp [kstB, hz, hs]
      · rw [rowsTo_succ]
        exact hrows.snoc
      · exact List.forall_mem_cons.mpr ⟨lt2.2.1, hgt⟩
      · intro j hj
        rcases Nat.lt_or_ge j i with h | h
        · exact hok j h
        · obtain rfl : j = i := by omega
          rintro ⟨y1, y2⟩
          first | exact hx y2 | (rw [e8] at hx; exact hx y1)
  case done =>
    rintro m₁ nx h tk ⟨tk1, tk2, rvs, nr, led, tl, htl, hloc, rfl, hrows, hgt, hok⟩ F3 N3
    have F4 := hloc.fr F3
    clear hloc F3 F2
    subst e1
    k_steps
    exact hret _ _ _ _ (by assumption) (by assumption) ⟨hok, lr, rvs, nr, led, rfl, congrArg (List.cons _) htl, hrows, lt0, hgt⟩
end
section
example : True := by
  w_top off
  trivial
local macro_rules | `(tactic| walk_at "subscriptTail Attribute Name BinOp ref int") => `(tactic| (k_here; (refine Stop.of ?_)))


local macro_rules | `(tactic| walk_at "setItem ref int ref") => `(tactic| (k_here; (refine Stop.of ?_)))
local macro_rules | `(tactic| walk_at "setItem ref int") => `(tactic| (k_here; (refine Stop.of ?_)))
local macro_rules | `(tactic| walk_at "setItem ref ref") => `(tactic| (k_here; (refine Stop.of ?_)))


def codesIn (led : List (Addr × Obj)) (kvs : List (Int × Value)) (cs ss : List Int) (n : Nat) : Prop :=
  kvs.length ≤ n ∧ ∀ j < n, ∃ t i k ta tb, valueAt kvs (ss.getD j 0) = some (Value.ref t) ∧ i < 16 ∧ 0 ≤ k ∧ k < cs.getD i 0 ∧ (j : Int) = placeAt cs i + k ∧ (t, ({ cls := .type "tuple", data := .seq [Value.int (codeAt cs i + k) ta, Value.int (1 + (i : Int)) tb].toArray } : Obj)) ∈ led
theorem keepL {α : Type} {p a b c d : α} {r : List α} (h : p ∈ a :: b :: r) : p ∈ a :: b :: c :: d :: r := by
  simp only [List.mem_cons] at h ⊢
  grind
theorem newsNe {h₀ h : Heap} {L : Addr} {news : List (Addr × Obj)} {a b : Addr} {o o' : Obj} (N : News h₀ L h news) (h1 : (a, o) ∈ news) (h2 : (b, o') ∈ news) (hne : o.cls ≠ o'.cls) : @Ne Nat a b := by
  rintro rfl
  have e1 := (N _ h1).1
  have e2 := (N _ h2).1
  dsimp only at e1 e2
  rw [e1] at e2
  exact hne (by rw [Option.some.inj e2])
theorem newsSink6 {h₀ h : Heap} {L : Addr} {a b1 b2 b3 b4 b5 b6 : Addr × Obj} {led rest tl : List (Addr × Obj)} (ht : Same tl (led ++ rest)) (N : News h₀ L h (a :: (led ++ (b1 :: b2 :: b3 :: b4 :: b5 :: b6 :: rest)))) :
    News h₀ L h (a :: b1 :: b2 :: b3 :: b4 :: b5 :: b6 :: tl) := by
  rw [show tl = led ++ rest from ht]
  refine newsOf N fun p hp => ?_
  simp only [List.mem_cons, List.mem_append] at hp ⊢
  grind
theorem sum_ge : ∀ {cs : List Int} {c : Int}, (∀ c ∈ cs, 0 ≤ c) → c ∈ cs → c ≤ cs.sum
  | x :: r, c, h, hc => by
    have hr : ∀ c ∈ r, 0 ≤ c := fun c hc => h c (.tail _ hc)
    have hx := h x (.head _)
    rw [List.sum_cons]
    have h0 : 0 ≤ r.sum := by
      clear hc
      induction r with
      | nil => simp
      | cons y r ih => rw [List.sum_cons]; have := hr y (.head _); have := ih (fun c hc => h c (by simp at hc ⊢; grind)) (fun c hc => hr c (.tail _ hc)); omega
    rcases List.mem_cons.mp hc with rfl | hc
    · omega
    · have := sum_ge hr hc; omega
theorem le_of_told {cs ss : List Int} (h : okTold cs ss) : ∀ c ∈ cs, c ≤ 256 := fun c hc => by
  have h1 := sum_ge h.2.1 hc
  have h2 := h.2.2.1
  have h3 := h.2.2.2.1
  omega
section
variable {K : Type} [DecidableEq K]
theorem valueAt_any : ∀ {kvs : List (K × Value)} {k : K}, (kvs.any fun kv => decide (kv.1 = k)) = false → valueAt kvs k = none := by
  intro kvs k h
  unfold valueAt
  rw [List.find?_eq_none.mpr]
  · rfl
  · intro x hx
    have := List.any_eq_false.mp h x hx
    simpa using this
theorem valueAt_putHit : ∀ (kvs : List (K × Value)) (k : K) (v : Value), (kvs.any fun kv => decide (kv.1 = k)) = true → valueAt (kvs.map (fun kv => if kv.1 = k then (kv.1, v) else kv)) k = some v
  | [], _, _, h => by simp at h
  | (a, b) :: r, k, v, h => by
    by_cases e : a = k
    · subst e
      simp [valueAt]
    · have h' : (r.any fun kv => decide (kv.1 = k)) = true := by simpa [e] using h
      have ih := valueAt_putHit r k v h'
      unfold valueAt at ih ⊢
      rw [List.map_cons, if_neg e, List.find?_cons_of_neg (by simpa using e)]
      exact ih
theorem valueAt_putMiss {k k' : K} (hne : k' ≠ k) (v : Value) : ∀ kvs : List (K × Value), valueAt (kvs.map (fun kv => if kv.1 = k then (kv.1, v) else kv)) k' = valueAt kvs k'
  | [] => rfl
  | (a, b) :: r => by
    have ih := valueAt_putMiss hne v r
    unfold valueAt at ih ⊢
    by_cases e : a = k
    · subst e
      rw [List.map_cons, if_pos rfl, List.find?_cons_of_neg (by simpa using fun h => hne h.symm), List.find?_cons_of_neg (by simpa using fun h => hne h.symm)]
      exact ih
    · rw [List.map_cons, if_neg e]
      by_cases e' : a = k'
      · rw [List.find?_cons_of_pos (by simpa using e'), List.find?_cons_of_pos (by simpa using e')]
      · rw [List.find?_cons_of_neg (by simpa using e'), List.find?_cons_of_neg (by simpa using e')]
        exact ih
theorem valueAt_append_same (kvs : List (K × Value)) (k : K) (v : Value) (h : (kvs.any fun kv => decide (kv.1 = k)) = false) : valueAt (kvs ++ [(k, v)]) k = some v := by
  unfold valueAt
  have hn : kvs.find? (fun kv => decide (kv.1 = k)) = none := List.find?_eq_none.mpr fun x hx => by simpa using List.any_eq_false.mp h x hx
  rw [List.find?_append, hn]
  simp
theorem valueAt_append_ne (kvs : List (K × Value)) {k k' : K} (hne : k' ≠ k) (v : Value) : valueAt (kvs ++ [(k, v)]) k' = valueAt kvs k' := by
  unfold valueAt
  rw [List.find?_append, List.find?_cons_of_neg (by simpa using fun h => hne h.symm)]
  simp
theorem valueAt_stored_same (kvs : List (K × Value)) (k : K) (v : Value) : valueAt (stored kvs k v) k = some v := by
  unfold stored
  split
  · exact valueAt_putHit _ _ _ (by assumption)
  · rename ¬ _ => h
    exact valueAt_append_same _ _ _ (eq_false_of_ne_true h)
theorem valueAt_stored_ne {k k' : K} (hne : k' ≠ k) (kvs : List (K × Value)) (v : Value) : valueAt (stored kvs k v) k' = valueAt kvs k' := by
  unfold stored
  split
  · exact valueAt_putMiss hne _ _
  · exact valueAt_append_ne _ hne _
end

theorem codesIn.mono {led led' : List (Addr × Obj)} {kvs : List (Int × Value)} {cs ss : List Int} {n : Nat} (H : codesIn led kvs cs ss n) (hs : ∀ p ∈ led, p ∈ led') : codesIn led' kvs cs ss n :=
  ⟨H.1, fun j hj => let ⟨t, i, k, ta, tb, h1, h2, h3, h4, h5, h6⟩ := H.2 j hj; ⟨t, i, k, ta, tb, h1, h2, h3, h4, h5, hs _ h6⟩⟩
theorem codesIn.snoc {led : List (Addr × Obj)} {kvs : List (Int × Value)} {cs ss : List Int} {n i : Nat} {k : Int} {t : Addr} {ta tb : Tok} (H : codesIn led kvs cs ss n) (hnd : ss.Nodup) (hn : n < ss.length) (hi : i < 16) (hk0 : 0 ≤ k) (hk : k < cs.getD i 0) (hp : (n : Int) = placeAt cs i + k) :
    codesIn ((t, ({ cls := .type "tuple", data := .seq [Value.int (codeAt cs i + k) ta, Value.int (1 + (i : Int)) tb].toArray } : Obj)) :: led) (stored kvs (ss.getD n 0) (.ref t)) cs ss (n + 1) := by
  refine ⟨Nat.le_trans (stored_length_le _ _ _) (Nat.succ_le_succ H.1), fun j hj => ?_⟩
  by_cases e : j = n
  · subst e
    exact ⟨t, i, k, ta, tb, valueAt_stored_same _ _ _, hi, hk0, hk, hp, .head _⟩
  · obtain ⟨t', i', k', ta', tb', h1, h2, h3, h4, h5, h6⟩ := H.2 j (by omega)
    refine ⟨t', i', k', ta', tb', ?_, h2, h3, h4, h5, .tail _ h6⟩
    rw [valueAt_stored_ne ?_]
    · exact h1
    · rw [List.getD_eq_getElem?_getD, List.getD_eq_getElem?_getD, List.getElem?_eq_getElem (by omega), List.getElem?_eq_getElem hn]
      show ss[j] ≠ ss[n]
      intro h
      exact e ((List.getElem_inj hnd).mp h)

theorem allLt_mem {d : Addr} {l : List (Addr × Obj)} (h : AllLt d l) : ∀ p ∈ l, @LT.lt Nat _ p.1 d := by
  induction l with
  | nil => intro p hp; cases hp
  | cons q r ih =>
    intro p hp
    rcases List.mem_cons.mp hp with rfl | hp
    · exact h.1
    · exact ih h.2 p hp
theorem place_mono {cs : List Int} (h2 : ∀ c ∈ cs, 0 ≤ c) (i : Nat) : ∀ j, placeAt cs i ≤ placeAt cs (i + j)
  | 0 => Int.le_refl _
  | j + 1 => by
    have := place_mono h2 i j
    have p := getD_all (P := fun c => 0 ≤ c) h2 (by decide) (i + j)
    rw [← Nat.add_assoc, placeAt]
    omega
theorem place_take (cs : List Int) : ∀ n, placeAt cs n = (cs.take n).sum
  | 0 => by simp [placeAt]
  | n + 1 => by
    rw [placeAt, place_take cs n, List.take_add_one, List.sum_append, List.getD_eq_getElem?_getD]
    cases cs[n]? <;> simp
theorem place_lt {cs ss : List Int} (h : okTold cs ss) {i : Nat} (hi : i < 16) : placeAt cs (i + 1) ≤ ss.length := by
  have h1 := place_mono h.2.1 (i + 1) (16 - (i + 1))
  rw [show i + 1 + (16 - (i + 1)) = 16 by omega] at h1
  have h3 : placeAt cs 16 = cs.sum := by rw [place_take, List.take_of_length_le (by have := h.1; omega)]
  have := h.2.2.1
  omega
theorem item_ofList {prog : Program} {w : World} {A : Around} {E : Value → Shared → Prop} {s : Shared} {value slice : PySem.Expr} {l : Addr} {vs : List Value} {k : Int} {u : Tok} {x : Value} {Q : Value → Shared → Prop} (hl : s.heap.IsList l vs.toArray)
    (h0 : 0 ≤ k) (hfit : k < 2 ^ 63) (hx : vs[k.toNat]? = some x) (h : Q x s)
    (hs : subscripted slice false (.ref l) (.int k u) = operate [.ref l, .int k u] (getItem (.ref l) (.int k u)) := by with_unfolding_all rfl) :
    wpAny (model prog w) A (subscriptTail value slice (.ref l) (.int k u)) Q E s :=
  tail_any hl.typeIs slot_list_getitem.lookup (wpAny_getItem_list hl h0 hfit (by simpa using hx) h) hs

set_option maxHeartbeats 8000000 in
theorem make_con (w : World) (lc ls : Addr) (cvs svs : List Value) (cs ss : List Int) (n1 n2 : Nat) (rest : List (Addr × Obj)) (hc : IntsAre cvs cs) (hs : IntsAre svs ss) (h1 : cs.length ≤ 400) (h2 : ss.length ≤ 400) :
    ConE w 115 [.ref lc, .ref ls] ((lc, listOf cvs.toArray n1) :: (ls, listOf svs.toArray n2) :: rest) ((lc, listOf cvs.toArray n1) :: (ls, listOf svs.toArray n2) :: rest) 20 160
      (fun v news' => okTold cs ss ∧ (∀ i < 16, ¬ badAt cs i) ∧ ∃ x xd dc od kvs lr rvs nr ts tc z1 z2 z3 z4 u1 u2 u3 u4 tl, v = .ref x ∧ @LT.lt Nat _ xd x ∧ news' = (x, instObj 115 xd) :: (xd, tabD z1 z2 z3 z4 u1 u2 u3 u4 tc ts lr dc) :: (lr, listOf rvs.toArray nr) :: (ts, ({ cls := .type "tuple", data := .seq svs.toArray } : Obj)) :: (dc, od) :: tl ∧
        od.IsDictOf (intKind PySem.Challenge.rw_nt0542_01.row.prog w) kvs ∧ (dc == sysModules) = false ∧ codesIn tl kvs cs ss ss.length ∧ RowsIn tl rvs (rowsTo cs 16) ∧ (lc, listOf cvs.toArray n1) ∈ tl ∧ (ls, listOf svs.toArray n2) ∈ tl ∧ ∀ p ∈ rest, p ∈ tl)
      (fun C => C = 44 ∧ ¬ (okTold cs ss ∧ ∀ i < 16, ¬ badAt cs i)) := by
  intro dp un gd cn cs_ a_ ccd cl outer A₀ base h₀ L m mg mb mean s Q E B F X N T hk hd hu hret hbad
  k_dflt (refine' call_cls ?k1 ?k2 ?k3 ?k4 ?k5 ?k6 ?_; (case k1 => k_asm); (case k2 => k_asm); (case k3 => k_asm); (case k4 => k_is); (case k5 => k_is); (case k6 => k_is); intro x xd h' F' N' l1 l2)
  have l1r : ∀ p ∈ rest, @LT.lt Nat _ p.1 xd := fun p hp => l1 p (.tail _ (.tail _ hp))
  k_lt l1
  k_lt2 l2
  k_dflt cell_enter
  k_steps
  refine Stop.go ?_
  refine' ConE.use (told_con w lc ls cvs svs cs ss n1 n2 ((x, instObj 115 xd) :: (xd, dictOf [] 0) :: rest) hc hs h1 h2) ?B ?F ?X ?N ?T ?hk ?hd ?hu ?hr ?hb
  case N => exact newsOf (by assumption) (by kst_in)
  case B => k_asm
  case F => k_asm
  case X => k_asm
  case T => k_asm
  case hk => exact rfl
  case hd => ktr_room
  case hu => ktr_units
  case hb =>
    rintro C e t' vs' news2 G h' tk' ⟨rfl, hno⟩ hsub FG R K U
    k_steps
    dsimp only [InitBack]
    refine hbad _ _ _ _ _ _ _ _ ⟨rfl, fun h => hno h.1⟩ (fun p hp => hsub p (keepL hp)) (by assumption) (by assumption) (by assumption) (by assumption)
  rintro v' news' h' tk' F' N' ⟨hok, rfl⟩
  k_steps
  rename Addr => tc
  rename News _ _ _ _ => N1
  have q1 := newsNe N1 (.head _) (.tail _ (.tail _ (.tail _ (.head _)))) (by intro h; cases h)
  have q2 := newsNe N1 (.head _) (.tail _ (.tail _ (.tail _ (.tail _ (.head _))))) (by show Value.type "tuple" ≠ Value.type "dict"; decide)
  have l3 : @LT.lt Nat _ lc x := by omega
  have l4 : @LT.lt Nat _ ls x := by omega
  k_steps
  rename Addr => ts
  rename News _ _ _ _ => N2
  have q3 := newsNe N2 (.head _) (.tail _ (.tail _ (.tail _ (.tail _ (.head _))))) (by intro h; cases h)
  have q4 := newsNe N2 (.head _) (.tail _ (.tail _ (.tail _ (.tail _ (.tail _ (.head _)))))) (by show Value.type "tuple" ≠ Value.type "dict"; decide)
  k_steps
  refine Stop.go ?_
  refine' ConE.use (rows_con w tc cvs cs 0 _ hc hok.1 hok.2.1 (le_of_told hok) ?hm2) ?B2 ?F2 ?X2 ?N2 ?T2 ?hk2 ?hd2 ?hu2 ?hr2 ?hb2
  case N2 => assumption
  case hm2 => exact .tail _ (.head _)
  case B2 => k_asm
  case F2 => k_asm
  case X2 => k_asm
  case T2 => k_asm
  case hk2 => exact rfl
  case hd2 => ktr_room
  case hu2 => ktr_units
  case hb2 =>
    rintro C e t' vs' news2 G h' tk' ⟨rfl, i, hi, hno⟩ hsub FG R K U
    k_steps
    dsimp only [InitBack]
    refine hbad _ _ _ _ _ _ _ _ ⟨rfl, fun h => h.2 i hi hno⟩ (fun p hp => hsub p (.tail _ (.tail _ (keepL hp)))) (by assumption) (by assumption) (by assumption) (by assumption)
  rintro v' news' h' tk' F' N' ⟨hno, lr, rvs, nr, led, rfl, rfl, hrows, hlt, hgt⟩
  obtain ⟨tl, htl⟩ : ∃ tl, Same tl (led ++ rest) := ⟨_, rfl⟩
  have N9 := newsSink6 htl N'
  have lt9 := allLt_of hlt
  simp only [AllLt, and_true] at lt9
  have hne : ∀ p ∈ tl, p.1 ≠ xd := fun p hp => by
    rw [show tl = led ++ rest from htl] at hp
    rcases List.mem_append.mp hp with h | h
    · exact Nat.ne_of_gt (Nat.lt_trans lt9.2.2.2.2.2.1 (hgt p h))
    · exact Nat.ne_of_lt (l1r p h)
  clear hlt N'
  k_steps
  refine Stop.go ?_
  rename Addr => dc
  rename Obj => od0
  rename Obj.IsDictOf (intKind _ _) _ _ => hod
  rename (dc == sysModules) = false => hlo
  rename PyProof.V.FlatPairs _ _ _ => fz1
  clear fz1
  rename PyProof.V.FlatPairs _ _ _ => fz1
  clear fz1
  rename _ ∧ _ ∧ _ ∧ _ ∧ _ ∧ _ ∧ _ ∧ AllLt dc tl => lt10
  rename Fr _ _ _ _ => F1
  rename News _ _ _ _ => N1
  obtain ⟨m1, e1, F2⟩ := frGen F1
  obtain ⟨z1, z2, z3, z4, u1, u2, u3, u4, N2⟩ : ∃ z1 z2 z3 z4 u1 u2 u3 u4, News _ _ _ ((dc, od0) :: (lr, listOf rvs.toArray nr) :: (ts, ({ cls := .type "tuple", data := .seq svs.toArray } : Obj)) :: (tc, ({ cls := .type "tuple", data := .seq cvs.toArray } : Obj)) ::
    (lc, listOf cvs.toArray n1) :: (ls, listOf svs.toArray n2) :: (x, instObj 115 xd) :: (xd, tabD z1 z2 z3 z4 u1 u2 u3 u4 tc ts lr dc) :: tl) := ⟨_, _, _, _, _, _, _, _, N1⟩
  clear F1 N1
  refine For_M (by k_asm) ?_
  k_steps
  refine Stop.go ?_
  rename IsRange _ _ _ _ _ _ _ _ => hrg
  have hrg0 := hrg
  rename News _ _ _ _ => N3
  rename Fr _ _ _ _ => F3
  refine pyIter_rangeM (n := 16) (news := ((dc, od0) :: (lr, listOf rvs.toArray nr) :: (ts, ({ cls := .type "tuple", data := .seq svs.toArray } : Obj)) :: (tc, ({ cls := .type "tuple", data := .seq cvs.toArray } : Obj)) :: (lc, listOf cvs.toArray n1) :: (ls, listOf svs.toArray n2) :: (x, instObj 115 xd) :: (xd, tabD z1 z2 z3 z4 u1 u2 u3 u4 tc ts lr dc) :: tl)) (J := fun i m nx => ∃ od kvs led2 tl2, Same tl2 (led2 ++ tl) ∧ Loc ["size", "first", "many", "place", "k"] m1 m [] ∧
     nx = ((dc, od) :: (lr, listOf rvs.toArray nr) :: (ts, ({ cls := .type "tuple", data := .seq svs.toArray } : Obj)) :: (tc, ({ cls := .type "tuple", data := .seq cvs.toArray } : Obj)) :: (lc, listOf cvs.toArray n1) :: (ls, listOf svs.toArray n2) :: (x, instObj 115 xd) :: (xd, tabD z1 z2 z3 z4 u1 u2 u3 u4 tc ts lr dc) :: tl2) ∧ od.IsDictOf (intKind PySem.Challenge.rw_nt0542_01.row.prog w) kvs ∧ codesIn tl2 kvs cs ss (placeAt cs i).toNat ∧ ∀ p ∈ led2, @LT.lt Nat _ dc p.1) rfl hrg (by decide) (by decide) F3 N3 ?hj ?turn ?done
  case hj => exact ⟨od0, [], [], tl, rfl, ⟨List.forall_mem_nil _, fun _ _ _ => rfl⟩, rfl, hod, ⟨Nat.le_refl _, fun j hj => absurd hj (Nat.not_lt_zero _)⟩, List.forall_mem_nil _⟩
  case turn =>
    rintro i t m₁ nx it io h tk hi ⟨od, kvs, led2, tl2, htl2, hloc, rfl, hod2, hcod, hgt2⟩ hit F4 N4
    have F5 := hloc.fr F4
    clear hloc F4 F3
    subst e1
    have hri := hrows.2 i (codeAt cs i) (cs.getD i 0) (placeAt cs i) (by simp [rowsTo, rowAt, hi])
    obtain ⟨ri, tf, tm, tp, hri, hmem⟩ := hri
    have hmem2 : (ri, ({ cls := .type "tuple", data := .seq [Value.int (codeAt cs i) tf, Value.int (cs.getD i 0) tm, Value.int (placeAt cs i) tp].toArray } : Obj)) ∈ tl2 := by
      rw [show tl2 = led2 ++ tl from htl2, show tl = led ++ rest from htl]
      exact List.mem_append_right _ (List.mem_append_left _ hmem)
    have c0 := (code_bound hok.2.1 (le_of_told hok) i).1
    have c1 := (code_bound hok.2.1 (le_of_told hok) i).2
    have c2 := pow_le_16 (i := i) (by omega)
    have c3 := place_bound hok.2.1 (le_of_told hok) i
    have c4 := getD_all (P := fun c => 0 ≤ c) hok.2.1 (by decide) i
    have c5 := getD_all (P := fun c => c ≤ 256) (le_of_told hok) (by decide) i
    k_unmd
    k_fold
    k_steps
    refine Stop.go ?_
    refine item_ofList (News.isList (by k_asm) (by k_mem)) (by omega) (by omega) (x := .ref ri) (by rw [show (1 + (i : Int) - 1).toNat = i by omega]; exact hri) ?_
    k_steps
    refine Stop.go ?_
    refine For_M (by k_asm) ?_
    k_steps
    refine Stop.go ?_
    rename IsRange _ _ _ _ _ _ _ _ => hrg2
    rename News _ _ _ _ => N6
    rename Fr _ _ _ _ => F6
    obtain ⟨m2, e2, F7⟩ := frGen F6
    clear F6
    have pl := place_lt hok hi
    rw [placeAt] at pl
    have hnd := hok.2.2.2.2
    have hdc : ∀ p ∈ tl2, p.1 ≠ dc := fun p hp => by
      rw [show tl2 = led2 ++ tl from htl2] at hp
      rcases List.mem_append.mp hp with h | h
      · exact Nat.ne_of_gt (hgt2 p h)
      · exact Nat.ne_of_lt (allLt_mem lt10.2.2.2.2.2.2.2 p h)
    have hits : ∀ p ∈ tl2, p.1 ≠ it := fun p hp => hit p (.tail _ (.tail _ (.tail _ (.tail _ (.tail _ (.tail _ (.tail _ (.tail _ hp))))))))
    have gdc : @Ne Nat dc it := hit (dc, _) (.head _)
    refine pyIter_rangeM (n := (cs.getD i 0 - 0).toNat) (news := ((it, io) :: (dc, od) :: (lr, listOf rvs.toArray nr) :: (ts, ({ cls := .type "tuple", data := .seq svs.toArray } : Obj)) :: (tc, ({ cls := .type "tuple", data := .seq cvs.toArray } : Obj)) :: (lc, listOf cvs.toArray n1) :: (ls, listOf svs.toArray n2) :: (x, instObj 115 xd) :: (xd, tabD z1 z2 z3 z4 u1 u2 u3 u4 tc ts lr dc) :: tl2)) (J := fun j m nx => ∃ od kvs led3 tl3, Same tl3 (led3 ++ tl) ∧ Loc ["k"] m2 m [] ∧
     nx = ((it, io) :: (dc, od) :: (lr, listOf rvs.toArray nr) :: (ts, ({ cls := .type "tuple", data := .seq svs.toArray } : Obj)) :: (tc, ({ cls := .type "tuple", data := .seq cvs.toArray } : Obj)) :: (lc, listOf cvs.toArray n1) :: (ls, listOf svs.toArray n2) :: (x, instObj 115 xd) :: (xd, tabD z1 z2 z3 z4 u1 u2 u3 u4 tc ts lr dc) :: tl3) ∧ od.IsDictOf (intKind PySem.Challenge.rw_nt0542_01.row.prog w) kvs ∧ codesIn tl3 kvs cs ss ((placeAt cs i).toNat + j) ∧ (∀ p ∈ led3, @LT.lt Nat _ dc p.1) ∧ (∀ p ∈ tl3, p.1 ≠ dc) ∧ ∀ p ∈ tl3, p.1 ≠ it) rfl hrg2 (small_one (by decide) (by decide) (by omega) (by omega)) (rangeSize_nat _ _) F7 N6 ?hj2 ?turn2 ?done2
    case hj2 => exact ⟨od, kvs, led2, tl2, htl2, ⟨List.forall_mem_nil _, fun _ _ _ => rfl⟩, rfl, hod2, hcod, hgt2, hdc, hits⟩
    case turn2 =>
      rintro j t' m₃ nx3 it3 io3 h3 tk3 hj ⟨od3, kvs3, led3, tl3, htl3, hloc, rfl, hod3, hcod3, hgt3, hdc3, hits3⟩ hit3 F8 N8
      have F9 := hloc.fr F8
      clear hloc F8 F7 N6
      subst e2
      have hlt3 : placeAt cs i + (0 + (j : Int)) < ss.length := by omega
      k_unmd
      k_fold
      k_steps
      refine Stop.go ?_
      rename Addr => D2
      obtain ⟨t5, ht5⟩ := hs.get (placeAt cs i + (0 + (j : Int))).toNat (ss.getD (placeAt cs i + (0 + (j : Int))).toNat 0) (by rw [List.getD_eq_getElem?_getD, List.getElem?_eq_getElem (by omega)]; rfl)
      refine item_tupleT (News.isTup (by assumption) (by k_mem)) (by omega) (by omega) (j := (placeAt cs i + (0 + (j : Int))).toNat) (PySem.seqIndex_of (by omega) (by rw [hs.length]; omega)) ht5 ?_
      dsimp only
      k_steps
      refine Stop.go ?_
      have g3 : @Ne Nat dc it3 := hit3 (dc, od3) (.tail _ (.head _))
      have g4 : @Ne Nat it it3 := hit3 (it, io) (.head _)
      rename _ ∧ _ ∧ _ ∧ _ ∧ _ ∧ _ ∧ _ ∧ _ ∧ _ ∧ _ ∧ AllLt D2 tl3 => lt11
      have e7 : (placeAt cs i + (0 + (j : Int))).toNat = (placeAt cs i).toNat + j := by omega
      have e6 : (0 : Int) + (j : Int) = j := by omega
      have hz : kvs3.length ≤ sizeLine := by have := hcod3.1; rw [sizeLine_eq]; omega
      refine' kda_set (knd := intKind _ _) ?F4 ?N4 ?U4 hod3 (intKind_is _ _ _ _) hz ?_
      case F4 => k_asm
      case N4 => k_asm
      case U4 => k_updF
      intro h' o' F' N' hd'
      try dsimp only at N'
      rw [e7] at hd'
      rw [e6] at N'
      k_steps
      refine TurnM.intro ((it, io) :: (dc, o') :: (lr, listOf rvs.toArray nr) :: (ts, ({ cls := .type "tuple", data := .seq svs.toArray } : Obj)) :: (tc, ({ cls := .type "tuple", data := .seq cvs.toArray } : Obj)) :: (lc, listOf cvs.toArray n1) :: (ls, listOf svs.toArray n2) :: (x, instObj 115 xd) :: (xd, tabD z1 z2 z3 z4 u1 u2 u3 u4 tc ts lr dc) :: ((D2, ({ cls := .type "tuple", data := .seq #[Value.int (codeAt cs i + (j : Int)) _, Value.int (1 + (i : Int)) _] } : Obj)) :: tl3)) (by assumption) (by assumption) (.tail _ (.head _)) (by kst_in) ?hnx ?_
      case hnx =>
        intro p hp
        simp only [List.mem_cons] at hp
        rcases hp with rfl | rfl | hp | hp | hp | hp | hp | hp | hp | rfl | hp
        · exact g4
        · exact g3
        · exact hit3 p (by rw [hp]; simp)
        · exact hit3 p (by rw [hp]; simp)
        · exact hit3 p (by rw [hp]; simp)
        · exact hit3 p (by rw [hp]; simp)
        · exact hit3 p (by rw [hp]; simp)
        · exact hit3 p (by rw [hp]; simp)
        · exact hit3 p (by rw [hp]; simp)
        · exact Nat.ne_of_gt lt11.1
        · exact hit3 p (by simp only [List.mem_cons]; simp [hp])
      refine' Exists.intro o' (Exists.intro _ (Exists.intro _ (Exists.intro _ ⟨htl3.cons, ⟨List.forall_mem_nil _, ?_⟩, rfl, hd', ?_, ?_, ?_, ?_⟩)))
      · intro z hz hs
        simp only [List.contains_cons, List.contains_nil, Bool.or_false, Bool.or_eq_false_iff, beq_eq_false_iff_ne, ne_eq] at hs
        simp [kstB, hs]
      · exact hcod3.snoc hnd (by omega) hi (by omega) (by omega) (by omega)
      · exact List.forall_mem_cons.mpr ⟨lt11.2.2.1, hgt3⟩
      · exact List.forall_mem_cons.mpr ⟨Nat.ne_of_gt lt11.2.2.1, hdc3⟩
      · exact List.forall_mem_cons.mpr ⟨Nat.ne_of_gt lt11.2.1, hits3⟩
    case done2 =>
      rintro m₃ nx3 h3 tk3 ⟨od3, kvs3, led3, tl3, htl3, hloc, rfl, hod3, hcod3, hgt3, hdc3, hits3⟩ F8 N8
      have F9 := hloc.fr F8
      clear hloc F8 F7 N6
      subst e2
      k_steps
      refine TurnM.intro ((dc, od3) :: (lr, listOf rvs.toArray nr) :: (ts, ({ cls := .type "tuple", data := .seq svs.toArray } : Obj)) :: (tc, ({ cls := .type "tuple", data := .seq cvs.toArray } : Obj)) :: (lc, listOf cvs.toArray n1) :: (ls, listOf svs.toArray n2) :: (x, instObj 115 xd) :: (xd, tabD z1 z2 z3 z4 u1 u2 u3 u4 tc ts lr dc) :: tl3) (by assumption) (by assumption) (.head _) (by kst_in) ?hnx2 ?_
      case hnx2 =>
        intro p hp
        simp only [List.mem_cons] at hp
        rcases hp with rfl | hp | hp | hp | hp | hp | hp | hp | hp
        · exact gdc
        · exact hit p (by rw [hp]; simp)
        · exact hit p (by rw [hp]; simp)
        · exact hit p (by rw [hp]; simp)
        · exact hit p (by rw [hp]; simp)
        · exact hit p (by rw [hp]; simp)
        · exact hit p (by rw [hp]; simp)
        · exact hit p (by rw [hp]; simp)
        · exact hits3 p hp
      refine' Exists.intro od3 (Exists.intro _ (Exists.intro _ (Exists.intro _ ⟨htl3, ⟨List.forall_mem_nil _, ?_⟩, rfl, hod3, ?_, hgt3⟩)))
      · intro z hz hs
        simp only [List.contains_cons, List.contains_nil, Bool.or_false, Bool.or_eq_false_iff, beq_eq_false_iff_ne, ne_eq] at hs
        simp [kstB, hs]
      · have e : (placeAt cs (i + 1)).toNat = (placeAt cs i).toNat + (cs.getD i 0 - 0).toNat := by rw [placeAt]; omega
        rw [e]
        exact hcod3
  case done =>
    rintro m₁ nx h tk ⟨od, kvs, led2, tl2, htl2, hloc, rfl, hod2, hcod, hgt2⟩ F4 N4
    have F5 := hloc.fr F4
    clear hloc F4 F3
    subst e1
    k_steps
    have e16 : (placeAt cs 16).toNat = ss.length := by
      have h3 : placeAt cs 16 = cs.sum := by rw [place_take, List.take_of_length_le (by have := hok.1; omega)]
      have := hok.2.2.1
      omega
    rw [e16] at hcod
    have hs1 : ∀ p ∈ tl2, p ∈ (tc, ({ cls := .type "tuple", data := .seq cvs.toArray } : Obj)) :: (lc, listOf cvs.toArray n1) :: (ls, listOf svs.toArray n2) :: tl2 := fun p hp => .tail _ (.tail _ (.tail _ hp))
    have hs2 : ∀ p ∈ tl, p ∈ tl2 := fun p hp => by rw [show tl2 = led2 ++ tl from htl2]; exact List.mem_append_right _ hp
    refine hret _ ((x, instObj 115 xd) :: (xd, tabD z1 z2 z3 z4 u1 u2 u3 u4 tc ts lr dc) :: (lr, listOf rvs.toArray nr) :: (ts, ({ cls := .type "tuple", data := .seq svs.toArray } : Obj)) :: (dc, od) :: (tc, ({ cls := .type "tuple", data := .seq cvs.toArray } : Obj)) :: (lc, listOf cvs.toArray n1) :: (ls, listOf svs.toArray n2) :: tl2) _ _ (by assumption) (newsOf (by assumption) (by kst_in))
      ⟨hok, hno, x, xd, dc, od, kvs, lr, rvs, nr, ts, tc, z1, z2, z3, z4, u1, u2, u3, u4, _, rfl, l2, rfl, hod2, hlo, hcod.mono hs1, hrows.mono fun p hp => hs1 p (hs2 p ?_), .tail _ (.head _), .tail _ (.tail _ (.head _)), fun p hp => hs1 p (hs2 p ?_)⟩
    · rw [show tl = led ++ rest from htl]; exact List.mem_append_left _ hp
    · rw [show tl = led ++ rest from htl]; exact List.mem_append_right _ hp
end
section
example : True := by
  w_top off
  trivial
/-- a contract of a def that catches: the frames below may have been given their frame objects -/
def ConT (w : World) (f : Addr) (vs : List Value) (news : List (Addr × Obj)) (D U : Nat) (Post : Value → List (Addr × Obj) → Prop) : Prop :=
  ∀ (dp un : Nat) (gd : Option (List Code)) (cn : Str) (cs : Scope) (a : Addr) (ccd : Value) (cl : List (Str × Addr)) (outer : List Env) (A₀ : Around) (base h₀ : Heap) (L : Addr) (m mg mb : Str → Option Value) (mean : ExcName → Option Value) (s : Shared) (Q E : Value → Shared → Prop),
    Below A₀ base outer h₀ → Fr h₀ L s.heap m → (hd.K.heap_1 w.params).In h₀ → News h₀ L s.heap news → Top hd.V (looseW hd.V []) mean mg mb h₀ → (hd.K.heap_1 w.params).In base → Top hd.V (looseW hd.V []) mean mg mb base → KtsDicts (outer.filterMap (·.frame)) h₀ → cs.kind = .function →
    dp + D < recursionLimit → un + U < cLine →
    (∀ v news' h₀' h' tk', KtsTurn (outer.filterMap (·.frame)) h₀ h₀' → Fr h₀' L h' m → News h₀' L h' news' → Below A₀ base outer h₀' → (hd.K.heap_1 w.params).In h₀' → Top hd.V (looseW hd.V []) mean mg mb h₀' → KtsDicts (outer.filterMap (·.frame)) h₀' → Post v news' → Q v { s with heap := h', toks := tk' }) →
    wpAny (model PySem.Challenge.rw_nt0542_01.row.prog w) (ktrTop dp un gd cn cs L a ccd cl outer) (call (.ref f) vs) Q E s
section
variable {w : World} {f : Addr} {vs : List Value} {news : List (Addr × Obj)} {D U : Nat} {Post : Value → List (Addr × Obj) → Prop}
  {dp un : Nat} {gd : Option (List Code)} {cn : Str} {cs : Scope} {a : Addr} {ccd : Value} {cl : List (Str × Addr)} {outer : List Env} {A₀ : Around} {base h₀ : Heap} {L : Addr} {m mg mb : Str → Option Value} {mean : ExcName → Option Value} {s : Shared} {Q E : Value → Shared → Prop}
theorem ConT.use (c : ConT w f vs news D U Post) (B : Below A₀ base outer h₀) (F : Fr h₀ L s.heap m) (X : (hd.K.heap_1 w.params).In h₀) (N : News h₀ L s.heap news) (T : Top hd.V (looseW hd.V []) mean mg mb h₀) (XB : (hd.K.heap_1 w.params).In base) (TB : Top hd.V (looseW hd.V []) mean mg mb base) (KD : KtsDicts (outer.filterMap (·.frame)) h₀) (hk : cs.kind = .function)
    (hd : dp + D < recursionLimit) (hu : un + U < cLine) (hr : ∀ v news' h₀' h' tk', KtsTurn (outer.filterMap (·.frame)) h₀ h₀' → Fr h₀' L h' m → News h₀' L h' news' → Below A₀ base outer h₀' → (Mine.hd.K.heap_1 w.params).In h₀' → Top Mine.hd.V (looseW Mine.hd.V []) mean mg mb h₀' → KtsDicts (outer.filterMap (·.frame)) h₀' → Post v news' → Q v { s with heap := h', toks := tk' }) :
    wpAny (model PySem.Challenge.rw_nt0542_01.row.prog w) (ktrTop dp un gd cn cs L a ccd cl outer) (call (.ref f) vs) Q E s := c _ _ _ _ _ _ _ _ _ _ _ _ _ _ _ _ _ _ _ _ B F X N T XB TB KD hk hd hu hr
end

def okTable (cs ss : List Int) : Prop := okTold cs ss ∧ ∀ i < 16, ¬ badAt cs i
open Classical in
set_option maxHeartbeats 8000000 in
theorem refused_con (w : World) (lc ls : Addr) (cvs svs : List Value) (cs ss : List Int) (n1 n2 : Nat) (rest : List (Addr × Obj)) (hc : IntsAre cvs cs) (hs : IntsAre svs ss) (h1 : cs.length ≤ 400) (h2 : ss.length ≤ 400) :
    ConT w 197 [.ref lc, .ref ls] ((lc, listOf cvs.toArray n1) :: (ls, listOf svs.toArray n2) :: rest) 30 240
      (fun v news' => v = .bool (decide (¬ okTable cs ss)) ∧ ∀ p ∈ (lc, listOf cvs.toArray n1) :: (ls, listOf svs.toArray n2) :: rest, p ∈ news') := by
  intro dp un gd cn cs_ a_ ccd cl outer A₀ base h₀ L m mg mb mean s Q E B F X N T XB TB KD hk hd hu hret
  refine wpAny_call ?_
  k_dflt (refine' code_defT ?k1 ?k2 ?k3 ?k4 ?k5 ?kX ?kT ?kD ?kA ?kF ?kK ?k6 ?k7 ?k8 ?k9 ?kB ?_ ?c2 ?c3 ?c4 ?c5; (case kA => exact rfl); (case kF => exact rfl); (case kK => assumption); (case k1 => k_asm); (case k2 => k_asm); (case k3 => k_asm); (case k4 => k_asm); (case k5 => k_asm); (case kX => k_asm); (case kT => k_asm); (case kD => k_asm); (case k6 => k_is); (case k7 => k_is); (case k8 => ktr_room); (case k9 => exact BindsTo.of_eq rfl); (case c5 => decide); (case kB => exact locs rfl); (case c2 => exact rfl); (case c3 => exact rfl); (case c4 => exact rfl); k_whole; intro g' L' h' FG' F' N' B' X' T' D'; (try dsimp only); (try k_lift B'))
  k_steps
  refine Stop.go ?_
  refine' ConE.use (make_con w lc ls cvs svs cs ss n1 n2 rest hc hs h1 h2) ?B ?F ?X ?N ?T ?hk ?hd ?hu ?hr ?hb
  case N => assumption
  case B => k_asm
  case F => k_asm
  case X => k_asm
  case T => k_asm
  case hk => exact rfl
  case hd => ktr_room
  case hu => ktr_units
  case hb =>
    rintro C e t' vs' news2 G h' tk' ⟨rfl, hno⟩ hsub FG R K U
    k_steps
    rename News _ _ _ news2 => NN2
    refine ⟨_, _, _, _, by assumption, by assumption, NN2, fun h₀' KT FF NN BB XX TT DD => ?_⟩
    exact hret _ _ _ _ _ KT FF NN BB XX TT DD ⟨by rw [decide_eq_true (show ¬ okTable cs ss from hno)], hsub⟩
  rintro v' news' h' tk' F' N' ⟨hok, hno, x, xd, dc, od, kvs, lr, rvs, nr, ts, tc, z1, z2, z3, z4, u1, u2, u3, u4, tl, rfl, _, rfl, _, _, _, _, hlc, hls, hsub⟩
  k_steps
  refine ⟨_, _, _, _, KtsTurn.refl, by assumption, by assumption, fun h₀' KT FF NN BB XX TT DD => ?_⟩
  refine hret _ _ _ _ _ KT FF NN BB XX TT DD ⟨by rw [decide_eq_false]; exact fun h => h ⟨hok, hno⟩, fun p hp => .tail _ (.tail _ (.tail _ (.tail _ (.tail _ ?_))))⟩
  rcases List.mem_cons.mp hp with rfl | hp
  · exact hlc
  · rcases List.mem_cons.mp hp with rfl | hp
    · exact hls
    · exact hsub p hp
end
section
example : True := by
  w_top off
  trivial
local macro_rules | `(tactic| walk_at "noteFrame ref") => `(tactic| (k_here; (with_reducible rename RaisedS _ _ _ _ (Value.ref 68) _ _ _ _ => rs68); k_dflt (refine' caught_second rs68 ?F ?K ?U ?XB ?TB ?D ?T0 ?ey ?qy ?hno ?ex ?q ?_; (case F => assumption); (case K => assumption); (case U => assumption); (case XB => assumption); (case TB => assumption); (case D => assumption); (case T0 => first | assumption | exact KtsTurn.refl); (case ex => k_is); (case ey => k_is); (case q => kts_isx); (case qy => kts_isx); (case hno => k_is)); intro h' g' n₂ T' F' N₂ G' N' K' X' P' D'; (try k_lift K')))

set_option maxHeartbeats 8000000 in
theorem fall_con (w : World) (x xd lr ts : Addr) (a1 : @LT.lt Nat _ xd x) (z1 z2 z3 z4 : Int) (u1 u2 u3 u4 tb : Tok) (tc dc : Addr) (rvs svs : List Value) (rows : List (Int × Int × Int)) (ss : List Int) (nr ns : Nat) (bs : List UInt8) (rest : List (Addr × Obj)) (hb : bs.length ≤ 100)
    (hrows : RowsIn rest rvs rows) (hlen : rows.length ≤ 16) (hss : IntsAre svs ss) (hsl : ss.length ≤ 1000) (res : RR) (hres : readFrom (bitAt bs) (8 * bs.length) rows 0 0 = res) (hno : ∀ i k, res ≠ .sym i k) :
    ConT w 211 [.ref x, .bytes bs.toArray tb] ((x, instObj 115 xd) :: (xd, tabD z1 z2 z3 z4 u1 u2 u3 u4 tc ts lr dc) :: (lr, listOf rvs.toArray nr) :: (ts, ({ cls := .type "tuple", data := .seq svs.toArray ns } : Obj)) :: rest) 30 240
      (fun v news' => (∃ t, v = .str (match res with | .noCode => Str.ofString "code" | _ => Str.ofString "cut") t) ∧ ∀ p ∈ (x, instObj 115 xd) :: (xd, tabD z1 z2 z3 z4 u1 u2 u3 u4 tc ts lr dc) :: (lr, listOf rvs.toArray nr) :: (ts, ({ cls := .type "tuple", data := .seq svs.toArray ns } : Obj)) :: rest, p ∈ news') := by
  intro dp un gd cn cs_ a_ ccd cl outer A₀ base h₀ L m mg mb mean s Q E B F X N T XB TB KD hk hd hu hret
  refine wpAny_call ?_
  k_dflt (refine' code_defT ?k1 ?k2 ?k3 ?k4 ?k5 ?kX ?kT ?kD ?kA ?kF ?kK ?k6 ?k7 ?k8 ?k9 ?kB ?_ ?c2 ?c3 ?c4 ?c5; (case kA => exact rfl); (case kF => exact rfl); (case kK => assumption); (case k1 => k_asm); (case k2 => k_asm); (case k3 => k_asm); (case k4 => k_asm); (case k5 => k_asm); (case kX => k_asm); (case kT => k_asm); (case kD => k_asm); (case k6 => k_is); (case k7 => k_is); (case k8 => ktr_room); (case k9 => exact BindsTo.of_eq rfl); (case c5 => decide); (case kB => exact locs rfl); (case c2 => exact rfl); (case c3 => exact rfl); (case c4 => exact rfl); k_whole; intro g' L' h' FG' F' N' B' X' T' D'; (try dsimp only); (try k_lift B'))
  k_steps
  refine Stop.go ?_
  refine' ConE.use (read_con w x xd lr ts _ _ a1 ?p1 ?p2 ?p3 ?p4 z1 z2 z3 z4 _ _ u1 u2 u3 u4 _ _ tb _ tc dc rvs svs rows ss nr ns bs 0 rest ?p0 ?p5 hb hrows hlen hss ?p6 ?p7 ?p8 hsl) ?B ?F ?X ?N ?T ?hk ?hd ?hu ?hr ?hb
  case N => k_asm
  case B => k_asm
  case F => k_asm
  case X => k_asm
  case T => k_asm
  case hk => exact rfl
  case hd => ktr_room
  case hu => ktr_units
  case hb =>
    rintro C e t' vs' news2 G h' tk' (⟨rfl, hc⟩ | ⟨rfl, hc⟩) hsub FG R K U
    · k_steps
      rename News _ _ _ news2 => NN2
      refine ⟨_, _, _, _, by assumption, by assumption, NN2, fun h₀' KT FF NN BB XX TT DD => ?_⟩
      obtain rfl : RR.noCode = res := hc.symm.trans hres
      exact hret _ _ _ _ _ KT FF NN BB XX TT DD ⟨⟨_, rfl⟩, hsub⟩
    · k_steps
      rename News _ _ _ news2 => NN2
      refine ⟨_, _, _, _, by assumption, by assumption, NN2, fun h₀' KT FF NN BB XX TT DD => ?_⟩
      obtain rfl : RR.cut = res := hc.symm.trans hres
      exact hret _ _ _ _ _ KT FF NN BB XX TT DD ⟨⟨_, rfl⟩, hsub⟩
  case p1 => omega
  case p2 => omega
  case p3 => omega
  case p4 => omega
  case p0 => decide
  case p5 => decide
  case p6 =>
    rename _ ∧ _ ∧ _ ∧ _ ∧ AllLt _ rest => lt1
    intro p hp
    exact Nat.ne_of_lt (Nat.lt_trans (allLt_mem lt1.2.2.2.2 p hp) (by omega))
  case p7 =>
    rename _ ∧ _ ∧ _ ∧ _ ∧ AllLt _ rest => lt1
    intro p hp
    exact Nat.ne_of_lt (allLt_mem lt1.2.2.2.2 p hp)
  case p8 =>
    intro i k hk
    exact absurd (hres.symm.trans hk) (hno i k)
  case hr =>
    rintro v' news' h' tk' F' N' ⟨i, k, t, zk', hk, _⟩
    exact absurd (hres.symm.trans hk) (hno i k)
end
section
example : True := by
  w_top off
  trivial
set_option maxHeartbeats 8000000 in
theorem code_con (w : World) (x xd dc : Addr) (z1 z2 z3 z4 : Int) (u1 u2 u3 u4 tk : Tok) (tc ts lr t : Addr) (od : Obj) (kvs : List (Int × Value)) (k : Int) (rest : List (Addr × Obj)) (hod : od.IsDictOf (intKind PySem.Challenge.rw_nt0542_01.row.prog w) kvs) (hlo : (dc == sysModules) = false) (hk : valueAt kvs k = some (.ref t)) :
    Con w 105 [.ref x, .int k tk] ((x, instObj 115 xd) :: (xd, tabD z1 z2 z3 z4 u1 u2 u3 u4 tc ts lr dc) :: (dc, od) :: rest) 5 40
      (fun v news' => v = .ref t ∧ news' = (x, instObj 115 xd) :: (xd, tabD z1 z2 z3 z4 u1 u2 u3 u4 tc ts lr dc) :: (dc, od) :: rest) := by
  intro dp un gd cn cs_ a_ ccd cl outer A₀ base h₀ L m mg mb mean s Q E B F X N T hkk hd hu hret
  refine wpAny_call ?_
  k_dflt cell_enter
  k_steps
  refine kdg_get1 (knd := intKind _ _) (by k_asm) (by k_mem) hod hlo (intKind_is _ _ _ _) _ hk ?_
  dsimp only [Option.getD]
  k_steps
  exact hret _ _ _ _ (by assumption) (by assumption) ⟨rfl, rfl⟩
end
section
example : True := by
  w_top off
  trivial
theorem allLt_ne1 {d : Addr} {l : List (Addr × Obj)} (h : AllLt d l) : ∀ p ∈ l, p.1 ≠ d + 1 := fun p hp => Nat.ne_of_lt (Nat.lt_succ_of_lt (allLt_mem h p hp))
/-- the k-th code, as the law's own reckoning -/
def cdAt (sz : List Int) : Nat → Int
  | 0 => 0
  | k + 1 => (cdAt sz k + 1) * 2 ^ (sz.getD (k + 1) 0 - sz.getD k 0).toNat
def bitTxt (s c : Int) : Str := Txt.join (Str.ofString "") ((rangeInts (s - 1) (-1) s.toNat).map fun at_ => Str.ofString (toString ((Int.fdiv c (2 ^ at_.toNat)).fmod 2)))
def codeTxts (sz : List Int) (n : Nat) : List Str := (List.range n).map fun j => bitTxt (sz.getD j 0) (cdAt sz j)

local macro_rules | `(tactic| walk_at "call builtin:list.append") => `(tactic| (k_here; (refine Stop.of ?_)))
theorem wpAny_stop {α : Type} {M : Model} {A : Around} {E : Value → Shared → Prop} {s : Shared} {t : Sem α} {Q : α → Shared → Prop} (h : wpAny M A t (fun a s' => Stop (Q a s')) E s) : wpAny M A t Q E s := h
theorem down_range {s : Int} (h : 1 ≤ s ∧ s ≤ 6) : Builtin.Range.small (s - 1) (-1) (-1) = true ∧ Builtin.Range.rangeSize (s - 1) (-1) (-1) = (s.toNat : Int) := by
  have all : ∀ i : Fin 7, 1 ≤ (i.val : Int) → Builtin.Range.small ((i.val : Int) - 1) (-1) (-1) = true ∧ Builtin.Range.rangeSize ((i.val : Int) - 1) (-1) (-1) = (i.val : Int) := by decide +kernel
  have := all ⟨s.toNat, by omega⟩
  rw [show (((⟨s.toNat, by omega⟩ : Fin 7).val : Nat) : Int) = s from Int.toNat_of_nonneg (by omega)] at this
  rw [Int.toNat_of_nonneg (by omega)]
  exact this h.1
theorem down_mem {s a : Int} (h : 1 ≤ s ∧ s ≤ 6) (ha : a ∈ rangeInts (s - 1) (-1) s.toNat) : 0 ≤ a ∧ a ≤ 5 := by
  obtain ⟨j, hj⟩ := List.getElem?_of_mem ha
  have hl := (List.getElem?_eq_some_iff.mp hj).1
  rw [rangeInts_length] at hl
  rw [rangeInts_get hl] at hj
  have := Option.some.inj hj
  omega
theorem bit_txt (x : Int) : Str.ofString (toString (x.fmod 2)) = Str.ofString "0" ∨ Str.ofString (toString (x.fmod 2)) = Str.ofString "1" := by
  have h : x.fmod 2 = 0 ∨ x.fmod 2 = 1 := by
    rw [Int.fmod_eq_emod_of_nonneg _ (by decide)]
    omega
  rcases h with h | h
  · left; rw [h]; rfl
  · right; rw [h]; rfl
theorem bit_len (x : Int) : (Str.ofString (toString (x.fmod 2))).length ≤ 1 := by
  rcases bit_txt x with h | h <;> rw [h] <;> decide
theorem filter_all {α : Type} (l : List α) : l.filter (fun _ => true) = l := List.filter_eq_self.mpr fun _ _ => rfl
theorem getD_in {P : Int → Prop} {l : List Int} (h : ∀ z ∈ l, P z) {i : Nat} (hi : i < l.length) : P (l.getD i 0) := by
  rw [List.getD_eq_getElem?_getD, List.getElem?_eq_getElem hi]
  exact h _ (List.getElem_mem hi)
theorem codeTxts_succ (sz : List Int) (i : Nat) : codeTxts sz (i + 1) = codeTxts sz i ++ [bitTxt (sz.getD i 0) (cdAt sz i)] := by
  simp [codeTxts, List.range_succ]
set_option maxHeartbeats 8000000 in
theorem codes_con (w : World) (lz : Addr) (zvs : List Value) (sz : List Int) (nz : Nat) (rest : List (Addr × Obj)) (hz : IntsAre zvs sz) (h1 : 1 ≤ sz.length ∧ sz.length ≤ 9) (h2 : ∀ z ∈ sz, 1 ≤ z ∧ z ≤ 6)
    (h3 : ∀ i : Nat, i + 1 < sz.length → sz.getD i 0 ≤ sz.getD (i + 1) 0) (h4 : ∀ i < sz.length, 0 ≤ cdAt sz i ∧ cdAt sz i < 64) :
    Con w 185 [.ref lz] ((lz, listOf zvs.toArray nz) :: rest) 10 80
      (fun v news' => ∃ lf fvs nf, v = .ref lf ∧ news' = (lf, listOf fvs.toArray nf) :: (lz, listOf zvs.toArray nz) :: rest ∧ StrsAre fvs (codeTxts sz sz.length)) := by
  intro dp un gd cn cs_ a_ ccd cl outer A₀ base h₀ L m mg mb mean s Q E B F X N T hk hd hu hret
  refine wpAny_call ?_
  k_dflt (walk_at "enterC")
  rename _ ∧ AllLt _ rest => lt0
  have hr0 := allLt_ne1 lt0.2
  k_steps
  refine Stop.go ?_
  refine For_M (by k_asm) ?_
  k_steps
  refine Stop.go ?_

  rename_i g' L' _ tk0 FG _ _ _ _ _ lf _ lt1 D0 _ lt2 _ _ _ oc F0 N0 hoc _ tk1 t1 v1 u1 hrg F1 N1 _
  obtain ⟨m1, e1, F2⟩ := frGen F1
  clear F1
  have hlz : @Ne Nat lz lf := Nat.ne_of_lt lt1.2.1
  refine pyIter_rangeM (n := sz.length) (news := (lf, listOf ([] : List Value).toArray 0) :: (L' + 1, oc) :: (lz, listOf zvs.toArray nz) :: rest) (J := fun i m nx => ∃ oc t fvs nf, Loc ["k"] m1 m [] ∧
     nx = (lf, listOf fvs.toArray nf) :: (L' + 1, oc) :: (lz, listOf zvs.toArray nz) :: rest ∧ oc.data = .cell (some (.int (cdAt sz (i - 1)) t)) ∧ StrsAre fvs (codeTxts sz i)) rfl hrg (small_one (by decide) (by decide) (by omega) (by omega)) (by rw [rangeSize_nat]; simp) F2 (newsOf N1 (by kst_in)) ?hj ?turn ?done
  case hj => exact ⟨oc, _, [], 0, ⟨List.forall_mem_nil _, fun _ _ _ => rfl⟩, rfl, hoc, .nil⟩
  case turn =>
    rintro i t m₁ nx it io h tk hi ⟨oc, tc, fvs, nf, hloc, rfl, hoc, hfv⟩ hit F3 N3
    have F4 := hloc.fr F3
    clear hloc F3 F2
    subst e1
    have f1 := getD_in (P := fun z => 1 ≤ z ∧ z ≤ 6) h2 (i := i) hi
    have f2 := getD_in (P := fun z => 1 ≤ z ∧ z ≤ 6) h2 (i := i - 1) (by omega)
    have f3 : sz.getD (i - 1) 0 ≤ sz.getD i 0 := by
      rcases Nat.eq_zero_or_pos i with rfl | h
      · exact Int.le_refl _
      · have := h3 (i - 1) (by omega)
        rwa [show i - 1 + 1 = i by omega] at this
    have e0 : (0 + (i : Int)).toNat = i := by omega
    have e1 : (0 + (i : Int) - 1).toNat = i - 1 := by omega
    have g1 : 1 ≤ sz.getD (0 + (i : Int)).toNat 0 ∧ sz.getD (0 + (i : Int)).toNat 0 ≤ 6 := by rw [e0]; exact f1
    have g2 : 1 ≤ sz.getD (0 + (i : Int) - 1).toNat 0 ∧ sz.getD (0 + (i : Int) - 1).toNat 0 ≤ 6 := by rw [e1]; exact f2
    have g3 : sz.getD (0 + (i : Int) - 1).toNat 0 ≤ sz.getD (0 + (i : Int)).toNat 0 := by rw [e0, e1]; exact f3
    have g4 : @Ne Nat (L' + 1) it := hit (L' + 1, oc) (.tail _ (.head _))
    have g5 : @Ne Nat lf it := hit (lf, _) (.head _)
    have g6 : @Ne Nat lz it := hit (lz, _) (.tail _ (.tail _ (.head _)))
    clear f1 f2 f3
    have f5 := (h4 (i - 1) (by omega))
    k_unmd
    k_fold
    k_steps
    all_goals
      refine Stop.go ?_
      rename _ = Data.cell (some (Value.int _ _)) => hoc2
      rename Obj => oc2
      have hc2 : ∃ t2, oc2.data = .cell (some (.int (cdAt sz i) t2)) := by
        refine ⟨_, hoc2.trans (congrArg (fun z => Data.cell (some (Value.int z _))) ?_)⟩
        rcases Nat.eq_zero_or_pos i with rfl | h
        · first | rfl | omega
        · first | omega | (rw [e0, e1]; obtain ⟨j, rfl⟩ : ∃ j, i = j + 1 := ⟨i - 1, by omega⟩; rfl)
      obtain ⟨t2, hc2⟩ := hc2
      rename Fr _ _ _ _ => F6
      obtain ⟨mm, emm, F7⟩ := frGen F6
      clear F6
      with_reducible apply ListComp_DCr (h₀ := g') (L := L') (m := mm) (d := fun at_ => .str (Str.ofString (toString ((Int.fdiv (cdAt sz i) (2 ^ at_.toNat)).fmod 2)))) (pz := fun _ => true)
      case hh => with_unfolding_all rfl
      case hclos => with_unfolding_all rfl
      case hcell => decide
      case hkind => with_unfolding_all rfl
      case hnames => decide
      case hx => with_unfolding_all rfl
      case hs => intro _; with_unfolding_all rfl
      subst emm
      refine wpAny_stop ?_
      k_steps
      refine Stop.go ?_
      rename IsRange _ _ _ _ _ _ _ _ => hrg2
      rename News _ _ _ _ => N8
      rename Fr _ _ _ _ => F8
      refine ⟨_, _, _, _, _, _, _, _, (sz.getD (0 + (i : Int)).toNat 0).toNat, rfl, hrg2, (down_range g1).1, (down_range g1).2, by rw [sizeLine_eq]; omega, F8, N8, ?_, ?_, ?_⟩
      · intro C a v s₂ m₂ E' _ _ _ _ _ _
        exact wpAny_pure ⟨rfl, s₂.heap, s₂.toks, rfl, fun _ _ e => e⟩
      · intro C a v s₂ m₂ E' hC ha hv _ hN2 hx2 hk2
        obtain ⟨tv, rfl⟩ : ∃ tv, v = .int a tv := hv
        have ha2 := down_mem g1 ha
        k_steps
        all_goals first | exact Carried.str _ _ | exact ⟨_, _, rfl, fun _ _ e => e⟩
      · intro D ys h5 tk5 F9 N9 hD hl9 hp9 hc9
        rw [filter_all] at hc9
        k_steps
        refine Stop.go ?_
        refine KT.join_B (l := rangeInts (sz.getD (0 + (i : Int)).toNat 0 - 1) (-1) (sz.getD (0 + (i : Int)).toNat 0).toNat) (g := fun at_ => Str.ofString (toString ((Int.fdiv (cdAt sz i) (2 ^ at_.toNat)).fmod 2))) 1 hl9 hc9 (fun a _ => bit_len _) (by rw [rangeInts_length]; omega) (by decide) ?_
        intro tj kj
        k_steps
        refine Stop.go ?_
        have hz : fvs.toArray.size ≤ sizeLine := by
          have e := hfv.len_eq
          simp only [codeTxts, List.length_map, List.length_range] at e
          rw [List.size_toArray, e, sizeLine_eq]; omega
        refine append_K F9 N9 (by k_upd) ?_ hz
        intro h6 F10 N10
        rw [List.push_toArray] at N10
        k_steps
        refine TurnM.intro ((lf, listOf (fvs ++ [Value.str (bitTxt (sz.getD i 0) (cdAt sz i)) tj]).toArray (nf + 1)) :: (L' + 1, oc2) :: (lz, listOf zvs.toArray nz) :: rest) (by assumption) N10 (.head _) (by rw [e0]; kst_in) (List.forall_mem_cons.mpr ⟨g5, List.forall_mem_cons.mpr ⟨g4, fun p hp => hit p (.tail _ (.tail _ hp))⟩⟩) ?_
        refine ⟨oc2, t2, fvs ++ [Value.str (bitTxt (sz.getD i 0) (cdAt sz i)) tj], nf + 1, ⟨List.forall_mem_nil _, ?_⟩, rfl, hc2, ?_⟩
        · intro z hz hs
          simp only [List.contains_cons, List.contains_nil, Bool.or_false, Bool.or_eq_false_iff, beq_eq_false_iff_ne, ne_eq] at hs
          simp [kstB, hs]
        · rw [codeTxts_succ]
          exact kct_snoc hfv
  case done =>
    rintro m₁ nx h tk ⟨oc, tc, fvs, nf, hloc, rfl, hoc, hfv⟩ F3 N3
    have F4 := hloc.fr F3
    clear hloc F3 F2
    subst e1
    k_steps
    exact hret _ _ _ _ (by assumption) (newsOf (by assumption) (by kst_in)) ⟨lf, fvs, nf, rfl, rfl, hfv⟩
end
section
example : True := by
  w_top off
  trivial
/-- how much of the room of codes the sizes take, of 1024 -/
def ksum (sz : List Int) : Int := (sz.map fun z => (2 : Int) ^ (10 - z).toNat).sum
theorem perm_sum {a b : List Int} (h : a.Perm b) : a.sum = b.sum := by
  induction h with
  | nil => rfl
  | cons x _ ih => rw [List.sum_cons, List.sum_cons, ih]
  | swap x y l => simp only [List.sum_cons]; omega
  | trans _ _ h1 h2 => exact h1.trans h2
theorem ksum_perm {a b : List Int} (h : a.Perm b) : ksum a = ksum b := perm_sum (h.map _)
theorem ksum_snoc (sz : List Int) (z : Int) : ksum (sz ++ [z]) = ksum sz + 2 ^ (10 - z).toNat := by
  simp [ksum, List.sum_append]
theorem pow_le_512 {x : Int} (h0 : 0 ≤ x) (h1 : x < 6) : (2 : Int) ^ (10 - (1 + x)).toNat ≤ 512 := by
  have all : ∀ i : Fin 6, (2 : Int) ^ (10 - (1 + (i.val : Int))).toNat ≤ 512 := by decide +kernel
  have := all ⟨x.toNat, by omega⟩
  rwa [show (((⟨x.toNat, by omega⟩ : Fin 6).val : Nat) : Int) = x from Int.toNat_of_nonneg h0] at this
set_option maxHeartbeats 8000000 in
theorem sizes_con (w : World) (src : Addr) (a1 b : Int) (ta tb : Tok) (n : Nat) (rest : List (Addr × Obj)) (hr : ∀ p ∈ rest, p.1 ≠ src) (hb0 : 0 ≤ b) (hb1 : b < 2147483647) :
    Con w 180 [.ref src] ((src, listOf [.int a1 ta, .int b tb].toArray n) :: rest) 10 80
      (fun v news' => ∃ lz zvs sz nz a2 b2 ta2 tb2 n2, v = .ref lz ∧ news' = (lz, listOf zvs.toArray nz) :: (src, listOf [.int a2 ta2, .int b2 tb2].toArray n2) :: rest ∧ IntsAre zvs sz ∧ (1 ≤ sz.length ∧ sz.length ≤ 9) ∧ (∀ z ∈ sz, 1 ≤ z ∧ z ≤ 6) ∧ sz.Pairwise (· ≤ ·) ∧ ksum sz < 1024 ∧ 0 ≤ b2 ∧ b2 < 2147483647 ∧ @Ne Nat lz src) := by
  intro dp un gd cn cs_ a_ ccd cl outer A₀ base h₀ L m mg mb mean s Q E B F X N T hk hd hu hret
  refine wpAny_call ?_
  k_dflt cell_enter
  rename_i g2 L2 _ _ _ _ _ _ _
  k_steps
  refine Stop.go ?_
  refine For_M (by k_asm) ?_
  k_steps
  refine Stop.go ?_
  rename_i lf _ lt1 D0 _ lt2 _ _ _ F0 N0
  refine' Con.use (take_con w src a1 b 9 ta tb _ n ((lf, listOf #[] 0) :: rest) (List.forall_mem_cons.mpr ⟨Nat.ne_of_gt lt1.1, hr⟩) (by decide) (by decide) hb0 hb1) ?B1 ?F1 ?X1 ?N1 ?T1 ?hk1 ?hd1 ?hu1 ?hr1
  case N1 => exact newsOf (by assumption) (by kst_in)
  case B1 => k_asm
  case F1 => k_asm
  case X1 => k_asm
  case T1 => k_asm
  case hk1 => exact rfl
  case hd1 => ktr_room
  case hu1 => ktr_units
  rintro v' news' h' tk' F' N' ⟨x, tx, a1', b', ta', tb', n', rfl, hx0, hx1, rfl, hb0', hb1'⟩
  k_steps
  refine Stop.go ?_
  rename IsRange _ _ _ _ _ _ _ _ => hrg
  rename News _ _ _ _ => N1
  rename Fr _ _ _ _ => F1
  obtain ⟨m1, e1, F2⟩ := frGen F1
  clear F1
  refine pyIter_rangeM (n := (1 + x - 0).toNat) (news := (lf, listOf ([] : List Value).toArray 0) :: (src, listOf [.int a1' ta', .int b' tb'].toArray n') :: rest) (J := fun i m nx => ∃ tu fvs fz nf a2 b2 ta2 tb2 n2, Loc ["k", "size"] m1 m [("used", .int (ksum fz) tu)] ∧
     nx = (lf, listOf fvs.toArray nf) :: (src, listOf [.int a2 ta2, .int b2 tb2].toArray n2) :: rest ∧ IntsAre fvs fz ∧ fz.length ≤ i ∧ (∀ z ∈ fz, 1 ≤ z ∧ z ≤ 6) ∧ ksum fz < 1024 ∧ 0 ≤ ksum fz ∧ (0 < i → fz ≠ []) ∧ 0 ≤ b2 ∧ b2 < 2147483647) rfl hrg (small_one (by decide) (by decide) (by omega) (by omega)) (rangeSize_nat _ _) F2 (newsOf N1 (by kst_in)) ?hj ?turn ?done
  case hj => exact ⟨_, [], [], 0, a1', b', ta', tb', n', ⟨List.forall_mem_cons.mpr ⟨by subst e1; rfl, List.forall_mem_nil _⟩, fun _ _ _ => rfl⟩, rfl, .nil, Nat.le_refl _, List.forall_mem_nil _, by decide, by decide, fun h => absurd h (Nat.lt_irrefl _), hb0', hb1'⟩
  case turn =>
    rintro i t m₁ nx it io h tk hi ⟨tu, fvs, fz, nf, a2, b2, ta2, tb2, n2, hloc, rfl, hfv, hfl, hfz, hks, hks0, hne, hb20, hb21⟩ hit F3 N3
    have F4 := hloc.fr F3
    clear hloc F3 F2
    subst e1
    have g1 : @Ne Nat lf it := hit (lf, _) (.head _)
    have g2 : @Ne Nat src it := hit (src, _) (.tail _ (.head _))
    k_unmd
    k_fold
    k_steps
    refine Stop.go ?_
    refine' Con.use (take_con w src a2 b2 6 ta2 tb2 _ n2 ((it, io) :: (lf, listOf fvs.toArray nf) :: rest) (List.forall_mem_cons.mpr ⟨g2.symm, List.forall_mem_cons.mpr ⟨Nat.ne_of_gt lt1.1, hr⟩⟩) (by decide) (by decide) hb20 hb21) ?B2 ?F2 ?X2 ?N2 ?T2 ?hk2 ?hd2 ?hu2 ?hr2
    case N2 => exact newsOf (by assumption) (by kst_in)
    case B2 => k_asm
    case F2 => k_asm
    case X2 => k_asm
    case T2 => k_asm
    case hk2 => exact rfl
    case hd2 => ktr_room
    case hu2 => ktr_units
    rintro v' news' h' tk' F' N' ⟨x2, tx2, a3, b3, ta3, tb3, n3, rfl, hx20, hx21, rfl, hb30, hb31⟩
    k_steps
    · rename _ < _ => hlt
      rename News _ _ _ _ => N9
      rw [List.push_toArray] at N9
      have hlt2 : ksum fz + 2 ^ (10 - (1 + x2)).toNat < 1024 := hlt
      refine TurnM.intro ((lf, listOf (fvs ++ [Value.int (1 + x2) tk']).toArray (nf + 1)) :: (src, listOf [.int a3 ta3, .int b3 tb3].toArray n3) :: rest) (by assumption) N9 (.tail _ (.head _)) (by kst_in) (List.forall_mem_cons.mpr ⟨g1, List.forall_mem_cons.mpr ⟨g2, fun p hp => hit p (.tail _ (.tail _ hp))⟩⟩) ?_
      have hp := kbt_pos (10 - (1 + x2)).toNat
      refine' Exists.intro _ (Exists.intro _ (Exists.intro (fz ++ [1 + x2]) (Exists.intro _ (Exists.intro a3 (Exists.intro b3 (Exists.intro ta3 (Exists.intro tb3 (Exists.intro n3 ⟨⟨List.forall_mem_cons.mpr ⟨?_, List.forall_mem_nil _⟩, ?_⟩, rfl, hfv.append (.cons _ _ .nil), by simp; omega, ?_, ?_, ?_, fun _ => by simp, hb30, hb31⟩))))))))
      case refine'_2 => rw [ksum_snoc]; rfl
      · intro z hz hs
        simp only [List.forall_mem_cons, List.not_mem_nil, false_implies, implies_true, and_true, ne_eq] at hz
        simp only [List.contains_cons, List.contains_nil, Bool.or_false, Bool.or_eq_false_iff, beq_eq_false_iff_ne, ne_eq] at hs
        simp [kstB, hz, hs]
      · intro z hz
        rcases List.mem_append.mp hz with h | h
        · exact hfz z h
        · rw [List.mem_singleton.mp h]; omega
      · rw [ksum_snoc]; omega
      · rw [ksum_snoc]; omega
    · rename ¬ _ < _ => hlt
      rename News _ _ _ _ => N9
      have hlt2 : ¬ ksum fz + 2 ^ (10 - (1 + x2)).toNat < 1024 := hlt
      refine TurnM.intro ((lf, listOf fvs.toArray nf) :: (src, listOf [.int a3 ta3, .int b3 tb3].toArray n3) :: rest) (by assumption) N9 (.tail _ (.head _)) (by kst_in) (List.forall_mem_cons.mpr ⟨g1, List.forall_mem_cons.mpr ⟨g2, fun p hp => hit p (.tail _ (.tail _ hp))⟩⟩) ?_
      refine' Exists.intro _ (Exists.intro fvs (Exists.intro fz (Exists.intro nf (Exists.intro a3 (Exists.intro b3 (Exists.intro ta3 (Exists.intro tb3 (Exists.intro n3 ⟨⟨List.forall_mem_cons.mpr ⟨rfl, List.forall_mem_nil _⟩, ?_⟩, rfl, hfv, by omega, hfz, hks, hks0, ?_, hb30, hb31⟩))))))))
      · intro z hz hs
        simp only [List.forall_mem_cons, List.not_mem_nil, false_implies, implies_true, and_true, ne_eq] at hz
        simp only [List.contains_cons, List.contains_nil, Bool.or_false, Bool.or_eq_false_iff, beq_eq_false_iff_ne, ne_eq] at hs
        simp [kstB, hz, hs]
      · intro _ he
        subst he
        have := pow_le_512 hx20 hx21
        simp only [ksum, List.map_nil, List.sum_nil] at hlt2
        omega
  case done =>
    rintro m₁ nx h tk ⟨tu, fvs, fz, nf, a2, b2, ta2, tb2, n2, hloc, rfl, hfv, hfl, hfz, hks, hks0, hne, hb20, hb21⟩ F3 N3
    have F4 := hloc.fr F3
    clear hloc F3 F2
    subst e1
    k_steps
    refine Stop.go ?_
    rename Fr _ _ _ _ => F6
    obtain ⟨mm, emm, F7⟩ := frGen F6
    clear F6
    with_reducible apply ListComp_DCn (h₀ := g2) (L := L2) (m := mm) (K := .int) (d := fun z => .int z) (pz := fun _ => true)
    case hh => with_unfolding_all rfl
    case hclos => with_unfolding_all rfl
    case hcell => decide
    case hkind => with_unfolding_all rfl
    case hnames => decide
    case hx => with_unfolding_all rfl
    case hs => intro _; with_unfolding_all rfl
    subst emm
    refine wpAny_stop ?_
    k_steps
    refine Stop.go ?_
    rename News _ _ _ _ => N8
    rename Fr _ _ _ _ => F8
    refine ⟨_, _, _, _, rfl, News.isList N8 (by k_mem), hfv.areOf, by rw [sizeLine_eq]; omega, F8, N8, ?_, ?_, ?_⟩
    · intro C a v s₂ m₂ E' _ _ _ _ _ _
      exact wpAny_pure ⟨rfl, s₂.heap, s₂.toks, rfl, fun _ _ e => e⟩
    · intro C a v s₂ m₂ E' hC ha hv _ hN2 hx2 hk2
      obtain ⟨tv, rfl⟩ : ∃ tv, v = .int a tv := hv
      have ha2 := hfz a ha
      k_steps
      all_goals first | exact Carried.int _ _ | exact ⟨_, _, rfl, fun _ _ e => e⟩
    · intro D ys h5 tk5 F9 N9 hD hl9 hp9 hc9
      rw [filter_all] at hc9
      k_steps
      refine Stop.go ?_
      refine kso_sorted F9 N9 hl9 (IntsAre.ofCarried hc9) (by omega) ?_
      intro lz zvs sz nz h6 F10 N10 hlt hi hlen hperm hpair _
      k_steps
      refine hret _ _ _ _ (by assumption) (newsOf (by assumption) (by kst_in)) ⟨lz, zvs, sz, nz, a2, b2, ta2, tb2, n2, rfl, rfl, hi, ?_, fun z hz => hfz z (hperm.mem_iff.mp hz), hpair, ?_, hb20, hb21, Nat.ne_of_gt (hlt (src, _) (.tail _ (.head _)))⟩
      · have hne2 : fz ≠ [] := hne (by omega)
        have := List.length_pos_iff.mpr hne2
        omega
      · rw [ksum_perm hperm]; exact hks
end
section
open PySem.NumText
def bitN (b : Bool) : Nat := if b then 49 else 48
/-- a text of bits -/
def bitStr (bs : List Bool) : Str := ⟨(bs.map bitN).toArray⟩
def bitsVal (bs : List Bool) : Nat := bs.foldl (fun acc b => acc * 2 + (if b then 1 else 0)) 0

theorem bitN_cases (b : Bool) : bitN b = 48 ∨ bitN b = 49 := by cases b <;> simp [bitN]
theorem blank_bit (b : Bool) : blank (bitN b) = false := by cases b <;> decide
theorem drop_bits (bs : List Bool) : (bs.map bitN).dropWhile blank = bs.map bitN := by
  cases bs with
  | nil => rfl
  | cons b r => rw [List.map_cons, List.dropWhile_cons, blank_bit]; rfl
theorem sign_bits (bs : List Bool) : sign (bs.map bitN) = (false, bs.map bitN) := by
  cases bs with
  | nil => rfl
  | cons b r => cases b <;> rfl
theorem prefix_bits (bs : List Bool) : prefix? (bs.map bitN) = none := by
  match bs with
  | [] => rfl
  | [b] => cases b <;> rfl
  | a :: b :: r => cases a <;> cases b <;> rfl
theorem based_bits (bs : List Bool) : based 2 (bs.map bitN) = (2, false, bs.map bitN) := by
  unfold based
  rw [prefix_bits]
  rfl
theorem step_bit (ds : Array Nat) (f : Bool) (b : Bool) : step 2 (ds, f) (bitN b) = some (ds.push (if b then 1 else 0), true) := by
  cases b <;> rfl
theorem fold_bits : ∀ (bs : List Bool) (ds : Array Nat), (bs.map bitN).foldlM (step 2) (ds, true) = some (bs.foldl (fun a b => a.push (if b then 1 else 0)) ds, true)
  | [], ds => rfl
  | b :: r, ds => by
    rw [List.map_cons, List.foldlM_cons, step_bit]
    exact fold_bits r _
theorem digits_bits (bs : List Bool) (hne : bs ≠ []) : digits? 2 (bs.map bitN) = some (bs.foldl (fun a b => a.push (if b then 1 else 0)) #[]) := by
  cases bs with
  | nil => exact absurd rfl hne
  | cons b r =>
    unfold digits?
    rw [List.map_cons, List.foldlM_cons, step_bit]
    show ((r.map bitN).foldlM (step 2) _).bind _ = _
    rw [fold_bits]
    rfl
theorem val_bits : ∀ (bs : List Bool) (ds : Array Nat), (bs.foldl (fun a b => a.push (if b then 1 else 0)) ds).foldl (fun acc d => acc * 2 + d) 0 = bs.foldl (fun acc b => acc * 2 + (if b then 1 else 0)) (ds.foldl (fun acc d => acc * 2 + d) 0)
  | [], ds => rfl
  | b :: r, ds => by
    rw [List.foldl_cons, val_bits r, List.foldl_cons]
    congr 1
    rw [Array.foldl_push]
theorem read_bits (bs : List Bool) (hne : bs ≠ []) : (int_private% "readNumeral") 0 2 (bs.map bitN) = (int_private% "Numeral.value") ((bitsVal bs : Nat) : Int) := by
  refine (readNumeral_eq 0 2 _).trans ?_
  rw [drop_bits, sign_bits, based_bits]
  have e : ((bs.map bitN).reverse.dropWhile blank).reverse = bs.map bitN := by
    rw [← List.map_reverse, drop_bits, List.map_reverse, List.reverse_reverse]
  simp only [e, digits_bits bs hne]
  unfold judge
  simp only [List.contains_cons, val_bits]
  rfl

theorem typeCall_int_2 (a b : Value) : checkTypeCall "int" ⟨[a, b], []⟩ = pure () := by kernel_rfl
theorem newCall_int_2 (a b : Value) : checkBuiltinCall "int.__new__" ⟨[.type "int", a, b], []⟩ = pure () := by kernel_rfl
theorem init_args_3 (obj a b : Value) : argsOk "object.__init__" ⟨[obj, a, b], []⟩ := by
  first | exact F.args_object_init_3 obj a b | (intro _; kernel_rfl) | kernel_rfl

theorem wp_text2 {M : Model} {A : Around} {E : Value → Shared → Prop} {s : Shared} {Q : Value → Shared → Prop} {v : Value} {text : List Nat} {n : Int}
    (hs : (text.takeWhile (· != 0)).length ≤ 640) (hr : (int_private% "readNumeral") 0 2 (text.takeWhile (· != 0)) = (int_private% "Numeral.value") n)
    (ha : ((text.takeWhile (· != 0)).length == text.length) = true) (h : Q (.int n s.toks) { s with toks := s.toks + 1 }) :
    wpAny M A ((int_private% "intFromText") v text 2) Q E s := by
  obtain ⟨hp, g, d, tk, os⟩ := s
  repeat (any_goals (first
    | assumption
    | (with_reducible refine wpAny_ite_true (decide_eq_true hs) ?_)
    | (with_reducible refine wpAny_ite_true (decide_eq_true ha) ?_)
    | wp_step))
  all_goals (try rw [hr])
  all_goals (try dsimp only)
  repeat (any_goals (first
    | assumption
    | (with_reducible refine wpAny_ite_true (decide_eq_true hs) ?_)
    | (with_reducible refine wpAny_ite_true (decide_eq_true ha) ?_)
    | wp_step))

theorem take_bits (bs : List Bool) : (bs.map bitN).takeWhile (· != 0) = bs.map bitN := by
  refine takeWhile_all fun c hc => ?_
  obtain ⟨b, _, rfl⟩ := List.mem_map.mp hc
  cases b <;> rfl
theorem all_bits (bs : List Bool) : ((bitStr bs).cps.all fun x => decide (x < 128)) = true := by
  show ((bs.map bitN).toArray.all fun x => decide (x < 128)) = true
  simp only [List.all_toArray, List.all_eq_true, decide_eq_true_eq]
  intro c hc
  obtain ⟨b, _, rfl⟩ := List.mem_map.mp hc
  cases b <;> decide

structure Hid2 (p : Prop) : Prop where
  out : p
set_option maxHeartbeats 4000000 in
theorem gives_text2 {bs : List Bool} {u v : Tok} (hne : bs ≠ []) (hl : bs.length ≤ 640) : Gives (Builtin.«int.__new__» ⟨[.type "int", .str (bitStr bs) u, .int 2 v], []⟩) (.int ((bitsVal bs : Nat) : Int)) :=
  .of_wp fun M A E s Q h => by
    obtain ⟨hp, g, d, tk, os⟩ := s
    have f1 := F.conv_sub_int
    have f2 := F.madeHere_int
    have hk := Hid2.mk (And.intro (show (((bs.map bitN).takeWhile (· != 0)).length ≤ 640) by rw [take_bits, List.length_map]; exact hl) (And.intro (show (int_private% "readNumeral") 0 2 ((bs.map bitN).takeWhile (· != 0)) = (int_private% "Numeral.value") ((bitsVal bs : Nat) : Int) by rw [take_bits]; exact read_bits bs hne)
      (show (((bs.map bitN).takeWhile (· != 0)).length == (bs.map bitN).length) = true by rw [take_bits]; exact beq_self_eq_true _)))
    have ha := all_bits bs
    clear hne hl
    repeat (any_goals (first
      | assumption
      | ((with_reducible show wpAny _ _ ((int_private% "intFromText") _ _ _) _ _ _); (rw [if_pos ha]); (show wpAny _ _ ((int_private% "intFromText") _ (bs.map bitN) 2) _ _ _); refine wp_text2 hk.out.1 hk.out.2.1 hk.out.2.2 ?_)
      | wp_step))
    all_goals first | exact ⟨_, rfl, h⟩ | skip
theorem call_text2 {prog : Program} {w : World} {A : Around} {E : Value → Shared → Prop} {s : Shared} {Q : Value → Shared → Prop} {bs : List Bool} {u v : Tok} (hne : bs ≠ []) (hl : bs.length ≤ 640) (h : Q (.int ((bitsVal bs : Nat) : Int) s.toks) { s with toks := s.toks + 1 }) :
    wpAny (model prog w) A (call (.type "int") [.str (bitStr bs) u, .int 2 v]) Q E s :=
  callType_new F.called_int F.newNe_int (typeCall_int_2 _ _) (newCall_int_2 _ _) (fun obj => init_args_3 obj _ _) F.entry_int_new (gives_text2 hne hl).meets (show (Made.int _).post _ s from ⟨rfl, h⟩)
end
section
example : True := by
  w_top off
  trivial
local macro_rules | `(tactic| walk_at "binaryOp Mult str int") => `(tactic| (k_here; (refine Stop.of ?_)))
local macro_rules | `(tactic| walk_at "call type:int") => `(tactic| (k_here; (with_reducible show wpAny _ _ (call (Value.type "int") [Value.str _ _, Value.int _ _]) _ _ _); (refine Stop.of ?_)))
local macro_rules | `(tactic| walk_at "subscriptTail Name Slice str ref") => `(tactic| (k_here; (refine Stop.of ?_)))
local macro_rules | `(tactic| walk_at "call type:bytes") => `(tactic| (k_here; (refine Stop.of ?_)))
local macro_rules | `(tactic| walk_at "binaryOp Add str str") => `(tactic| (k_here; (refine Stop.of ?_)))
local macro_rules | `(tactic| walk_at "call builtin:len") => `(tactic| (k_here; (with_reducible show wpAny _ _ (call (Value.builtin "len") [Value.str _ _]) _ _ _); (refine Stop.of ?_)))

def padOf (n : Nat) : Nat := (8 - n % 8) % 8
def padded (bs : List Bool) : List Bool := bs ++ List.replicate (padOf bs.length) true
theorem pad_eq (n : Nat) : (-(n : Int)).fmod 8 = (padOf n : Int) := by
  rw [Int.fmod_eq_emod_of_nonneg _ (by decide)]
  unfold padOf
  omega
theorem bit_length (bs : List Bool) : (bitStr bs).length = bs.length := by
  show ((bs.map bitN).toArray).size = _
  simp
theorem bit_append (a b : List Bool) : bitStr a ++ bitStr b = bitStr (a ++ b) := by
  apply Str.ext'
  show (bitStr a ++ bitStr b).cps = _
  rw [Str.cps_append]
  simp [bitStr]
theorem mul_ones {n : Nat} (h : n < 8) : Txt.mul (Str.ofString "1") (n : Int) = bitStr (List.replicate n true) := by
  have all : ∀ i : Fin 8, Txt.mul (Str.ofString "1") (i.val : Int) = bitStr (List.replicate i.val true) := by decide +kernel
  exact all ⟨n, h⟩
theorem mul_ok {n : Nat} (h : n < 8) : MulOk (Str.ofString "1") (n : Int) := by
  have all : ∀ i : Fin 8, MulOk (Str.ofString "1") (i.val : Int) := by
    unfold MulOk
    decide +kernel
  exact all ⟨n, h⟩
theorem slice_bits {b : List Bool} {i j : Int} (h0 : 0 ≤ i ∧ i ≤ j) (h1 : j ≤ b.length) : Txt.slice (bitStr b) (some i) (some j) = bitStr ((b.drop i.toNat).take (j - i).toNat) := by
  refine (StrLaws.sliceText_plain (x := bitStr b) ⟨h0.1, h0.2, ?_⟩).trans ?_
  · simpa [bitStr] using h1
  · simp [bitStr, List.map_take, List.map_drop]
/-- the bits, filled up with ones, in octets -/
def octs (bs : List Bool) : List UInt8 := ((rangeInts 0 8 ((padded bs).length / 8)).map fun a => ((bitsVal (((padded bs).drop a.toNat).take 8) : Nat) : Int)).map fun n => n.toNat.toUInt8
theorem bitsVal_snoc (b : List Bool) (x : Bool) : bitsVal (b ++ [x]) = bitsVal b * 2 + (if x then 1 else 0) := by
  unfold bitsVal
  rw [List.foldl_append]; rfl
theorem bitsVal_fold : ∀ (b : List Bool) (n k : Nat), n < 2 ^ k → b.foldl (fun acc b => acc * 2 + (if b then 1 else 0)) n < 2 ^ (k + b.length)
  | [], n, k, h => h
  | x :: r, n, k, h => by
    rw [List.foldl_cons, List.length_cons, show k + (r.length + 1) = (k + 1) + r.length by omega]
    refine bitsVal_fold r _ (k + 1) ?_
    rw [Nat.pow_succ]
    cases x <;> simp <;> omega
theorem bitsVal_lt (b : List Bool) : bitsVal b < 2 ^ b.length := by
  have := bitsVal_fold b 0 0 (by decide)
  rwa [Nat.zero_add] at this
theorem oct_range {q : Nat} (h : q ≤ 13) : Builtin.Range.small 0 ((8 * q : Nat) : Int) 8 = true ∧ Builtin.Range.rangeSize 0 ((8 * q : Nat) : Int) 8 = (q : Int) := by
  have all : ∀ i : Fin 14, Builtin.Range.small 0 ((8 * i.val : Nat) : Int) 8 = true ∧ Builtin.Range.rangeSize 0 ((8 * i.val : Nat) : Int) 8 = (i.val : Int) := by decide +kernel
  exact all ⟨q, Nat.lt_succ_of_le h⟩
theorem oct_mem {q : Nat} {a : Int} (ha : a ∈ rangeInts 0 8 q) : ∃ j : Nat, j < q ∧ a = 8 * j := by
  obtain ⟨j, hj⟩ := List.getElem?_of_mem ha
  have hl := (List.getElem?_eq_some_iff.mp hj).1
  rw [rangeInts_length] at hl
  rw [rangeInts_get hl] at hj
  have := Option.some.inj hj
  exact ⟨j, hl, by omega⟩
set_option maxHeartbeats 8000000 in
theorem octets_con (w : World) (bs : List Bool) (tt : Tok) (rest : List (Addr × Obj)) (hl : bs.length ≤ 100) :
    Con w 190 [.str (bitStr bs) tt] rest 10 80
      (fun v news' => ∃ t, v = .bytes (octs bs).toArray t ∧ news' = rest) := by
  intro dp un gd cn cs_ a_ ccd cl outer A₀ base h₀ L m mg mb mean s Q E B F X N T hk hd hu hret
  refine wpAny_call ?_
  k_dflt (walk_at "enterC")
  rename_i g2 L2 _ _ _ _ _ _ _ _ _ _ _
  rename ∀ p ∈ rest, _ < _ => lt0
  have hr0 : ∀ p ∈ rest, p.1 ≠ _ + 1 := fun p hp => Nat.ne_of_lt (Nat.lt_succ_of_lt (lt0 p hp))
  k_steps
  refine Stop.go ?_
  refine SBL.len (by rw [bit_length]; omega) ?_
  rw [bit_length]
  k_steps
  refine Stop.go ?_
  rw [pad_eq]
  have hpad : padOf bs.length < 8 := by unfold padOf; omega
  refine SB.mul (mul_ok hpad) ?_
  intro t1 k1
  rw [mul_ones hpad]
  k_steps
  refine Stop.go ?_
  refine SB.add ?_ (by rw [bit_length, bit_length, List.length_replicate, sizeLine_eq]; omega)
  intro t2 k2
  rw [bit_append]
  k_steps
  refine Stop.go ?_
  rename Fr _ _ _ _ => F6
  obtain ⟨mm, emm, F7⟩ := frGen F6
  clear F6
  with_reducible apply ListComp_DCr (h₀ := g2) (L := L2) (m := mm)  (d := fun a => .int ((bitsVal ((padded bs).drop a.toNat |>.take 8) : Nat) : Int)) (pz := fun _ => true)
  case hh => with_unfolding_all rfl
  case hclos => with_unfolding_all rfl
  case hcell => decide
  case hkind => with_unfolding_all rfl
  case hnames => decide
  case hx => with_unfolding_all rfl
  case hs => intro _; with_unfolding_all rfl
  subst emm
  refine wpAny_stop ?_
  k_steps
  refine Stop.go ?_
  have hq : ∃ q : Nat, q ≤ 13 ∧ (bs ++ List.replicate (padOf bs.length) true).length = 8 * q := ⟨(bs.length + padOf bs.length) / 8, by unfold padOf; omega, by rw [List.length_append, List.length_replicate]; unfold padOf; omega⟩
  obtain ⟨q, hq1, hq2⟩ := hq
  refine SBL.len (by rw [bit_length, hq2]; omega) ?_
  rw [bit_length, hq2]
  k_steps
  refine Stop.go ?_
  rename IsRange _ _ _ _ _ _ _ _ => hrg2
  rename News _ _ _ _ => N8
  rename Fr _ _ _ _ => F8
  refine ⟨_, _, _, _, _, _, _, _, q, rfl, hrg2, (oct_range hq1).1, (oct_range hq1).2, by rw [sizeLine_eq]; omega, F8, N8, ?_, ?_, ?_⟩
  · intro C a v s₂ m₂ E' _ _ _ _ _ _
    exact wpAny_pure ⟨rfl, s₂.heap, s₂.toks, rfl, fun _ _ e => e⟩
  · intro C a v s₂ m₂ E' hC ha hv _ hN2 hx2 hk2
    obtain ⟨tv, rfl⟩ : ∃ tv, v = .int a tv := hv
    have ha2 := oct_mem ha
    obtain ⟨j, hj, rfl⟩ := ha2
    k_steps
    refine Stop.go ?_
    have hkp : KeptH fun h => ∀ b o, s₂.heap.get? b = some o → h.get? b = some o := fun h ob hP b o e => Heap.get?_push_of_some _ (hP b o e)
    refine tail_of_ItemOn (SBH.sliceItem_ss hkp (fun _ _ e => e) (fun h9 t9 k9 hP9 => ?_) (by rw [bit_length, hq2, sizeLine_eq]; omega)) (by with_unfolding_all rfl) (by intro _; with_unfolding_all rfl)
    rw [slice_bits (by omega) (by omega)]
    k_steps
    refine Stop.go ?_
    rw [show (8 * (j : Int) + 8 - 8 * (j : Int)).toNat = 8 by omega]
    refine call_text2 ?_ ?_ ⟨Carried.int _ _, h9, _, rfl, hP9⟩
    · intro he
      have := congrArg List.length he
      rw [List.length_take, List.length_drop, hq2, List.length_nil] at this
      omega
    · rw [List.length_take]; omega
  · intro D ys h5 tk5 F9 N9 hD hl9 hp9 hc9
    rw [filter_all] at hc9
    k_steps
    refine Stop.go ?_
    have hq3 : (padded bs).length / 8 = q := by
      show (bs ++ List.replicate (padOf bs.length) true).length / 8 = q
      rw [hq2]; omega
    refine bytes_K F9 N9 hl9 (CarriedAll.intsOf (f := fun a : Int => ((bitsVal (((padded bs).drop a.toNat).take 8) : Nat) : Int)) hc9) ?_ ?_ rfl ?_
    · intro n hn
      obtain ⟨a, _, rfl⟩ := List.mem_map.mp hn
      have h1 := bitsVal_lt (((padded bs).drop a.toNat).take 8)
      have h2 : 2 ^ (((padded bs).drop a.toNat).take 8).length ≤ 2 ^ 8 := Nat.pow_le_pow_right (by decide) (by rw [List.length_take]; omega)
      omega
    · have := CarriedAll.length_eq hc9
      rw [List.length_map, rangeInts_length] at this
      rw [this, sizeLine_eq]; omega
    intro h6 t6 k6 F10 N10 _
    k_steps
    refine hret _ _ _ _ (by assumption) (newsOf (by assumption) (by kst_in)) ⟨t6, ?_, rfl⟩
    rw [octs, hq3]
end
section
example : True := by
  w_top off
  trivial
theorem fmod_range (x : Int) : 0 ≤ x.fmod 2147483647 ∧ x.fmod 2147483647 < 2147483647 := by
  rw [Int.fmod_eq_emod_of_nonneg _ (by decide)]
  exact ⟨Int.emod_nonneg _ (by decide), Int.emod_lt_of_pos _ (by decide)⟩

set_option maxHeartbeats 8000000 in
theorem pool_con (w : World) (ls : Addr) (svs : List Value) (ns : List Int) (hs : IntsAre svs ns) (news : List (Addr × Obj)) (dp un : Nat) (gd : Option (List Code)) (cn : Str) (cs : Scope) (a : Addr) (ccd : Value) (cl : List (Str × Addr)) (outer : List Env) (A₀ : Around) (base h₀ : Heap) (L : Addr) (m mg mb : Str → Option Value) (mean : ExcName → Option Value) (s : Shared) (Q E : Value → Shared → Prop)
    (B : Below A₀ base outer h₀) (F : Fr h₀ L s.heap m) (X : (Mine.hd.K.heap_1 w.params).In h₀) (N : News h₀ L s.heap news) (T : Top Mine.hd.V (looseW Mine.hd.V []) mean mg mb h₀) (hk : cs.kind = .function)
    (hd : dp + 5 < recursionLimit) (hu : un + 40 < cLine) (hls : base.IsList ls svs.toArray) (hln : ns.length ≤ 63)
    (hret : ∀ l a1 b ta tb h' tk', Fr h₀ L h' m → News h₀ L h' ((l, listOf [.int a1 ta, .int b tb].toArray 0) :: news) → 0 ≤ b → b < 2147483647 → (∀ p ∈ news, @LT.lt Nat _ p.1 l) → Q (.ref l) { s with heap := h', toks := tk' }) :
    wpAny (model PySem.Challenge.rw_nt0542_01.row.prog w) (ktrTop dp un gd cn cs L a ccd cl outer) (call (.ref 168) [.ref ls]) Q E s := by
  refine wpAny_call ?_
  k_dflt cell_enter
  rename_i g2 L2 _ _ _ _ _ _ _
  k_steps
  all_goals exact hret _ _ _ _ _ _ _ (by assumption) (by assumption) (fmod_range _).1 (fmod_range _).2 (by assumption)
end
section
example : True := by
  w_top off
  trivial
local macro_rules | `(tactic| walk_at "subscriptTail Name Name ref int") => `(tactic| (k_here; (refine Stop.of ?_)))

theorem join_bits : ∀ cbs : List (List Bool), Txt.join (Str.ofString "") (cbs.map bitStr) = bitStr cbs.flatten := by
  intro cbs
  have e : Str.ofString "" = (⟨#[]⟩ : Str) := by decide
  unfold Txt.join
  rw [StrLaws.glued_eq_join, e]
  induction cbs with
  | nil => rfl
  | cons a r ih => rw [List.map_cons, join_nil_cons, ih, bit_append, List.flatten_cons]
/-- where the k-th code begins -/
def offOf (cbs : List (List Bool)) (k : Nat) : Nat := (cbs.take k).flatten.length
theorem offOf_succ {cbs : List (List Bool)} {k : Nat} (h : k < cbs.length) : offOf cbs (k + 1) = offOf cbs k + cbs[k].length := by
  unfold offOf
  rw [List.take_succ_eq_append_getElem h, List.flatten_append, List.length_append]
  simp
theorem offOf_le {cbs : List (List Bool)} (h6 : ∀ c ∈ cbs, c.length ≤ 6) : ∀ k, k ≤ cbs.length → offOf cbs k ≤ 6 * k
  | 0, _ => by simp [offOf]
  | k + 1, hk => by
    have := offOf_le h6 k (by omega)
    rw [offOf_succ (by omega)]
    have := h6 cbs[k] (List.getElem_mem _)
    omega
theorem octs_len {b : List Bool} (h : b.length ≤ 54) : (octs b).length ≤ 7 := by
  unfold octs
  rw [List.length_map, List.length_map, rangeInts_length]
  unfold padded padOf
  rw [List.length_append, List.length_replicate]
  omega
set_option maxHeartbeats 8000000 in
theorem allread_con (w : World) (x xd lr ts lk ls : Addr) (a1 : @LT.lt Nat _ xd x) (z1 z2 z3 z4 : Int) (u1 u2 u3 u4 : Tok) (tc dc : Addr) (rvs svs cvs svs2 : List Value) (rows : List (Int × Int × Int)) (ss : List Int) (nr ns nk n2 : Nat) (cbs : List (List Bool)) (rest : List (Addr × Obj))
    (hrows : RowsIn rest rvs rows) (hlen : rows.length ≤ 16) (hss : IntsAre svs ss) (hss2 : IntsAre svs2 ss) (hsl : ss.length = cbs.length) (hcv : StrsAre cvs (cbs.map bitStr)) (hc9 : cbs.length ≤ 9) (h6 : ∀ c ∈ cbs, c.length ≤ 6)
    (hread : ∀ k < cbs.length, readFrom (bitAt (octs cbs.flatten)) (8 * (octs cbs.flatten).length) rows (offOf cbs k) 0 = .sym k (offOf cbs (k + 1))) :
    Con w 204 [.ref x, .ref lk, .ref ls] ((x, instObj 115 xd) :: (xd, tabD z1 z2 z3 z4 u1 u2 u3 u4 tc ts lr dc) :: (lr, listOf rvs.toArray nr) :: (ts, ({ cls := .type "tuple", data := .seq svs.toArray ns } : Obj)) :: (lk, listOf cvs.toArray nk) :: (ls, listOf svs2.toArray n2) :: rest) 30 240
      (fun v news' => v = .bool true ∧ news' = (x, instObj 115 xd) :: (xd, tabD z1 z2 z3 z4 u1 u2 u3 u4 tc ts lr dc) :: (lr, listOf rvs.toArray nr) :: (ts, ({ cls := .type "tuple", data := .seq svs.toArray ns } : Obj)) :: (lk, listOf cvs.toArray nk) :: (ls, listOf svs2.toArray n2) :: rest) := by
  intro dp un gd cn cs_ a_ ccd cl outer A₀ base h₀ L m mg mb mean s Q E B F X N T hk hd hu hret
  refine wpAny_call ?_
  k_dflt cell_enter
  rename_i g2 L2 _ _ _ _ _ _ _
  k_steps
  refine Stop.go ?_
  have hfl : cbs.flatten.length ≤ 54 := by
    have := offOf_le h6 cbs.length (Nat.le_refl _)
    unfold offOf at this
    rw [List.take_length] at this
    omega
  refine KT.join_B (l := cbs) (g := bitStr) 6 (News.isList (by assumption) (by k_mem)) (by have := hcv.carried; rwa [List.map_map] at this) (fun a ha => by rw [bit_length]; exact h6 a ha) (by omega) (by decide) ?_
  intro tj kj
  rw [join_bits]
  k_steps
  refine Stop.go ?_
  refine' Con.use (octets_con w cbs.flatten _ _ (by omega)) ?B1 ?F1 ?X1 ?N1 ?T1 ?hk1 ?hd1 ?hu1 ?hr1
  case N1 => assumption
  case B1 => k_asm
  case F1 => k_asm
  case X1 => k_asm
  case T1 => k_asm
  case hk1 => exact rfl
  case hd1 => ktr_room
  case hu1 => ktr_units
  rintro v' news' h' tk' F' N' ⟨tb, rfl, rfl⟩
  k_steps
  refine Stop.go ?_
  rename_i rd rdx _ lt1 lt2 _ _ _ _ _ _ _ _ _ _ _ _ _ _ _ F5 N5
  obtain ⟨h1, h2, t1, t2, zk, N6⟩ : ∃ h1 h2 t1 t2 zk, News g2 L2 _ ((rd, instObj 157 rdx) :: (rdx, rdD h1 h2 t1 t2 tb (octs cbs.flatten) 0 zk) :: (x, instObj 115 xd) :: (xd, tabD z1 z2 z3 z4 u1 u2 u3 u4 tc ts lr dc) :: (lr, listOf rvs.toArray nr) :: (ts, ({ cls := .type "tuple", data := .seq svs.toArray ns } : Obj)) :: (lk, listOf cvs.toArray nk) :: (ls, listOf svs2.toArray n2) :: rest) := ⟨_, _, _, _, _, N5⟩
  clear N5
  refine For_M (by k_asm) ?_
  k_steps
  refine kun_lenL (k := (cbs.length : Int)) (News.isList (by assumption) (by k_mem)) (by have := hcv.len_eq; simp at this; simp [this]) (by omega) ?_
  k_steps
  refine Stop.go ?_
  rename IsRange _ _ _ _ _ _ _ _ => hrg
  rename News _ _ _ _ => N7
  rename Fr _ _ _ _ => F7
  obtain ⟨m1, e1, F8⟩ := frGen F7
  clear F7
  have lt3 : ∀ p ∈ rest, @LT.lt Nat _ p.1 rdx := allLt_mem lt1.2.2.2.2.2.2
  have hol : (octs cbs.flatten).length ≤ 7 := octs_len hfl
  refine pyIter_rangeM (n := cbs.length) (news := (rd, instObj 157 rdx) :: (rdx, rdD h1 h2 t1 t2 tb (octs cbs.flatten) 0 zk) :: (x, instObj 115 xd) :: (xd, tabD z1 z2 z3 z4 u1 u2 u3 u4 tc ts lr dc) :: (lr, listOf rvs.toArray nr) :: (ts, ({ cls := .type "tuple", data := .seq svs.toArray ns } : Obj)) :: (lk, listOf cvs.toArray nk) :: (ls, listOf svs2.toArray n2) :: rest) (J := fun i m nx => ∃ tu zk, Loc ["k"] m1 m [("used", .int ((offOf cbs i : Nat) : Int) tu)] ∧
     nx = (rd, instObj 157 rdx) :: (rdx, rdD h1 h2 t1 t2 tb (octs cbs.flatten) ((offOf cbs i : Nat) : Int) zk) :: (x, instObj 115 xd) :: (xd, tabD z1 z2 z3 z4 u1 u2 u3 u4 tc ts lr dc) :: (lr, listOf rvs.toArray nr) :: (ts, ({ cls := .type "tuple", data := .seq svs.toArray ns } : Obj)) :: (lk, listOf cvs.toArray nk) :: (ls, listOf svs2.toArray n2) :: rest) rfl hrg (small_one (by decide) (by decide) (by omega) (by omega)) (by rw [rangeSize_nat]; simp) F8 N7 ?hj ?turn ?done
  case hj => exact ⟨_, zk, ⟨List.forall_mem_cons.mpr ⟨by subst e1; rfl, List.forall_mem_nil _⟩, fun _ _ _ => rfl⟩, rfl⟩
  case turn =>
    rintro i t m₁ nx it io h tk hi ⟨tu, zk', hloc, rfl⟩ hit F9 N9
    have F10 := hloc.fr F9
    clear hloc F9 F8
    subst e1
    have hof := offOf_le h6 i (by omega)
    have hr := hread i hi
    k_unmd
    k_fold
    k_steps
    refine Stop.go ?_
    have k1 : @Ne Nat rd it := hit (rd, _) (.head _)
    have k2 : @Ne Nat rdx it := hit (rdx, _) (.tail _ (.head _))
    have hq1 : ∀ p ∈ (it, io) :: (lk, listOf cvs.toArray nk) :: (ls, listOf svs2.toArray n2) :: rest, p.1 ≠ rd := List.forall_mem_cons.mpr ⟨k1.symm, List.forall_mem_cons.mpr ⟨Nat.ne_of_lt (Nat.lt_trans lt1.2.2.2.2.1 lt2), List.forall_mem_cons.mpr ⟨Nat.ne_of_lt (Nat.lt_trans lt1.2.2.2.2.2.1 lt2), fun p hp => Nat.ne_of_lt (Nat.lt_trans (lt3 p hp) lt2)⟩⟩⟩
    have hq2 : ∀ p ∈ (it, io) :: (lk, listOf cvs.toArray nk) :: (ls, listOf svs2.toArray n2) :: rest, p.1 ≠ rdx := List.forall_mem_cons.mpr ⟨k2.symm, List.forall_mem_cons.mpr ⟨Nat.ne_of_lt lt1.2.2.2.2.1, List.forall_mem_cons.mpr ⟨Nat.ne_of_lt lt1.2.2.2.2.2.1, fun p hp => Nat.ne_of_lt (lt3 p hp)⟩⟩⟩
    have hq3 : ∀ i' k', readFrom (bitAt (octs cbs.flatten)) (8 * (octs cbs.flatten).length) rows (((offOf cbs i : Nat) : Int)).toNat 0 = .sym i' k' → 0 ≤ i' ∧ i' < ss.length := by
      intro i' k' h
      rw [Int.toNat_natCast, hr] at h
      injection h with h1 h2
      omega
    refine' ConE.use (read_con w x xd lr ts rd rdx a1 (by omega) (by omega) (by omega) lt2 z1 z2 z3 z4 h1 h2 u1 u2 u3 u4 t1 t2 tb zk' tc dc rvs svs rows ss nr ns (octs cbs.flatten) ((offOf cbs i : Nat) : Int) ((it, io) :: (lk, listOf cvs.toArray nk) :: (ls, listOf svs2.toArray n2) :: rest) (by omega) (by omega) (by omega) (hrows.mono fun p hp => .tail _ (.tail _ (.tail _ hp))) hlen hss hq1 hq2 hq3 (by omega)) ?B2 ?F2 ?X2 ?N2 ?T2 ?hk2 ?hd2 ?hu2 ?hr2 ?hb2
    case N2 => exact newsOf (by assumption) (by kst_in)
    case B2 => k_asm
    case F2 => k_asm
    case X2 => k_asm
    case T2 => k_asm
    case hk2 => exact rfl
    case hd2 => ktr_room
    case hu2 => ktr_units
    case hb2 =>
      rintro C e t' vs' news2 G h' tk' (⟨_, hno⟩ | ⟨_, hno⟩) hsub FG R K U
      · rw [Int.toNat_natCast, hr] at hno; cases hno
      · rw [Int.toNat_natCast, hr] at hno; cases hno
    rintro v' news' h' tk' F' N' ⟨i', k', ti, zk2, hsym, rfl, rfl⟩
    rw [Int.toNat_natCast, hr] at hsym
    injection hsym with e1 e2
    subst e2
    have e3 : i'.toNat = (0 + (i : Int)).toNat := by omega
    rw [e3]
    k_steps
    refine Stop.go ?_
    obtain ⟨t6, ht6⟩ := hss2.get (0 + (i : Int)).toNat (ss.getD (0 + (i : Int)).toNat 0) (by rw [List.getD_eq_getElem?_getD, List.getElem?_eq_getElem (by omega)]; rfl)
    refine item_ofList (News.isList (by assumption) (by k_mem)) (by omega) (by omega) ht6 ?_
    k_steps
    · rename _ ≠ _ => hx
      exact absurd rfl hx
    refine Stop.go ?_
    obtain ⟨t7, ht7⟩ := hcv.get (0 + (i : Int)).toNat (bitStr cbs[i]) (by rw [show (0 + (i : Int)).toNat = i by omega]; simp [hi])
    have e5 := offOf_succ hi
    have e6 := h6 cbs[i] (List.getElem_mem _)
    refine item_ofList (News.isList (by assumption) (by k_mem)) (by omega) (by omega) ht7 ?_
    k_steps
    refine SBL.len (by rw [bit_length]; omega) ?_
    rw [bit_length]
    k_steps
    · exfalso
      omega
    have e7 : ((offOf cbs (i + 1) : Nat) : Int) = ((offOf cbs i : Nat) : Int) + ((cbs[i].length : Nat) : Int) := by rw [e5]; exact Int.natCast_add _ _
    refine TurnM.intro ((rd, instObj 157 rdx) :: (rdx, rdD h1 h2 t1 t2 tb (octs cbs.flatten) ((offOf cbs (i + 1) : Nat) : Int) zk2) :: (x, instObj 115 xd) :: (xd, tabD z1 z2 z3 z4 u1 u2 u3 u4 tc ts lr dc) :: (lr, listOf rvs.toArray nr) :: (ts, ({ cls := .type "tuple", data := .seq svs.toArray ns } : Obj)) :: (lk, listOf cvs.toArray nk) :: (ls, listOf svs2.toArray n2) :: rest) (by assumption) (by assumption) (by simp) (by kst_in) (List.forall_mem_cons.mpr ⟨k1, List.forall_mem_cons.mpr ⟨k2, fun p hp => hit p (.tail _ (.tail _ hp))⟩⟩) ?_
    refine' Exists.intro _ (Exists.intro zk2 ⟨⟨List.forall_mem_cons.mpr ⟨?_, List.forall_mem_nil _⟩, ?_⟩, rfl⟩)
    case refine'_2 => rw [e7]; rfl
    · intro z hz hs
      simp only [List.forall_mem_cons, List.not_mem_nil, false_implies, implies_true, and_true, ne_eq] at hz
      simp only [List.contains_cons, List.contains_nil, Bool.or_false, Bool.or_eq_false_iff, beq_eq_false_iff_ne, ne_eq] at hs
      simp [kstB, hz, hs]
  case done =>
    rintro m₁ nx h tk ⟨tu, zk', hloc, rfl⟩ F9 N9
    have F10 := hloc.fr F9
    clear hloc F9 F8
    subst e1
    k_steps
    exact hret _ _ _ _ (by assumption) (newsOf (by assumption) (by kst_in)) ⟨rfl, rfl⟩
end
section
example : True := by
  w_top off
  trivial
def fsum (sz : List Int) : Int := (sz.map fun z => (2 : Int) ^ (6 - z).toNat).sum
theorem set_again {cs : List Int} (h : cs.length = 16) (a : Int) : (cs.set 5 a).set (Int.toNat 5) ((cs.set 5 a).getD (Int.toNat 5) 0 - 1) = cs.set 5 (a - 1) := by
  have e : (cs.set 5 a).getD (Int.toNat 5) 0 = a := by
    rw [List.getD_eq_getElem?_getD, show (Int.toNat 5) = 5 from rfl, List.getElem?_set_self (by omega)]; rfl
  rw [e]
  exact List.set_set ..
theorem keepY {α : Type} {p a b c d : α} {r : List α} (h : p ∈ a :: b :: c :: r) : p ∈ d :: c :: a :: b :: r := by
  simp only [List.mem_cons] at h ⊢
  grind
theorem keepX {α : Type} {p a b c : α} {r : List α} (h : p ∈ a :: b :: r) : p ∈ a :: c :: b :: r := by
  simp only [List.mem_cons] at h ⊢
  grind
open Classical in
set_option maxHeartbeats 8000000 in
theorem ends_con (w : World) (lc lz ls : Addr) (cvs zvs svs : List Value) (cs sz ss : List Int) (n1 n2 n3 : Nat) (rest : List (Addr × Obj)) (hc : IntsAre cvs cs) (hz : IntsAre zvs sz) (hs : IntsAre svs ss) (h1 : cs.length = 16) (h2 : sz.length ≤ 9) (h3 : ss.length ≤ 9) (h4 : ∀ z ∈ sz, 1 ≤ z ∧ z ≤ 6) (h5 : 0 ≤ fsum sz ∧ fsum sz < 64)
    (hA : ¬ okTable (cs.set 5 (cs.getD 5 0 + (64 - fsum sz))) (ss ++ rangeKs 300 (300 + (64 - fsum sz) - 300).toNat))
    (hB : okTable (cs.set 5 (cs.getD 5 0 + (64 - fsum sz) - 1)) (ss ++ rangeKs 300 (299 + (64 - fsum sz) - 300).toNat))
    (hC : ¬ okTable ((cs.set 14 (cs.getD 14 0 + 1)).set 15 (-1)) ss) (hDD : ¬ okTable [0, 0, 0, 0, 0, 0, 0, 0, 0, 0, 0, 0, 0, 0, 0, 257] (rangeInts 0 1 (257 - 0 : Int).toNat)) :
    ConT w 216 [.ref lc, .ref lz, .ref ls] ((lc, listOf cvs.toArray n1) :: (lz, listOf zvs.toArray n2) :: (ls, listOf svs.toArray n3) :: rest) 60 400
      (fun v news' => v = .bool true) := by
  intro dp un gd cn cs_ a_ ccd cl outer A₀ base h₀ L m mg mb mean s Q E B F X N T XB TB KD hk hd hu hret
  refine wpAny_call ?_
  k_dflt (refine' code_defT ?k1 ?k2 ?k3 ?k4 ?k5 ?kX ?kT ?kD ?kA ?kF ?kK ?k6 ?k7 ?k8 ?k9 ?kB ?_ ?c2 ?c3 ?c4 ?c5; (case kA => exact rfl); (case kF => exact rfl); (case kK => assumption); (case k1 => k_asm); (case k2 => k_asm); (case k3 => k_asm); (case k4 => k_asm); (case k5 => k_asm); (case kX => k_asm); (case kT => k_asm); (case kD => k_asm); (case k6 => k_is); (case k7 => k_is); (case k8 => ktr_room); (case k9 => exact BindsTo.of_eq rfl); (case c5 => decide); (case kB => exact locs rfl); (case c2 => exact rfl); (case c3 => exact rfl); (case c4 => exact rfl); k_whole; intro g' L' h' FG' F' N' B' X' T' D'; (try dsimp only); (try k_lift B'))
  k_steps
  refine Stop.go ?_
  rename Fr _ _ _ _ => F6
  obtain ⟨mm, emm, F7⟩ := frGen F6
  clear F6
  with_reducible apply ListComp_DCn (h₀ := g') (L := L') (m := mm) (K := .int) (d := fun z => .int (2 ^ (6 - z).toNat)) (pz := fun _ => true)
  case hh => with_unfolding_all rfl
  case hclos => with_unfolding_all rfl
  case hcell => decide
  case hkind => with_unfolding_all rfl
  case hnames => decide
  case hx => with_unfolding_all rfl
  case hs => intro _; with_unfolding_all rfl
  subst emm
  refine wpAny_stop ?_
  k_steps
  refine Stop.go ?_
  rename News _ _ _ _ => N8
  rename Fr _ _ _ _ => F8
  refine ⟨_, _, _, _, rfl, News.isList N8 (by k_mem), hz.areOf, by rw [sizeLine_eq]; omega, F8, N8, ?_, ?_, ?_⟩
  · intro C a v s₂ m₂ E' _ _ _ _ _ _
    exact wpAny_pure ⟨rfl, s₂.heap, s₂.toks, rfl, fun _ _ e => e⟩
  · intro C a v s₂ m₂ E' hC ha hv _ hN2 hx2 hk2
    obtain ⟨tv, rfl⟩ : ∃ tv, v = .int a tv := hv
    have ha2 := h4 a ha
    k_steps
    all_goals first | exact Carried.int _ _ | exact ⟨_, _, rfl, fun _ _ e => e⟩
  · intro D ys h6 tk6 F9 N9 hD hl9 hp9 hc9
    rw [filter_all] at hc9
    k_steps
    refine sumK rfl F9 N9 hl9 (CarriedAll.intsOf (f := fun z : Int => (2 : Int) ^ (6 - z).toNat) hc9) ?_
    clear hc9 hl9 hp9
    intro h7 tk7 t7 F10 N10
    change Fr _ _ _ _ at F10
    have e7 : (sz.map fun z : Int => (2 : Int) ^ (6 - z).toNat).sum = fsum sz := rfl
    rw [e7]
    k_steps
    refine Stop.go ?_
    rename_i dfl c1 _ ltA dun c2 _ ltB dtp _ ltC _ _ _ _ _ hi1 _ _ _ _ _ _ _ _ _ drg vs1 c3 _ _ hIr ltD dws ws1 _ F11 N11 hI1 ltE
    obtain ⟨fvs, N12, hfv⟩ : ∃ fvs, News g' L' _ ((dws, listOf ws1.toArray 0) :: (drg, listOf vs1.toArray c3) :: (dtp, _) :: (dun, listOf cvs.toArray c2) :: (dfl, listOf fvs.toArray c1) :: (lc, listOf cvs.toArray n1) :: (lz, listOf zvs.toArray n2) :: (ls, listOf svs.toArray n3) :: rest) ∧ IntsAre fvs (cs.set 5 (cs.getD 5 0 + (64 - fsum sz))) := ⟨_, N11, hi1⟩
    clear N11 hi1
    refine' ConT.use (refused_con w dfl dws fvs ws1 (cs.set 5 (cs.getD 5 0 + (64 - fsum sz))) (ss ++ rangeKs 300 (300 + (64 - fsum sz) - 300).toNat) c1 0 ((dun, listOf cvs.toArray c2) :: (lc, listOf cvs.toArray n1) :: (lz, listOf zvs.toArray n2) :: (ls, listOf svs.toArray n3) :: rest) hfv hI1 (by simp; omega) (by rw [List.length_append, rangeKs_length]; omega)) ?B1 ?F1 ?X1 ?N1 ?T1 ?XB1 ?TB1 ?KD1 ?hk1 ?hd1 ?hu1 ?hr1
    case N1 => exact newsOf (by assumption) (by kst_in)
    case B1 => k_asm
    case F1 => k_asm
    case X1 => k_asm
    case T1 => k_asm
    case XB1 => k_asm
    case TB1 => k_asm
    case KD1 => k_asm
    case hk1 => exact rfl
    case hd1 => ktr_room
    case hu1 => ktr_units
    rintro v' news' gA h' tk' KT1 FA NA BA XA TA DA ⟨rfl, hsub⟩
    have NB := newsOf (l' := (dfl, listOf fvs.toArray c1) :: (dun, listOf cvs.toArray c2) :: (lc, listOf cvs.toArray n1) :: (lz, listOf zvs.toArray n2) :: (ls, listOf svs.toArray n3) :: rest) NA fun p hp => hsub p (keepX hp)
    clear NA hsub
    rw [decide_eq_true hA]
    k_steps
    refine Stop.go ?_
    rename_i drg2 vs2 c5 _ _ hIr2 ltF dws2 ws2 _ F21 N21 hI2 ltG
    rename IntsAre (fvs.set _ _) _ => hi2
    rw [show ∀ a : Int, (cs.set 5 a).set (Int.toNat 5) ((cs.set 5 a).getD (Int.toNat 5) 0 - 1) = cs.set 5 (a - 1) from fun a => set_again h1 a] at hi2
    obtain ⟨fvs2, N22, hfv2⟩ : ∃ fvs2, News gA L' _ ((dws2, listOf ws2.toArray 0) :: (drg2, listOf vs2.toArray c5) :: (dfl, listOf fvs2.toArray c1) :: (dun, listOf cvs.toArray c2) :: (lc, listOf cvs.toArray n1) :: (lz, listOf zvs.toArray n2) :: (ls, listOf svs.toArray n3) :: rest) ∧ IntsAre fvs2 (cs.set 5 (cs.getD 5 0 + (64 - fsum sz) - 1)) := ⟨_, N21, hi2⟩
    clear N21 hi2
    refine' ConT.use (refused_con w dfl dws2 fvs2 ws2 (cs.set 5 (cs.getD 5 0 + (64 - fsum sz) - 1)) (ss ++ rangeKs 300 (299 + (64 - fsum sz) - 300).toNat) c1 0 ((dun, listOf cvs.toArray c2) :: (lc, listOf cvs.toArray n1) :: (lz, listOf zvs.toArray n2) :: (ls, listOf svs.toArray n3) :: rest) hfv2 hI2 (by simp; omega) (by rw [List.length_append, rangeKs_length]; omega)) ?B2 ?F2 ?X2 ?N2 ?T2 ?XB2 ?TB2 ?KD2 ?hk2 ?hd2 ?hu2 ?hr2
    case N2 => exact newsOf (by assumption) (by kst_in)
    case B2 => k_asm
    case F2 => k_asm
    case X2 => k_asm
    case T2 => k_asm
    case XB2 => k_asm
    case TB2 => k_asm
    case KD2 => k_asm
    case hk2 => exact rfl
    case hd2 => ktr_room
    case hu2 => ktr_units
    rintro v' news' gB h' tk' KT2 FB NB BB XB2 TB2 DB ⟨rfl, hsub⟩
    have NC := newsOf (l' := (dun, listOf cvs.toArray c2) :: (lc, listOf cvs.toArray n1) :: (lz, listOf zvs.toArray n2) :: (ls, listOf svs.toArray n3) :: rest) NB fun p hp => hsub p (.tail _ (.tail _ hp))
    clear NB hsub
    rw [decide_eq_false (fun h => h hB)]
    k_steps
    refine Stop.go ?_
    rename News _ _ _ _ => N31
    rename IntsAre ((cvs.set _ _).set _ _) _ => hi3
    obtain ⟨uvs, N32, huv⟩ : ∃ uvs, News gB L' _ (_ :: (dun, listOf uvs.toArray c2) :: (lc, listOf cvs.toArray n1) :: (lz, listOf zvs.toArray n2) :: (ls, listOf svs.toArray n3) :: rest) ∧ IntsAre uvs ((cs.set 14 (cs.getD 14 0 + 1)).set 15 (-1)) := ⟨_, N31, hi3⟩
    clear N31 hi3
    refine' ConT.use (refused_con w dun ls uvs svs ((cs.set 14 (cs.getD 14 0 + 1)).set 15 (-1)) ss c2 n3 ((lc, listOf cvs.toArray n1) :: (lz, listOf zvs.toArray n2) :: rest) huv hs (by simp; omega) (by omega)) ?B3 ?F3 ?X3 ?N3 ?T3 ?XB3 ?TB3 ?KD3 ?hk3 ?hd3 ?hu3 ?hr3
    case N3 => exact newsOf (by assumption) (by kst_in)
    case B3 => k_asm
    case F3 => k_asm
    case X3 => k_asm
    case T3 => k_asm
    case XB3 => k_asm
    case TB3 => k_asm
    case KD3 => k_asm
    case hk3 => exact rfl
    case hd3 => ktr_room
    case hu3 => ktr_units
    rintro v' news' gC h' tk' KT3 FC NC3 BC XC3 TC3 DC ⟨rfl, hsub⟩
    have ND := newsOf (l' := (lc, listOf cvs.toArray n1) :: (lz, listOf zvs.toArray n2) :: (ls, listOf svs.toArray n3) :: rest) NC3 fun p hp => hsub p (keepY hp)
    clear NC3 hsub
    rw [decide_eq_true hC]
    k_steps
    refine Stop.go ?_
    rename NewPlain _ _ _ _ => np
    rename CarriedAll _ _ => hcX
    rename gC.get? _ = none => hgn
    rename News _ _ _ _ => N41
    rename Fr _ _ _ _ => F41
    obtain ⟨⟨c9, hget⟩, _⟩ := np
    have N42 := News.more F41 N41 hget (fun es n q => by cases q) hgn
    clear N41
    refine' ConT.use (refused_con w _ _ [Value.int 0 tk', Value.int 0 tk', Value.int 0 tk', Value.int 0 tk', Value.int 0 tk', Value.int 0 tk', Value.int 0 tk', Value.int 0 tk', Value.int 0 tk', Value.int 0 tk', Value.int 0 tk', Value.int 0 tk', Value.int 0 tk', Value.int 0 tk', Value.int 0 tk', Value.int 257 (tk' + 1 + 1)] _ [0, 0, 0, 0, 0, 0, 0, 0, 0, 0, 0, 0, 0, 0, 0, 257] (rangeInts 0 1 (257 - 0 : Int).toNat) 0 c9 [] ?i1 (IntsAre.ofCarried hcX) (by decide) (by rw [rangeInts_length]; decide)) ?B4 ?F4 ?X4 ?N4 ?T4 ?XB4 ?TB4 ?KD4 ?hk4 ?hd4 ?hu4 ?hr4
    case N4 => exact newsOf N42 (List.forall_mem_cons.mpr ⟨.tail _ (.head _), List.forall_mem_cons.mpr ⟨.head _, List.forall_mem_nil _⟩⟩)
    case B4 => k_asm
    case F4 => k_asm
    case X4 => k_asm
    case T4 => k_asm
    case XB4 => k_asm
    case TB4 => k_asm
    case KD4 => k_asm
    case hk4 => exact rfl
    case hd4 => ktr_room
    case hu4 => ktr_units
    case i1 => exact .cons _ _ (.cons _ _ (.cons _ _ (.cons _ _ (.cons _ _ (.cons _ _ (.cons _ _ (.cons _ _ (.cons _ _ (.cons _ _ (.cons _ _ (.cons _ _ (.cons _ _ (.cons _ _ (.cons _ _ (.cons _ _ .nil)))))))))))))))
    rintro v' news' gD h' tk' KT4 FD ND BD XD4 TD4 DD4 ⟨rfl, hsub⟩
    rw [decide_eq_true hDD]
    refine ⟨gD, L', _, news', KT1.trans (KT2.trans (KT3.trans KT4)), FD, ND, fun h₀' KT FF NN BB XX TT DD => ?_⟩
    exact hret _ _ _ _ _ KT FF NN BB XX TT DD rfl
end
section
open PySem.Spec
abbrev cellO : Obj := { cls := .type "cell", data := .cell none }
abbrev dictO : Obj := { cls := .type "dict", data := .dict #[] }
section
variable {M : Model} {A : Around} {E : Value → Shared → Prop} {s : Shared}
theorem newEnv_cell {scope : Scope} {globals : Addr} {cl : List (Str × Addr)} {qual : Str} {env : Env} {x : Str} {Q : Env → Shared → Prop}
    (hcf : ∀ k, cellsFrom k scope.names cl = (x, k) :: cl) (hpc : ∀ h, pushCells h scope.names = h.push cellO)
    (hQ : Q { scope := scope, locals := s.heap.objs.size, globals := globals, cells := (x, s.heap.objs.size + 1) :: cl, qual := qual, func := none, code := env.code, frame := env.frame, builtins := env.builtins }
      { s with heap := (s.heap.push dictO).push cellO }) :
    wpAny M A (newFunctionEnv scope globals cl [] qual none .none (some env)) Q E s := by
  simp only [newFunctionEnv, Option.isSome_some, if_true]
  refine wpAny_bind (wpAny_alloc ?_)
  refine wpAny_bind (wpAny_layCells _ (fun name kind cells => by cases hkc : kind == NameKind.cell <;> simp [hkc]) _ _ _ _ ?_)
  rw [hcf, hpc]
  refine wpAny_bind ?_
  rw [List.forIn_nil]
  refine wpAny_pure (wpAny_pure ?_)
  rw [show ({ s with heap := s.heap.push { cls := .type "dict", data := .dict #[] } } : Shared).heap.objs.size = s.heap.objs.size + 1 from Heap.size_push ..]
  exact hQ
end
section
variable {prog : Program} {w : World} {A : Around} {E : Value → Shared → Prop} {s : Shared} {h₀ : Heap} {L : Addr} {m : Str → Option Value} {env : Env}
theorem nsOfDict {h : Heap} {C : Addr} (e : h.get? C = some dictO) : h.Ns C fun _ => none := by
  have z := Heap.Ns.new h (.type "dict")
  obtain ⟨o, es, ep, ho, r⟩ := z
  refine ⟨o, es, ep, ?_, r⟩
  rw [Heap.get?_push_size _ rfl] at ho
  cases ho
  exact e

theorem block_K {elt iter : Expr} {x : Str} {px : Pos} {scope : Scope} {cl : List (Str × Addr)} {pos : Pos} {s₂ : Shared} {I : Addr} {n : Nat} {P : Nat → Value → Prop} {St : Nat → Heap → Prop} {El : Nat → Value → Prop} {news : List (Addr × Obj)}
    {RR : Value → Addr → Result → Shared → Prop}
    (W : Walks prog w A I [I] [I] n P St) (hsz : n ≤ sizeLine) (hIo : ∀ i h, St i h → ∃ o, h.get? I = some o) (hSt : ∀ i h h' o, St i h → h.get? I = some o → h'.get? I = some o → St i h')
    (hcf : ∀ k, cellsFrom k scope.names cl = (x, k) :: cl) (hpc : ∀ h, pushCells h scope.names = h.push cellO) (hkind : scope.kind = .function) (hx : (relabel scope env).names.lookup x = some .cell)
    (hst : St 0 s₂.heap) (hIlt : @LT.lt Nat _ I s₂.heap.objs.size)
    (F : Fr h₀ L s₂.heap m) (N : News h₀ L s₂.heap news) (hIL : L ≠ I) (hI₀ : h₀.get? I = none) (off : ∀ p ∈ news, p.1 ≠ I)
    (R : ∀ i v oI C D ys K oK h tk (E' : Value → Shared → Prop), i < n → P i v → oK.data = .cell (some v) → Fr h₀ L h m → News h₀ L h ((K, oK) :: (I, oI) :: (C, dictO) :: (D, LCg.lst ys) :: news) →
      wpAny (model prog w) A (eval elt (compEnvC scope ((x, K) :: cl) C env)) (fun y s' => ∃ h' tk', s' = { s₂ with heap := h', toks := tk' } ∧ Fr h₀ L h' m ∧ News h₀ L h' ((K, oK) :: (I, oI) :: (C, dictO) :: (D, LCg.lst ys) :: news) ∧ El i y) E' { s₂ with heap := h, toks := tk })
    (hRR : ∀ D C h tk ys, Fr h₀ L h m → News h₀ L h ((D, LCg.lst ys) :: news) → (∀ p ∈ news, p.1 ≠ D) → h.get? C = some dictO → h₀.get? C = none → C ≠ L → C ≠ D → (∀ p ∈ news, p.1 ≠ C) → ys.length = n → (∀ j y, ys[j]? = some y → El j y) → RR (.ref D) C (.ok .next) { s₂ with heap := h, toks := tk }) :
    wpAny (model prog w) A (newList []) (fun acc s₃ => wpAny (model prog w) A (newFunctionEnv scope env.globals cl [] env.qual none .none (some env)) (fun cenv s₄ =>
      codeAny (model prog w) A (.compStart (.ListComp elt [⟨.Name x px, iter, [], 0⟩] scope pos) 0 (.ref I) acc { cenv with scope := relabel scope env }) (RR acc cenv.locals) s₄) E s₃) E s₂ := by
  refine wpAny_newObj_type (newEnv_cell hcf hpc ?_)
  dsimp only
  have e1 : (s₂.heap.push { cls := .type "list", dict := none, data := .seq ([] : List Value).toArray }).objs.size = s₂.heap.objs.size + 1 := Heap.size_push ..
  rw [e1]
  obtain ⟨D, hD⟩ : ∃ D : Nat, D = s₂.heap.objs.size := ⟨_, rfl⟩
  generalize hH : (((s₂.heap.push { cls := .type "list", dict := none, data := .seq ([] : List Value).toArray }).push dictO).push cellO) = H
  rw [← hD]
  have gD : H.get? D = some (LCg.lst []) := by rw [← hH, hD]; exact Heap.get?_push_of_some _ (Heap.get?_push_of_some _ (Heap.get?_push_size _ rfl))
  have gC : H.get? (D + 1) = some dictO := by rw [← hH, hD, ← e1]; exact Heap.get?_push_of_some _ (Heap.get?_push_size _ rfl)
  have gK : H.get? (D + 1 + 1) = some cellO := by
    rw [← hH, hD, ← e1, show (s₂.heap.push { cls := .type "list", dict := none, data := .seq ([] : List Value).toArray }).objs.size + 1 = ((s₂.heap.push { cls := .type "list", dict := none, data := .seq ([] : List Value).toArray }).push dictO).objs.size from (Heap.size_push ..).symm]
    exact Heap.get?_push_size _ rfl
  have old : ∀ b o, s₂.heap.get? b = some o → H.get? b = some o := fun b o e => by rw [← hH]; exact Heap.get?_push_of_some _ (Heap.get?_push_of_some _ (Heap.get?_push_of_some _ e))
  have fresh₀ : ∀ a : Nat, D ≤ a → h₀.get? a = none := fun a ha => by
    cases e : h₀.get? a with
    | none => rfl
    | some o' =>
      have := Heap.lt_size (F.keep a o' e)
      rw [← hD] at this
      exact absurd this (Nat.not_lt.mpr ha)
  have hLlt : @LT.lt Nat _ L D := by rw [hD]; exact F.ns.lt
  rw [← hD] at hIlt
  have hnew : ∀ p ∈ news, @LT.lt Nat _ p.1 D := fun p hp => by rw [hD]; exact Heap.lt_size (N p hp).1
  have hcells : ((x, D + 1 + 1) :: cl).lookup x = some (D + 1 + 1) := by simp [List.lookup_cons]
  have loop : codeAny (model prog w) A (.compLoop (.ListComp elt [⟨.Name x px, iter, [], 0⟩] scope pos) 0 (.ref I) (.ref D) (compEnvC scope ((x, D + 1 + 1) :: cl) (D + 1) env)) (RR (.ref D) (D + 1)) { s₂ with heap := H } := by
    refine codeAny_compLoop_tests
      (fun k s' => ∃ h' tk i ys oK, s' = { s₂ with heap := h', toks := tk } ∧ i ≤ n ∧ k = n + 1 - i ∧ ys.length = i ∧ (∀ j y, ys[j]? = some y → El j y) ∧ St i h' ∧ Fr h₀ L h' m ∧ News h₀ L h' ((D + 1 + 1, oK) :: (D + 1, dictO) :: (D, LCg.lst ys) :: news) ∧ ∃ vo, oK.data = .cell vo) ?_ (n + 1)
      ⟨H, s₂.toks, 0, [], cellO, rfl, Nat.zero_le _, rfl, rfl, fun j y h => by simp at h, W.frame _ _ _ hst fun b _ o e => old b o e, F.keeps old, ?_, none, rfl⟩
    · rintro k s' ⟨h', tk, i, ys, oK, rfl, hi, rfl, hyl, hEl, hst', F', N', vo, hvo⟩
      have zK := N' _ (.head _)
      have zC := N' _ (.tail _ (.head _))
      have zD := N' _ (.tail _ (.tail _ (.head _)))
      have zN := fun p hp => N' p (.tail _ (.tail _ (.tail _ hp)))
      have other : ∀ {h₂ : Heap}, (∀ b o, b ∉ [I] → h'.get? b = some o → h₂.get? b = some o) → Fr h₀ L h₂ m ∧ News h₀ L h₂ ((D + 1 + 1, oK) :: (D + 1, dictO) :: (D, LCg.lst ys) :: news) := fun hk₂ =>
        ⟨LCg.fr_but F' hk₂ hIL hI₀, LCg.news_but N' hk₂ fun p hp => by
          rcases List.mem_cons.mp hp with rfl | hp
          · exact Nat.ne_of_gt (Nat.lt_succ_of_lt (Nat.lt_succ_of_lt hIlt))
          · rcases List.mem_cons.mp hp with rfl | hp
            · exact Nat.ne_of_gt (Nat.lt_succ_of_lt hIlt)
            · rcases List.mem_cons.mp hp with rfl | hp
              · exact Nat.ne_of_gt hIlt
              · exact off p hp⟩
      by_cases hlt : i < n
      · refine W.item i _ _ _ hlt hst' fun v h₂ tk₂ hPv hst₂ hk₂ => ?_
        obtain ⟨F₂, N₂⟩ := other hk₂
        refine wpAny_assign_Name (wpAny_storeName_cell (v₀ := vo) (by simp [compEnvC, relabel, hkind]) hx hcells ⟨oK, (N₂ _ (.head _)).1, hvo⟩ fun h₃ hv₃ hs₃ => ?_)
        refine wpAny_tests_nil ?_
        simp only [if_true]
        obtain ⟨oK₃, hoK₃, hdK₃⟩ := hv₃
        have hst₃ : St (i + 1) h₃ := by
          obtain ⟨oI, heI⟩ := hIo _ _ hst₂
          exact hSt _ _ _ _ hst₂ heI ((hs₃.2 _ (Nat.ne_of_lt (Nat.lt_succ_of_lt (Nat.lt_succ_of_lt hIlt)))).trans heI)
        obtain ⟨oI, heI⟩ := hIo _ _ hst₃
        have hKL : D + 1 + 1 ≠ L := Nat.ne_of_gt (Nat.lt_succ_of_lt (Nat.lt_succ_of_lt hLlt))
        have F₃ : Fr h₀ L h₃ m := F₂.change hs₃ hKL (fresh₀ _ (Nat.le_succ_of_le (Nat.le_succ _)))
        have N₃ : News h₀ L h₃ ((D + 1 + 1, oK₃) :: (I, oI) :: (D + 1, dictO) :: (D, LCg.lst ys) :: news) := fun p hp => by
          rcases List.mem_cons.mp hp with rfl | hp
          · exact ⟨hoK₃, hKL, fresh₀ _ (Nat.le_succ_of_le (Nat.le_succ _))⟩
          · rcases List.mem_cons.mp hp with rfl | hp
            · exact ⟨heI, Ne.symm hIL, hI₀⟩
            · have z := N₂ p (.tail _ hp)
              refine ⟨(hs₃.2 _ ?_).trans z.1, z.2⟩
              rcases List.mem_cons.mp hp with rfl | hp
              · exact Nat.ne_of_lt (Nat.lt_succ_self _)
              · rcases List.mem_cons.mp hp with rfl | hp
                · exact Nat.ne_of_lt (Nat.lt_succ_of_lt (Nat.lt_succ_self _))
                · exact Nat.ne_of_lt (Nat.lt_succ_of_lt (Nat.lt_succ_of_lt (hnew p hp)))
        refine wpAny_mono (R i v oI _ _ ys _ oK₃ h₃ _ _ hlt hPv hdK₃ F₃ N₃) (fun y s₄ h₄ => ?_) fun _ _ e => e
        obtain ⟨h₄, tk₄, rfl, F₄, N₄, hEl₄⟩ := h₄
        have yK := N₄ _ (.head _)
        have yI := N₄ _ (.tail _ (.head _))
        have yC := N₄ _ (.tail _ (.tail _ (.head _)))
        have yD := N₄ _ (.tail _ (.tail _ (.tail _ (.head _))))
        have hst₄ : St (i + 1) h₄ := hSt _ _ _ _ hst₃ heI yI.1
        refine append_at (hsz := by show ys.toArray.size ≤ sizeLine; rw [List.size_toArray, hyl]; exact Nat.le_trans hi hsz) yD.1 fun h₅ hs₅ hD₅ => ?_
        have hDL : D ≠ L := Nat.ne_of_gt hLlt
        refine ⟨n + 1 - (i + 1), by omega, h₅, tk₄, i + 1, ys ++ [y], oK₃, rfl, hlt, rfl, by rw [List.length_append, List.length_singleton, hyl], ?_, hSt _ _ _ _ hst₄ yI.1 ((hs₅.2 _ (Nat.ne_of_lt hIlt)).trans yI.1), F₄.change hs₅ hDL (fresh₀ _ (Nat.le_refl _)), ?_, _, hdK₃⟩
        · intro j z hz
          by_cases hj : j < ys.length
          · rw [List.getElem?_append_left hj] at hz
            exact hEl j z hz
          · rw [List.getElem?_append_right (Nat.not_lt.mp hj)] at hz
            have hj2 : j - ys.length = 0 := by
              have := (List.getElem?_eq_some_iff.mp hz).1
              rw [List.length_singleton] at this
              omega
            rw [hj2] at hz
            cases hz
            rw [show j = i by omega]
            exact hEl₄
        · intro p hp
          rcases List.mem_cons.mp hp with rfl | hp
          · exact ⟨(hs₅.2 _ (Nat.ne_of_gt (Nat.lt_succ_of_lt (Nat.lt_succ_self _)))).trans yK.1, yK.2⟩
          · rcases List.mem_cons.mp hp with rfl | hp
            · exact ⟨(hs₅.2 _ (Nat.ne_of_gt (Nat.lt_succ_self _))).trans yC.1, yC.2⟩
            · rcases List.mem_cons.mp hp with rfl | hp
              · exact ⟨hD₅.trans (congrArg some (LCg.lst_snoc ys y)), yD.2⟩
              · have z := N₄ p (.tail _ (.tail _ (.tail _ (.tail _ hp))))
                exact ⟨(hs₅.2 _ (Nat.ne_of_lt (hnew p hp))).trans z.1, z.2⟩
      · obtain rfl : i = n := Nat.le_antisymm hi (Nat.not_lt.mp hlt)
        refine W.done _ _ _ hst' fun h₂ tk₂ hk₂ => ?_
        obtain ⟨F₂, N₂⟩ := other hk₂
        exact hRR D (D + 1) h₂ tk₂ ys F₂ (fun p hp => by
            rcases List.mem_cons.mp hp with rfl | hp
            · exact N₂ _ (.tail _ (.tail _ (.head _)))
            · exact N₂ p (.tail _ (.tail _ (.tail _ hp)))) (fun p hp => Nat.ne_of_lt (hnew p hp)) (N₂ _ (.tail _ (.head _))).1 (fresh₀ _ (Nat.le_succ _)) (Nat.ne_of_gt (Nat.lt_succ_of_lt hLlt)) (Nat.ne_of_gt (Nat.lt_succ_self _))
          (fun p hp => Nat.ne_of_lt (Nat.lt_succ_of_lt (hnew p hp))) hyl hEl
    · intro p hp
      rcases List.mem_cons.mp hp with rfl | hp
      · exact ⟨gK, Nat.ne_of_gt (Nat.lt_succ_of_lt (Nat.lt_succ_of_lt hLlt)), fresh₀ _ (Nat.le_succ_of_le (Nat.le_succ _))⟩
      · rcases List.mem_cons.mp hp with rfl | hp
        · exact ⟨gC, Nat.ne_of_gt (Nat.lt_succ_of_lt hLlt), fresh₀ _ (Nat.le_succ _)⟩
        · rcases List.mem_cons.mp hp with rfl | hp
          · exact ⟨gD, Nat.ne_of_gt hLlt, fresh₀ _ (Nat.le_refl _)⟩
          · exact ⟨old _ _ (N p hp).1, (N p hp).2⟩
  exact codeAny_compStart_list loop (W.self 0 _ _ _ (W.frame _ _ _ hst fun b _ o e => old b o e) loop)
end
section
open LCg
variable {prog : Program} {w : World} {A : Around} {E : Value → Shared → Prop} {s : Shared} {h₀ : Heap} {L : Addr} {m : Str → Option Value} {env : Env}
def SrcK (prog : Program) (w : World) (A : Around) (h₀ : Heap) (L : Addr) (m : Str → Option Value) (env : Env) (elt : Expr) (x y : Str) (scope : Scope) (cl : List (Str × Addr)) (Q : Flow → Shared → Prop) (El : Nat → Value → Prop) (xv : Value) (s₁ : Shared) : Prop :=
  ∃ r a b t u v n news, xv = .ref r ∧ A.handled = none ∧ Fr h₀ L s₁.heap m ∧ News h₀ L s₁.heap news ∧ IsRange s₁.heap r a b 1 t u v ∧ Builtin.Range.small a b 1 = true ∧ Builtin.Range.rangeSize a b 1 = ((n : Nat) : Int) ∧ n ≤ sizeLine ∧
    (∀ i v oI I C D ys K oK h tk (E' : Value → Shared → Prop), i < n → (∃ t, v = .int (a + (i : Int)) t) → oK.data = .cell (some v) → Fr h₀ L h m → News h₀ L h ((K, oK) :: (I, oI) :: (C, dictO) :: (D, lst ys) :: news) →
      wpAny (model prog w) A (eval elt (compEnvC scope ((x, K) :: cl) C env)) (fun y s' => ∃ h' tk', s' = { s₁ with heap := h', toks := tk' } ∧ Fr h₀ L h' m ∧ News h₀ L h' ((K, oK) :: (I, oI) :: (C, dictO) :: (D, lst ys) :: news) ∧ El i y) E' { s₁ with heap := h, toks := tk }) ∧
    (∀ D h tk ys, Fr h₀ L h (fun z => if z = y then some (.ref D) else m z) → News h₀ L h ((D, lst ys) :: news) → (∀ p ∈ news, p.1 ≠ D) → ys.length = n → (∀ j y, ys[j]? = some y → El j y) → Q .next { s₁ with heap := h, toks := tk })

theorem Assign_ListComp_K {elt iter : Expr} {x y : Str} {px py : Pos} {scope : Scope} {cl : List (Str × Addr)} {pos spos : Pos} {Q : Flow → Shared → Prop} (El : Nat → Value → Prop) (F₀ : Fr h₀ L s.heap m) (hLe : env.locals = L)
    (hsw : swapsWith (.ListComp elt [⟨.Name x px, iter, [], 0⟩] scope pos) (some (.Name y py)) spos.line env = pure true)
    (hclos : closureFor scope env = pure cl) (hcf : ∀ k, cellsFrom k scope.names cl = (x, k) :: cl) (hpc : ∀ h, pushCells h scope.names = h.push cellO) (hkind : scope.kind = .function)
    (hnames : ∀ z ∈ scope.names, z.2 = .local → scope.names.lookup z.1 = some .local) (hx : (relabel scope env).names.lookup x = some .cell)
    (hy : env.kindOf y = some .local) (hp : (env.scope.kind == .class || (env.scope.kind == .module && env.locals != env.globals)) = false)
    (h : wpAny (model prog w) A (eval iter env) (SrcK prog w A h₀ L m env elt x y scope cl Q El) E s)
    (hs : ∀ x, foldedSetIterable iter env x = pure x) :
    wpAny (model prog w) A (exec (.Assign [.Name y py] (.ListComp elt [⟨.Name x px, iter, [], 0⟩] scope pos) spos) env) Q E s := by
  subst hLe
  rw [exec_Assign_Name_used _ _ _ _ hsw]
  refine wpAny_bind (wpAny_standAt (wpAny_bind ?_))
  show wpAny _ A (do let _ ← comprehension (.ListComp elt [⟨.Name x px, iter, [], 0⟩] scope pos) scope env _ (newList []) false (eval iter env) (some (assign (.Name y py) env))) _ _ s
  refine wpAny_bind (wpAny_mono (wpAny_comprehension_free (use := some (assign (.Name y py) env)) (Q := fun _ s' => Q .next s') rfl hs hclos hkind hnames
    (wpAny_mono h (fun xv s₁ h₁ => ?_) fun _ _ e => e)) (fun _ s' hq => wpAny_pure (wpAny_pure hq)) fun _ _ e => e)
  obtain ⟨r, a, b, t, u, v, n, news, rfl, hh, F, N, hr, hsm, hn, hsz, R, fin⟩ := h₁
  refine wpAny_pyIter_range hr hsm ?_
  refine block_K (range_walks hh a n) hsz (fun i h st => ⟨_, st⟩) (fun i h h' o st e e' => by
      have st' : h.get? _ = some _ := st
      show h'.get? _ = some _
      rw [e', ← e]; exact st') hcf hpc hkind hx (by show IsRangeIter _ _ _ _ _; rw [hn]; simpa using Heap.get?_push_size _ rfl) (by show @LT.lt Nat _ s₁.heap.objs.size (s₁.heap.push _).objs.size; rw [Heap.size_push]; exact Nat.lt_succ_self _)
    (F.keeps fun _ _ e => Heap.get?_push_of_some _ e) (N.grown fun _ _ e => Heap.get?_push_of_some _ e) (Nat.ne_of_lt F.ns.lt) (next_is_new F) (fun p hp => Nat.ne_of_lt (Heap.lt_size (N p hp).1))
    (fun i v oI C D ys K oK h tk E' hi hP hK F' N' => R i v oI _ C D ys K oK h tk E' hi hP hK F' N') ?_
  intro D C h' tk ys F' N' o1 hC hC₀ hCL hCD offC hyl hEl
  show wpAny _ A (assign (.Name y py) env (.ref D)) _ _ _
  refine wpAny_assign_Name (wpAny_storeName_local hy F'.ns (fun h₂ hn₂ hs₂ => ?_) hp)
  have hL₀ : h₀.get? env.locals = none := Heap.get?_none_of_le F'.above
  have F₂ : Fr h₀ env.locals h₂ (fun z => if z = y then some (.ref D) else m z) := ⟨hn₂, fun b o e => hs₂.extBut b o (fun q => by rw [q, hL₀] at e; cases e) (F'.keep b o e), F'.above⟩
  refine ⟨_, nsOfDict (hs₂.extBut _ _ hCL hC), fun h'' hs'' => fin D h'' _ ys (F₂.change hs'' hCL hC₀) (fun p hp => ?_) o1 hyl hEl⟩
  have z : h₂.get? p.1 = some p.2 := hs₂.extBut _ _ (N' p hp).2.1 (N' p hp).1
  refine ⟨hs''.extBut _ _ ?_ z, (N' p hp).2⟩
  rcases List.mem_cons.mp hp with rfl | hp
  · exact Ne.symm hCD
  · exact offC p hp
end
end
section
structure SzOk (sz : List Int) : Prop where
  len : 1 ≤ sz.length ∧ sz.length ≤ 9
  rng : ∀ z ∈ sz, 1 ≤ z ∧ z ≤ 6
  pw : sz.Pairwise (· ≤ ·)
  ks : ksum sz < 1024
def cntAt (sz : List Int) (i : Nat) : Int := ((sz.filter fun z => decide (z = (i : Int) + 1)).length : Nat)
def cntOf (sz : List Int) : List Int := (List.range 16).map (cntAt sz)
def symOf (f : Int) (n : Nat) : List Int := (rangeInts 0 1 n).map fun k => (f + 37 * k).fmod 256
def cbOf (s : Nat) (c : Int) : List Bool := (List.range s).map fun i => decide ((c / 2 ^ (s - 1 - i)) % 2 = 1)
def cbsOf (sz : List Int) : List (List Bool) := (List.range sz.length).map fun j => cbOf (sz.getD j 0).toNat (cdAt sz j)

theorem cntAre {vs : List Value} {sz : List Int} (h1 : vs.length = 16) (h2 : ∀ (i : Nat) (y : Value), vs[i]? = some y → ∃ t, y = .int (cntAt sz i) t) : IntsAre vs (cntOf sz) := by
  have go : ∀ (l : List Value) (g : Nat → Int), (∀ (i : Nat) (y : Value), l[i]? = some y → ∃ t, y = .int (g i) t) → IntsAre l ((List.range l.length).map g) := by
    intro l
    induction l with
    | nil => intro g _; exact .nil
    | cons v l ih =>
      intro g h
      obtain ⟨t, e⟩ := h 0 v rfl
      subst e
      rw [List.length_cons, List.range_succ_eq_map, List.map_cons, List.map_map]
      exact .cons _ _ (ih (fun i => g (i + 1)) fun i y hy => h (i + 1) y hy)
  have := go vs _ h2
  rw [h1] at this
  exact this
theorem cnt_len (sz : List Int) : (cntOf sz).length = 16 := by simp [cntOf]
theorem sym_len (f : Int) (n : Nat) : (symOf f n).length = n := by simp [symOf, rangeInts_length]
theorem cbs_len (sz : List Int) : (cbsOf sz).length = sz.length := by simp [cbsOf]
/-- the weight of a size -/
def wt (z : Int) : Int := 2 ^ (16 - z).toNat
def wsum (sz : List Int) : Int := (sz.map wt).sum
theorem wt_pos (z : Int) : 0 < wt z := Int.pow_pos (by decide)
theorem sz_in {sz : List Int} (h : SzOk sz) {j : Nat} (hj : j < sz.length) : 1 ≤ sz.getD j 0 ∧ sz.getD j 0 ≤ 6 := by
  rw [List.getD_eq_getElem?_getD, List.getElem?_eq_getElem hj]
  exact h.rng _ (List.getElem_mem hj)
theorem sz_mono {sz : List Int} (h : SzOk sz) {i j : Nat} (hij : i ≤ j) (hj : j < sz.length) : sz.getD i 0 ≤ sz.getD j 0 := by
  simp only [List.getD_eq_getElem?_getD, List.getElem?_eq_getElem hj, List.getElem?_eq_getElem (Nat.lt_of_le_of_lt hij hj), Option.getD_some]
  rcases Nat.eq_or_lt_of_le hij with e | l
  · subst e; exact Int.le_refl _
  · exact List.pairwise_iff_getElem.mp h.pw i j _ hj l
theorem p_adj {sz : List Int} (h : SzOk sz) : ∀ i : Nat, i + 1 < sz.length → sz.getD i 0 ≤ sz.getD (i + 1) 0 := fun i hi => sz_mono h (Nat.le_succ i) hi
theorem wsum_take_succ {sz : List Int} {j : Nat} (hj : j < sz.length) : wsum (sz.take (j + 1)) = wsum (sz.take j) + wt (sz.getD j 0) := by
  unfold wsum
  rw [List.take_succ_eq_append_getElem hj, List.map_append, List.sum_append, List.getD_eq_getElem?_getD, List.getElem?_eq_getElem hj]
  simp
theorem wsum_take_mono {sz : List Int} {i : Nat} : ∀ d, wsum (sz.take i) ≤ wsum (sz.take (i + d))
  | 0 => Int.le_refl _
  | d + 1 => by
    have := wsum_take_mono (sz := sz) (i := i) d
    by_cases hl : i + d < sz.length
    · rw [← Nat.add_assoc, wsum_take_succ hl]
      have := wt_pos (sz.getD (i + d) 0)
      omega
    · rw [List.take_of_length_le (i := i + (d + 1)) (by omega)]
      rw [List.take_of_length_le (i := i + d) (by omega)] at this
      exact this
theorem wsum_take_le {sz : List Int} {i j : Nat} (h : i ≤ j) : wsum (sz.take i) ≤ wsum (sz.take j) := by
  obtain ⟨d, rfl⟩ := Nat.le.dest h
  exact wsum_take_mono d
theorem wsum_take_all {sz : List Int} (i : Nat) : wsum (sz.take i) ≤ wsum sz := by
  by_cases hi : i ≤ sz.length
  · have := wsum_take_le (sz := sz) hi
    rwa [List.take_length] at this
  · rw [List.take_of_length_le (by omega)]
    exact Int.le_refl _
theorem wt_split {a b : Int} (h : a ≤ b) (hb : b ≤ 16) : wt a = 2 ^ (b - a).toNat * wt b := by
  unfold wt
  rw [← Int.pow_add, show (16 - a).toNat = (b - a).toNat + (16 - b).toNat by omega]
theorem wsum_k : ∀ (sz : List Int), (∀ z ∈ sz, 1 ≤ z ∧ z ≤ 6) → wsum sz = 64 * ksum sz
  | [], _ => rfl
  | a :: r, h => by
    have ih := wsum_k r fun z hz => h z (.tail _ hz)
    have ha := h a (.head _)
    unfold wsum ksum at ih ⊢
    rw [List.map_cons, List.sum_cons, List.map_cons, List.sum_cons, ih, Int.mul_add]
    unfold wt
    rw [show (16 - a).toNat = 6 + (10 - a).toNat by omega, Int.pow_add]
    rfl
theorem wsum_f : ∀ (sz : List Int), (∀ z ∈ sz, 1 ≤ z ∧ z ≤ 6) → wsum sz = 1024 * fsum sz
  | [], _ => rfl
  | a :: r, h => by
    have ih := wsum_f r fun z hz => h z (.tail _ hz)
    have ha := h a (.head _)
    unfold wsum fsum at ih ⊢
    rw [List.map_cons, List.sum_cons, List.map_cons, List.sum_cons, ih, Int.mul_add]
    unfold wt
    rw [show (16 - a).toNat = 10 + (6 - a).toNat by omega, Int.pow_add]
    rfl
theorem wsum_lt {sz : List Int} (h : SzOk sz) : wsum sz < 65536 := by
  have := wsum_k sz h.rng
  have := h.ks
  omega
theorem wsum_nonneg : ∀ sz : List Int, 0 ≤ wsum sz
  | [] => Int.le_refl _
  | a :: r => by
    have := wsum_nonneg r
    have := wt_pos a
    unfold wsum at *
    rw [List.map_cons, List.sum_cons]
    omega
theorem cd_w {sz : List Int} (h : SzOk sz) : ∀ j < sz.length, cdAt sz j * wt (sz.getD j 0) = wsum (sz.take j)
  | 0, _ => by simp [cdAt, wsum]
  | j + 1, hj => by
    have ih := cd_w h j (by omega)
    rw [wsum_take_succ (by omega), ← ih]
    have hm := p_adj h j hj
    have hb := sz_in h hj
    rw [show cdAt sz (j + 1) = (cdAt sz j + 1) * 2 ^ (sz.getD (j + 1) 0 - sz.getD j 0).toNat from rfl]
    rw [wt_split hm (by omega), Int.mul_assoc, Int.add_mul, Int.one_mul]
theorem cd_lt {sz : List Int} (h : SzOk sz) {j : Nat} (hj : j < sz.length) : 0 ≤ cdAt sz j ∧ cdAt sz j + 1 < 2 ^ (sz.getD j 0).toNat := by
  have h1 := cd_w h j hj
  have h2 := wsum_take_all (sz := sz) (j + 1)
  rw [wsum_take_succ hj, ← h1] at h2
  have h3 := wsum_lt h
  have h4 := wsum_nonneg (sz.take j)
  have hb := sz_in h hj
  have h5 := wt_pos (sz.getD j 0)
  refine ⟨?_, ?_⟩
  · rw [← h1] at h4
    exact Int.nonneg_of_mul_nonneg_left h4 h5
  · have h6 : (cdAt sz j + 1) * wt (sz.getD j 0) < 2 ^ (sz.getD j 0).toNat * wt (sz.getD j 0) := by
      rw [show (2 : Int) ^ (sz.getD j 0).toNat * wt (sz.getD j 0) = 65536 by
        unfold wt
        rw [← Int.pow_add, show (sz.getD j 0).toNat + (16 - sz.getD j 0).toNat = 16 by omega]
        rfl, Int.add_mul, Int.one_mul]
      omega
    exact Int.lt_of_mul_lt_mul_right h6 (Int.le_of_lt h5)
theorem p_cd {sz : List Int} (h : SzOk sz) : ∀ i < sz.length, 0 ≤ cdAt sz i ∧ cdAt sz i < 64 := by
  intro i hi
  have h1 := cd_lt h hi
  have hb := sz_in h hi
  have all : ∀ i : Fin 7, (2 : Int) ^ i.val ≤ 64 := by decide +kernel
  have h2 := all ⟨(sz.getD i 0).toNat, by omega⟩
  refine ⟨h1.1, ?_⟩
  have h3 := h1.2
  exact Int.lt_of_lt_of_le (Int.lt_of_le_of_lt (Int.le_add_of_nonneg_right (by decide)) h3) h2
/-- how many sizes are at most i -/
def pl (sz : List Int) (i : Nat) : Nat := (sz.filter fun z => decide (z ≤ (i : Int))).length
theorem pl_succ (sz : List Int) (i : Nat) : ((pl sz (i + 1) : Nat) : Int) = pl sz i + cntAt sz i := by
  unfold pl cntAt
  induction sz with
  | nil => rfl
  | cons a r ih =>
    simp only [List.filter_cons]
    by_cases h1 : a ≤ (i : Int)
    · simp only [h1, show a ≤ ((i + 1 : Nat) : Int) by omega, show ¬ a = (i : Int) + 1 by omega, decide_true, decide_false, if_true, List.length_cons]
      simp only [Bool.false_eq_true, if_false]
      push_cast at ih ⊢
      omega
    · by_cases h2 : a = (i : Int) + 1
      · simp only [h2, show ((i : Int) + 1) ≤ ((i + 1 : Nat) : Int) by omega, show ¬ ((i : Int) + 1 ≤ (i : Int)) by omega, decide_true, decide_false, if_true, List.length_cons]
        simp only [Bool.false_eq_true, if_false]
        push_cast at ih ⊢
        omega
      · simp only [h1, h2, show ¬ a ≤ ((i + 1 : Nat) : Int) by omega, decide_false]
        simp only [Bool.false_eq_true, if_false]
        exact ih
theorem pl_take : ∀ (sz : List Int) (i : Nat), sz.Pairwise (· ≤ ·) → sz.filter (fun z => decide (z ≤ (i : Int))) = sz.take (pl sz i)
  | [], i, _ => by simp [pl]
  | a :: r, i, h => by
    have h2 := List.pairwise_cons.mp h
    have ih := pl_take r i h2.2
    unfold pl
    by_cases h1 : a ≤ (i : Int)
    · simp only [List.filter_cons, h1, decide_true, if_true, List.length_cons, List.take_succ_cons]
      congr 1
    · have e : r.filter (fun z => decide (z ≤ (i : Int))) = [] := List.filter_eq_nil_iff.mpr fun x hx => by
        have := h2.1 x hx
        simp; omega
      simp [h1, e]
theorem pl_le (sz : List Int) (i : Nat) : pl sz i ≤ sz.length := List.length_filter_le _ _
theorem pl_iff {sz : List Int} (h : SzOk sz) {j i : Nat} (hj : j < sz.length) : j < pl sz i ↔ sz.getD j 0 ≤ (i : Int) := by
  have ht := pl_take sz i h.pw
  have hl := pl_le sz i
  rw [List.getD_eq_getElem?_getD, List.getElem?_eq_getElem hj, Option.getD_some]
  constructor
  · intro l
    have hm : sz[j] ∈ sz.take (pl sz i) := List.mem_take_iff_getElem.mpr ⟨j, by omega, rfl⟩
    rw [← ht] at hm
    simpa using (List.mem_filter.mp hm).2
  · intro l
    apply Classical.byContradiction
    intro hn
    -- all of the first j+1 are at most i
    have hall : ∀ x ∈ sz.take (j + 1), x ≤ (i : Int) := by
      intro x hx
      obtain ⟨k, hk, e⟩ := List.mem_take_iff_getElem.mp hx
      have := sz_mono h (i := k) (j := j) (by omega) hj
      simp only [List.getD_eq_getElem?_getD, List.getElem?_eq_getElem hj, List.getElem?_eq_getElem (show k < sz.length by omega), Option.getD_some] at this
      omega
    have h3 : pl (sz.take (j + 1)) i = j + 1 := by
      unfold pl
      rw [List.filter_eq_self.mpr (fun x hx => by simpa using hall x hx), List.length_take]
      omega
    have h4 : pl (sz.take (j + 1)) i ≤ pl sz i := by
      unfold pl
      exact ((List.take_sublist _ _).filter _).length_le
    omega
theorem cnt_get (sz : List Int) {i : Nat} (hi : i < 16) : (cntOf sz).getD i 0 = cntAt sz i := by
  unfold cntOf
  rw [List.getD_eq_getElem?_getD, List.getElem?_map, List.getElem?_range hi]
  rfl
theorem pl_zero {sz : List Int} (h : SzOk sz) : pl sz 0 = 0 := by
  unfold pl
  rw [List.filter_eq_nil_iff.mpr (fun x hx => by have := h.rng x hx; simp; omega)]
  rfl
theorem place_pl {sz : List Int} (h : SzOk sz) : ∀ i ≤ 16, placeAt (cntOf sz) i = (pl sz i : Nat)
  | 0, _ => by rw [pl_zero h]; rfl
  | i + 1, hi => by
    unfold placeAt
    rw [place_pl h i (by omega), pl_succ, cnt_get sz (by omega)]
theorem wsum_run {sz : List Int} {z : Int} {p : Nat} : ∀ k : Nat, p + k ≤ sz.length → (∀ j, p ≤ j → j < p + k → sz.getD j 0 = z) → wsum (sz.take (p + k)) = wsum (sz.take p) + k * wt z
  | 0, _, _ => by simp
  | k + 1, hl, h => by
    have ih := wsum_run (sz := sz) (z := z) (p := p) k (by omega) fun j h1 h2 => h j h1 (by omega)
    rw [← Nat.add_assoc, wsum_take_succ (by omega), ih, h (p + k) (by omega) (by omega)]
    rw [Int.natCast_add, Int.add_mul, Int.add_assoc]
    simp
/-- the sizes from the place on are i + 1 -/
theorem run_eq {sz : List Int} (h : SzOk sz) {i j : Nat} (hl : pl sz i ≤ j) (hj : j < pl sz (i + 1)) : sz.getD j 0 = (i : Int) + 1 := by
  have hjl : j < sz.length := Nat.lt_of_lt_of_le hj (pl_le sz _)
  have h1 := (pl_iff h (i := i + 1) hjl).mp hj
  have h2 : ¬ sz.getD j 0 ≤ (i : Int) := fun hh => by have := (pl_iff h (i := i) hjl).mpr hh; omega
  push_cast at h1
  omega
theorem wsum_pl {sz : List Int} (h : SzOk sz) (i : Nat) : wsum (sz.take (pl sz (i + 1))) = wsum (sz.take (pl sz i)) + cntAt sz i * wt ((i : Int) + 1) := by
  have hs := pl_succ sz i
  have hc : 0 ≤ cntAt sz i := by unfold cntAt; omega
  have e : pl sz (i + 1) = pl sz i + (cntAt sz i).toNat := by omega
  have hl := pl_le sz (i + 1)
  rw [e, wsum_run (z := (i : Int) + 1) _ (by omega) (fun j h1 h2 => run_eq h h1 (by omega))]
  rw [Int.toNat_of_nonneg hc]
theorem wt_dbl {i : Nat} (hi : i + 1 < 16) : wt ((i : Int) + 1) = 2 * wt (((i + 1 : Nat) : Int) + 1) := by
  have := wt_split (a := (i : Int) + 1) (b := ((i + 1 : Nat) : Int) + 1) (by omega) (by omega)
  rw [show (((i + 1 : Nat) : Int) + 1 - ((i : Int) + 1)).toNat = 1 by omega] at this
  exact this
theorem code_w {sz : List Int} (h : SzOk sz) : ∀ i < 16, codeAt (cntOf sz) i * wt ((i : Int) + 1) = wsum (sz.take (pl sz i))
  | 0, _ => by rw [pl_zero h]; simp [codeAt, wsum]
  | i + 1, hi => by
    have ih := code_w h i (by omega)
    rw [wsum_pl h, ← ih, wt_dbl hi]
    rw [show codeAt (cntOf sz) (i + 1) = (codeAt (cntOf sz) i + (cntOf sz).getD i 0) * 2 from rfl]
    rw [cnt_get sz (by omega), Int.mul_assoc, Int.add_mul]
/-- behind the codes of one size there is room -/
theorem code_end {sz : List Int} (h : SzOk sz) {i : Nat} (hi : i < 16) : (codeAt (cntOf sz) i + (cntOf sz).getD i 0) * wt ((i : Int) + 1) = wsum (sz.take (pl sz (i + 1))) := by
  rw [wsum_pl h, cnt_get sz hi, Int.add_mul, code_w h i hi]
theorem code_room {sz : List Int} (h : SzOk sz) {i : Nat} (hi : i < 16) : codeAt (cntOf sz) i + (cntOf sz).getD i 0 < 2 ^ (i + 1) := by
  have h1 := code_end h hi
  have h2 := wsum_take_all (sz := sz) (pl sz (i + 1))
  have h3 := wsum_lt h
  have h5 := wt_pos ((i : Int) + 1)
  refine Int.lt_of_mul_lt_mul_right (a := wt ((i : Int) + 1)) ?_ (Int.le_of_lt h5)
  rw [show (2 : Int) ^ (i + 1) * wt ((i : Int) + 1) = 65536 by
    unfold wt
    rw [← Int.pow_add, show i + 1 + (16 - ((i : Int) + 1)).toNat = 16 by omega]
    rfl]
  omega
theorem p_code {sz : List Int} (h : SzOk sz) {j i : Nat} {k : Int} (hj : j < sz.length) (hi : i < 16) (h0 : 0 ≤ k) (hk : k < (cntOf sz).getD i 0) (e : (j : Int) = placeAt (cntOf sz) i + k) :
    codeAt (cntOf sz) i + k = cdAt sz j ∧ 1 + (i : Int) = sz.getD j 0 := by
  rw [place_pl h i (by omega)] at e
  rw [cnt_get sz hi] at hk
  have hs := pl_succ sz i
  have hz := run_eq h (i := i) (j := j) (by omega) (by omega)
  refine ⟨?_, by omega⟩
  have h1 := cd_w h j hj
  rw [hz] at h1
  have e2 : j = pl sz i + k.toNat := by omega
  have h2 := wsum_run (sz := sz) (z := (i : Int) + 1) (p := pl sz i) k.toNat (by omega) fun j' a b => run_eq h a (by omega)
  rw [← e2, ← h1, ← code_w h i hi, ← Int.add_mul, Int.toNat_of_nonneg h0] at h2
  exact (Int.eq_of_mul_eq_mul_right (Int.ne_of_gt (wt_pos _)) h2).symm
theorem cnt_nonneg (sz : List Int) (i : Nat) : 0 ≤ cntAt sz i := by unfold cntAt; omega
theorem cnt_mem {sz : List Int} {c : Int} (h : c ∈ cntOf sz) : ∃ i, i < 16 ∧ c = cntAt sz i := by
  obtain ⟨i, hi, rfl⟩ := List.mem_map.mp h
  exact ⟨i, List.mem_range.mp hi, rfl⟩
theorem sum_place (cs : List Int) : ∀ n, placeAt cs n = (cs.take n).sum
  | 0 => by simp [placeAt]
  | n + 1 => by
    rw [show placeAt cs (n + 1) = placeAt cs n + cs.getD n 0 from rfl, sum_place cs n, List.take_add_one, List.sum_append, List.getD_eq_getElem?_getD]
    cases cs[n]? <;> simp
theorem pl_all {sz : List Int} (h : SzOk sz) {i : Nat} (hi : 6 ≤ i) : pl sz i = sz.length := by
  unfold pl
  rw [List.filter_eq_self.mpr]
  intro a ha
  have := h.rng a ha
  simp; omega
theorem cnt_sum {sz : List Int} (h : SzOk sz) : (cntOf sz).sum = sz.length := by
  have := sum_place (cntOf sz) 16
  rw [place_pl h 16 (by omega), pl_all h (by omega), List.take_of_length_le (by rw [cnt_len]; omega)] at this
  exact this.symm
theorem sym_get {f : Int} {n i : Nat} (hi : i < n) : (symOf f n)[i]? = some ((f + 37 * i).fmod 256) := by
  unfold symOf
  rw [List.getElem?_map, rangeInts_get hi]
  simp
theorem fmod256 (x : Int) : x.fmod 256 = x % 256 := Int.fmod_eq_emod_of_nonneg x (by decide)
theorem sym_rng {f : Int} {n : Nat} {x : Int} (h : x ∈ symOf f n) : 0 ≤ x ∧ x < 256 := by
  unfold symOf at h
  obtain ⟨k, _, rfl⟩ := List.mem_map.mp h
  rw [fmod256]
  omega
theorem sym_nodup {f : Int} {n : Nat} (hn : n ≤ 9) : (symOf f n).Nodup := by
  refine List.pairwise_iff_getElem.mpr fun i j hi hj hij => ?_
  intro e
  have e2 : (symOf f n)[i]? = (symOf f n)[j]? := by rw [List.getElem?_eq_getElem hi, List.getElem?_eq_getElem hj, e]
  rw [sym_len] at hi hj
  rw [sym_get hi, sym_get hj] at e2
  have e3 := Option.some.inj e2
  rw [fmod256, fmod256] at e3
  omega
theorem ks_nodup (a : Int) (n : Nat) : (rangeKs a n).Nodup := by
  unfold rangeKs
  refine List.pairwise_iff_getElem.mpr fun i j hi hj hij => ?_
  rw [List.getElem_map, List.getElem_map, List.getElem_range, List.getElem_range]
  omega
theorem p_told {sz : List Int} (h : SzOk sz) (f : Int) : okTold (cntOf sz) (symOf f sz.length) := by
  have hl := h.len
  refine ⟨cnt_len sz, fun c hc => ?_, ?_, ?_, sym_nodup hl.2⟩
  · obtain ⟨i, _, rfl⟩ := cnt_mem hc
    exact cnt_nonneg sz i
  · rw [cnt_sum h, sym_len]
  · rw [sym_len]; omega
theorem p_ok {sz : List Int} (h : SzOk sz) (f : Int) : okTable (cntOf sz) (symOf f sz.length) := by
  refine ⟨p_told h f, fun i hi hb => ?_⟩
  have := code_room h hi
  have := hb.1
  omega
theorem p_r1 {sz : List Int} (h : SzOk sz) (f : Int) : ¬ okTable (cntOf sz) (symOf f sz.length ++ (symOf f sz.length).take 1) := by
  rintro ⟨⟨_, _, h3, _⟩, _⟩
  rw [cnt_sum h, List.length_append, List.length_take, sym_len] at h3
  have := h.len
  omega
theorem p_r2 {sz : List Int} (f : Int) : ¬ okTable ((cntOf sz).take 15) (symOf f sz.length) := by
  rintro ⟨⟨h1, _⟩, _⟩
  rw [List.length_take, cnt_len] at h1
  omega
theorem p_r3 {sz : List Int} (_ : SzOk sz) (f : Int) (h2 : 1 < sz.length) : ¬ okTable (cntOf sz) ((symOf f sz.length).take (sz.length - 1) ++ (symOf f sz.length).take 1) := by
  rintro ⟨⟨_, _, _, _, h5⟩, _⟩
  have h6 := (List.nodup_append.mp h5).2.2
  have e : (symOf f sz.length)[0]? = some (f.fmod 256) := by rw [sym_get (by omega)]; simp
  have hlen : 0 < (symOf f sz.length).length := by rw [sym_len]; omega
  have e2 : (symOf f sz.length)[0] = f.fmod 256 := by rw [List.getElem?_eq_getElem hlen] at e; exact Option.some.inj e
  exact h6 _ (List.mem_take_iff_getElem.mpr ⟨0, by rw [sym_len]; omega, e2⟩) _ (List.mem_take_iff_getElem.mpr ⟨0, by rw [sym_len]; omega, e2⟩) rfl
theorem p_r4 {sz : List Int} (f : Int) : ¬ okTable (cntOf sz ++ [0]) (symOf f sz.length) := by
  rintro ⟨⟨h1, _⟩, _⟩
  rw [List.length_append, cnt_len] at h1
  simp at h1
theorem p_r5 {sz : List Int} (h : SzOk sz) (f : Int) : ¬ okTable (cntOf sz) ((symOf f sz.length).take (sz.length - 1)) := by
  rintro ⟨⟨_, _, h3, _⟩, _⟩
  rw [cnt_sum h, List.length_take, sym_len] at h3
  have := h.len
  omega
theorem p_fs {sz : List Int} (h : SzOk sz) : 0 ≤ fsum sz ∧ fsum sz < 64 := by
  have h1 := wsum_lt h
  have h2 := wsum_nonneg sz
  rw [wsum_f sz h.rng] at h1 h2
  omega
theorem getD_set {cs : List Int} {i j : Nat} {v : Int} (hi : i < cs.length) : (cs.set i v).getD j 0 = if i = j then v else cs.getD j 0 := by
  simp only [List.getD_eq_getElem?_getD, List.getElem?_set]
  by_cases e : i = j
  · subst e; simp [hi]
  · simp [e]
theorem codeAt_set {cs : List Int} {i : Nat} {v : Int} (hi : i < cs.length) : ∀ j ≤ i, codeAt (cs.set i v) j = codeAt cs j
  | 0, _ => rfl
  | j + 1, hj => by
    rw [show codeAt (cs.set i v) (j + 1) = (codeAt (cs.set i v) j + (cs.set i v).getD j 0) * 2 from rfl, codeAt_set hi j (by omega), getD_set hi, if_neg (by omega)]
    rfl
theorem code_5 {sz : List Int} (h : SzOk sz) : codeAt (cntOf sz) 5 + (cntOf sz).getD 5 0 = fsum sz := by
  have h1 := code_end h (i := 5) (by omega)
  rw [pl_all h (by omega), List.take_length, wsum_f sz h.rng] at h1
  have e : wt (((5 : Nat) : Int) + 1) = 1024 := by decide
  rw [e] at h1
  omega
theorem p_eA {sz : List Int} (h : SzOk sz) (f : Int) : ¬ okTable ((cntOf sz).set 5 ((cntOf sz).getD 5 0 + (64 - fsum sz))) (symOf f sz.length ++ rangeKs 300 (300 + (64 - fsum sz) - 300).toNat) := by
  rintro ⟨_, hb⟩
  have hl : 5 < (cntOf sz).length := by rw [cnt_len]; omega
  have hf := p_fs h
  have h5 := code_5 h
  have hc := cnt_nonneg sz 5
  rw [← cnt_get sz (by omega)] at hc
  refine hb 5 (by omega) ⟨?_, ?_⟩
  · rw [codeAt_set hl 5 (by omega), getD_set hl, if_pos rfl]
    have : (2 : Int) ^ (5 + 1) = 64 := by decide
    omega
  · rw [getD_set hl, if_pos rfl]
    omega
theorem sum_set : ∀ {cs : List Int} {i : Nat} {v : Int}, i < cs.length → (cs.set i v).sum = cs.sum - cs.getD i 0 + v
  | a :: r, 0, v, _ => by simp; omega
  | a :: r, i + 1, v, h => by
    rw [List.set_cons_succ, List.sum_cons, sum_set (by simpa using h), List.sum_cons]
    simp only [List.getD_cons_succ]
    omega
theorem cnt_none {sz : List Int} (h : SzOk sz) {i : Nat} (hi : 6 ≤ i) : cntAt sz i = 0 := by
  unfold cntAt
  rw [List.filter_eq_nil_iff.mpr (fun x hx => by have := h.rng x hx; simp; omega)]
  rfl
theorem p_eB {sz : List Int} (h : SzOk sz) (f : Int) : okTable ((cntOf sz).set 5 ((cntOf sz).getD 5 0 + (64 - fsum sz) - 1)) (symOf f sz.length ++ rangeKs 300 (299 + (64 - fsum sz) - 300).toNat) := by
  have hl : 5 < (cntOf sz).length := by rw [cnt_len]; omega
  have hf := p_fs h
  have h5 := code_5 h
  have hn := h.len
  have hc := cnt_nonneg sz 5
  rw [← cnt_get sz (by omega)] at hc
  refine ⟨⟨by simp [cnt_len], fun c hm => ?_, ?_, ?_, ?_⟩, fun i hi hb => ?_⟩
  · rcases List.mem_or_eq_of_mem_set hm with h1 | h1
    · obtain ⟨i, _, rfl⟩ := cnt_mem h1
      exact cnt_nonneg sz i
    · omega
  · rw [sum_set hl, cnt_sum h, List.length_append, sym_len, rangeKs_length]
    omega
  · rw [List.length_append, sym_len, rangeKs_length]
    omega
  · rw [List.nodup_append]
    refine ⟨sym_nodup hn.2, ?_, ?_⟩
    · exact ks_nodup _ _
    · intro a ha b hb e
      have := sym_rng ha
      have := mem_rangeKs hb
      omega
  · have hb1 := hb.1
    have hb2 := hb.2
    rw [getD_set hl] at hb1 hb2
    by_cases e : 5 = i
    · subst e
      rw [codeAt_set hl 5 (by omega), if_pos rfl] at hb1
      have : (2 : Int) ^ (5 + 1) = 64 := by decide
      omega
    · rw [if_neg e] at hb1 hb2
      by_cases l : i < 5
      · rw [codeAt_set hl i (by omega)] at hb1
        have := code_room h hi
        omega
      · rw [cnt_get sz hi, cnt_none h (by omega)] at hb2
        omega
theorem p_eC {sz : List Int} (f : Int) : ¬ okTable (((cntOf sz).set 14 ((cntOf sz).getD 14 0 + 1)).set 15 (-1)) (symOf f sz.length) := by
  rintro ⟨⟨_, h2, _⟩, _⟩
  have := h2 (-1) (List.mem_set (by simp [cnt_len]) _)
  omega
theorem p_eD : ¬ okTable [0, 0, 0, 0, 0, 0, 0, 0, 0, 0, 0, 0, 0, 0, 0, 257] (rangeInts 0 1 (257 - 0 : Int).toNat) := by
  rintro ⟨⟨_, _, _, h4, _⟩, _⟩
  rw [rangeInts_length] at h4
  exact absurd h4 (by decide)
theorem half_pow (c : Int) (k : Nat) : c / 2 ^ (k + 1) = c / 2 ^ k / 2 := by
  rw [Int.ediv_ediv_of_nonneg (Int.le_of_lt (Int.pow_pos (by decide))), Int.pow_succ]
theorem half_pow' (c : Int) (k : Nat) : c / 2 ^ (k + 1) = c / 2 / 2 ^ k := by
  rw [Int.ediv_ediv_of_nonneg (by decide), Int.pow_succ, Int.mul_comm]
theorem cbOf_succ (s : Nat) (c : Int) : cbOf (s + 1) c = cbOf s (c / 2) ++ [decide (c % 2 = 1)] := by
  unfold cbOf
  rw [List.range_succ, List.map_append]
  congr 1
  · refine List.map_congr_left fun i hi => ?_
    have := List.mem_range.mp hi
    rw [show s + 1 - 1 - i = (s - 1 - i) + 1 by omega, half_pow']
  · simp
theorem cbOf_len (s : Nat) (c : Int) : (cbOf s c).length = s := by simp [cbOf]
theorem cbOf_val : ∀ (s : Nat) (c : Int), 0 ≤ c → c < 2 ^ s → (bitsVal (cbOf s c) : Int) = c
  | 0, c, h0, h1 => by
    have : c = 0 := by simp at h1; omega
    subst this; rfl
  | s + 1, c, h0, h1 => by
    rw [Int.pow_succ] at h1
    have ih := cbOf_val s (c / 2) (by omega) (by omega)
    rw [cbOf_succ, bitsVal_snoc]
    by_cases e : c % 2 = 1
    · simp only [e, decide_true, if_true]
      push_cast
      omega
    · simp only [e, decide_false]
      push_cast
      simp
      omega
theorem cbs_get {sz : List Int} {j : Nat} (hj : j < sz.length) : (cbsOf sz)[j]? = some (cbOf (sz.getD j 0).toNat (cdAt sz j)) := by
  unfold cbsOf
  rw [List.getElem?_map, List.getElem?_range hj]
  rfl
theorem p_val {sz : List Int} (h : SzOk sz) {j : Nat} (hj : j < sz.length) : ∃ c, (cbsOf sz)[j]? = some c ∧ (bitsVal c : Int) = cdAt sz j ∧ (c.length : Int) = sz.getD j 0 := by
  have hb := sz_in h hj
  have hc := cd_lt h hj
  exact ⟨_, cbs_get hj, cbOf_val _ _ hc.1 (by omega), by rw [cbOf_len]; omega⟩
theorem p_c6 {sz : List Int} (h : SzOk sz) : ∀ c ∈ cbsOf sz, c.length ≤ 6 := by
  intro c hc
  obtain ⟨j, hj, rfl⟩ := List.mem_map.mp hc
  have := sz_in h (List.mem_range.mp hj)
  rw [cbOf_len]
  omega
theorem bits_fold : ∀ (b : List Bool) (n : Nat), b.foldl (fun acc b => acc * 2 + (if b then 1 else 0)) n = n * 2 ^ b.length + bitsVal b
  | [], n => by simp [bitsVal]
  | x :: r, n => by
    rw [List.foldl_cons, bits_fold r, List.length_cons, show bitsVal (x :: r) = r.foldl (fun acc b => acc * 2 + (if b then 1 else 0)) (0 * 2 + (if x then 1 else 0)) from rfl, bits_fold r, Nat.pow_succ]
    rw [Nat.add_mul, Nat.zero_mul, Nat.zero_add, Nat.mul_assoc, Nat.mul_comm 2, Nat.add_assoc]
theorem bits_append (a b : List Bool) : bitsVal (a ++ b) = bitsVal a * 2 ^ b.length + bitsVal b := by
  rw [show bitsVal (a ++ b) = (a ++ b).foldl (fun acc b => acc * 2 + (if b then 1 else 0)) 0 from rfl, List.foldl_append, bits_fold b]
  rfl
theorem bit_of (l : List Bool) (t : Nat) (ht : t < l.length) : bitsVal l / 2 ^ (l.length - 1 - t) % 2 = if l[t] then 1 else 0 := by
  have e : l = (l.take t ++ [l[t]]) ++ l.drop (t + 1) := by
    rw [List.append_assoc, List.singleton_append, ← List.drop_eq_getElem_cons ht, List.take_append_drop]
  have hl : (l.drop (t + 1)).length = l.length - 1 - t := by rw [List.length_drop]; omega
  have hv : bitsVal l = (bitsVal (l.take t) * 2 + (if l[t] then 1 else 0)) * 2 ^ (l.length - 1 - t) + bitsVal (l.drop (t + 1)) := by
    rw [← hl, ← bitsVal_snoc, ← bits_append, ← e]
  have hlt := bitsVal_lt (l.drop (t + 1))
  rw [hl] at hlt
  rw [hv, Nat.mul_comm, Nat.mul_add_div (Nat.pow_pos (by decide)), Nat.div_eq_of_lt hlt, Nat.add_zero]
  split <;> omega
theorem padded_len (b : List Bool) : (padded b).length = 8 * ((padded b).length / 8) := by
  unfold padded padOf
  rw [List.length_append, List.length_replicate]
  omega
theorem octs_length (b : List Bool) : (octs b).length = (padded b).length / 8 := by simp [octs, rangeInts_length]
theorem octs_bit (b : List Bool) {q : Nat} (hq : q < (padded b).length) : bitAt (octs b) q = if (padded b)[q] then 1 else 0 := by
  have hm := padded_len b
  have hd : q / 8 < (padded b).length / 8 := by omega
  have hg : (octs b).getD (q / 8) 0 = (bitsVal (((padded b).drop (8 * (q / 8))).take 8)).toUInt8 := by
    unfold octs
    rw [List.getD_eq_getElem?_getD, List.getElem?_map, List.getElem?_map, rangeInts_get hd]
    simp only [Option.map_some, Option.getD_some, Int.toNat_natCast]
    rw [show ((0 : Int) + ((q / 8 : Nat) : Int) * 8).toNat = 8 * (q / 8) by omega]
  have hl : (((padded b).drop (8 * (q / 8))).take 8).length = 8 := by
    rw [List.length_take, List.length_drop]; omega
  have hlt := bitsVal_lt (((padded b).drop (8 * (q / 8))).take 8)
  rw [hl] at hlt
  have hbit := bit_of (((padded b).drop (8 * (q / 8))).take 8) (q % 8) (by omega)
  rw [show (((padded b).drop (8 * (q / 8))).take 8).length - 1 - q % 8 = 7 - q % 8 by omega] at hbit
  unfold bitAt
  rw [hg]
  rw [show ((bitsVal (((padded b).drop (8 * (q / 8))).take 8)).toUInt8).toNat = bitsVal (((padded b).drop (8 * (q / 8))).take 8) from Nat.mod_eq_of_lt hlt]
  rw [hbit]
  have he : (((padded b).drop (8 * (q / 8))).take 8)[q % 8] = (padded b)[q] := by
    rw [List.getElem_take, List.getElem_drop]
    congr 1
    omega
  rw [he]
  split <;> rfl
theorem flat_get : ∀ (cbs : List (List Bool)) (k t : Nat) (hk : k < cbs.length), t < cbs[k].length → cbs.flatten[offOf cbs k + t]? = cbs[k][t]?
  | a :: r, 0, t, _, ht => by
    simp only [List.getElem_cons_zero] at ht
    simp only [List.flatten_cons, List.getElem_cons_zero]
    rw [show offOf (a :: r) 0 + t = t by simp [offOf], List.getElem?_append_left ht]
  | a :: r, k + 1, t, hk, ht => by
    simp only [List.getElem_cons_succ] at ht
    have ih := flat_get r k t (by simpa using hk) ht
    simp only [List.flatten_cons, List.getElem_cons_succ]
    rw [show offOf (a :: r) (k + 1) + t = a.length + (offOf r k + t) by simp [offOf]; omega, List.getElem?_append_right (by omega), Nat.add_sub_cancel_left]
    exact ih
theorem off_bit {cbs : List (List Bool)} {k t : Nat} (hk : k < cbs.length) (ht : t < cbs[k].length) : bitAt (octs cbs.flatten) (offOf cbs k + t) = (if cbs[k][t] then 1 else 0) ∧ offOf cbs k + t < 8 * (octs cbs.flatten).length := by
  have h1 := flat_get cbs k t hk ht
  rw [List.getElem?_eq_getElem ht] at h1
  obtain ⟨hl, h2⟩ := List.getElem?_eq_some_iff.mp h1
  have hl2 : offOf cbs k + t < (padded cbs.flatten).length := by
    unfold padded
    rw [List.length_append]
    omega
  refine ⟨?_, ?_⟩
  · rw [octs_bit _ hl2]
    have : (padded cbs.flatten)[offOf cbs k + t] = cbs.flatten[offOf cbs k + t] := List.getElem_append_left hl
    rw [this, h2]
  · rw [octs_length, ← padded_len]
    exact hl2
theorem rows_get (cs : List Int) {i : Nat} (hi : i < (rowsTo cs 16).length) : (rowsTo cs 16)[i] = (codeAt cs i, cs.getD i 0, placeAt cs i) := by
  have h2 : i < 16 := by simpa [rowsTo] using hi
  have e : (rowsTo cs 16)[i]? = some (rowAt cs i) := by
    unfold rowsTo
    rw [List.getElem?_map, List.getElem?_range h2]
    rfl
  rw [List.getElem?_eq_getElem hi] at e
  exact Option.some.inj e
theorem rows_len (cs : List Int) : (rowsTo cs 16).length = 16 := by simp [rowsTo]
theorem cb_bit {s : Nat} {c : Int} {t : Nat} (ht : t < (cbOf s c).length) : (if (cbOf s c)[t] then 1 else 0 : Int) = c / 2 ^ (s - 1 - t) % 2 := by
  have h2 : t < s := by rwa [cbOf_len] at ht
  have e0 : (cbOf s c)[t]? = some (decide ((c / 2 ^ (s - 1 - t)) % 2 = 1)) := by
    unfold cbOf
    rw [List.getElem?_map, List.getElem?_range h2]
    rfl
  rw [List.getElem?_eq_getElem ht] at e0
  rw [Option.some.inj e0]
  have := Int.emod_two_eq (c / 2 ^ (s - 1 - t))
  rcases this with e | e <;> rw [e] <;> simp
theorem read_go {sz : List Int} (h : SzOk sz) {k : Nat} (hk : k < sz.length) (b : Nat → Int) (lim off : Nat) (hb : ∀ t < (sz.getD k 0).toNat, b (off + t) = cdAt sz k / 2 ^ ((sz.getD k 0).toNat - 1 - t) % 2 ∧ off + t < lim) :
    ∀ d i : Nat, i + d + 1 = (sz.getD k 0).toNat → readFrom b lim ((rowsTo (cntOf sz) 16).drop i) (off + i) (cdAt sz k / 2 ^ ((sz.getD k 0).toNat - i)) = .sym k (off + (sz.getD k 0).toNat) := by
  have hs := sz_in h hk
  intro d
  induction d with
  | zero =>
    intro i hi
    have hi16 : i < 16 := by omega
    have hbi := hb i (by omega)
    rw [readFrom_drop (by rw [rows_len]; exact hi16), rows_get, if_neg (by omega), hbi.1]
    rw [show (sz.getD k 0).toNat - i = 1 by omega, show (sz.getD k 0).toNat - 1 - i = 0 by omega]
    have e : cdAt sz k / 2 ^ 1 * 2 + cdAt sz k / 2 ^ 0 % 2 = cdAt sz k := by
      simp only [Int.pow_zero, Int.ediv_one]
      rw [show (2 : Int) ^ 1 = 2 from rfl]
      omega
    rw [e]
    have h1 : ¬ k < pl sz i := fun hh => by have := (pl_iff h hk).mp hh; omega
    have h2 : k < pl sz (i + 1) := (pl_iff h hk).mpr (by omega)
    have hsu := pl_succ sz i
    have hp := place_pl h i (by omega)
    have hc := cnt_get sz hi16
    have hpc := p_code h (j := k) (i := i) (k := (k : Int) - pl sz i) hk hi16 (by omega) (by omega) (by omega)
    rw [if_pos (by show cdAt sz k - codeAt (cntOf sz) i < (cntOf sz).getD i 0; omega)]
    have e2 : placeAt (cntOf sz) i + cdAt sz k - codeAt (cntOf sz) i = k := by omega
    have e3 : off + i + 1 = off + (sz.getD k 0).toNat := by omega
    show RR.sym (placeAt (cntOf sz) i + cdAt sz k - codeAt (cntOf sz) i) (off + i + 1) = _
    rw [e2, e3]
  | succ d ih =>
    intro i hi
    have hi16 : i < 16 := by omega
    have hbi := hb i (by omega)
    rw [readFrom_drop (by rw [rows_len]; exact hi16), rows_get, if_neg (by omega), hbi.1]
    have e : cdAt sz k / 2 ^ ((sz.getD k 0).toNat - i) * 2 + cdAt sz k / 2 ^ ((sz.getD k 0).toNat - 1 - i) % 2 = cdAt sz k / 2 ^ ((sz.getD k 0).toNat - (i + 1)) := by
      rw [show (sz.getD k 0).toNat - i = (sz.getD k 0).toNat - (i + 1) + 1 by omega, half_pow, show (sz.getD k 0).toNat - 1 - i = (sz.getD k 0).toNat - (i + 1) by omega]
      omega
    rw [e]
    have h1 : ¬ k < pl sz (i + 1) := fun hh => by have := (pl_iff h hk).mp hh; omega
    have h2 := wsum_take_le (sz := sz) (i := pl sz (i + 1)) (j := k) (by omega)
    rw [← code_end h hi16, ← cd_w h k hk, wt_split (a := (i : Int) + 1) (b := sz.getD k 0) (by omega) (by omega), ← Int.mul_assoc] at h2
    have h3 := Int.le_of_mul_le_mul_right h2 (wt_pos _)
    rw [show (sz.getD k 0 - ((i : Int) + 1)).toNat = (sz.getD k 0).toNat - (i + 1) by omega] at h3
    have h4 := (Int.le_ediv_iff_mul_le (Int.pow_pos (by decide))).mpr h3
    rw [if_neg (by show ¬ (cdAt sz k / 2 ^ ((sz.getD k 0).toNat - (i + 1)) - codeAt (cntOf sz) i < (cntOf sz).getD i 0); omega)]
    exact ih (i + 1) (by omega)
theorem p_read {sz : List Int} (h : SzOk sz) : ∀ k < (cbsOf sz).length, readFrom (bitAt (octs (cbsOf sz).flatten)) (8 * (octs (cbsOf sz).flatten).length) (rowsTo (cntOf sz) 16) (offOf (cbsOf sz) k) 0 = .sym k (offOf (cbsOf sz) (k + 1)) := by
  intro k hk
  have hk2 : k < sz.length := by rwa [cbs_len] at hk
  have hs := sz_in h hk2
  have he : (cbsOf sz)[k] = cbOf (sz.getD k 0).toNat (cdAt sz k) := by
    have := cbs_get hk2
    rw [List.getElem?_eq_getElem hk] at this
    exact Option.some.inj this
  have hcd := cd_lt h hk2
  have hgo := read_go h hk2 (bitAt (octs (cbsOf sz).flatten)) (8 * (octs (cbsOf sz).flatten).length) (offOf (cbsOf sz) k) (fun t ht => by
    have ht2 : t < ((cbsOf sz)[k]).length := by rw [he, cbOf_len]; exact ht
    have := off_bit hk ht2
    refine ⟨?_, this.2⟩
    rw [this.1, ← cb_bit (s := (sz.getD k 0).toNat) (c := cdAt sz k) (t := t) (by rw [cbOf_len]; exact ht)]
    simp only [he]) ((sz.getD k 0).toNat - 1) 0 (by omega)
  rw [offOf_succ hk, he, cbOf_len]
  rw [show cdAt sz k / 2 ^ ((sz.getD k 0).toNat - 0) = 0 from Int.ediv_eq_zero_of_lt hcd.1 (by simp only [Nat.sub_zero]; omega)] at hgo
  exact hgo
theorem ones_bit : ∀ q < 24, bitAt [255, 255, 255] q = 1 := by decide
theorem p_nocode {sz : List Int} (h : SzOk sz) : readFrom (bitAt [255, 255, 255]) (8 * [255, 255, 255].length) (rowsTo (cntOf sz) 16) 0 0 = .noCode := by
  have go : ∀ d i : Nat, i + d = 16 → readFrom (bitAt [255, 255, 255]) 24 ((rowsTo (cntOf sz) 16).drop i) i (2 ^ i - 1) = .noCode := by
    intro d
    induction d with
    | zero =>
      intro i hi
      rw [List.drop_of_length_le (by rw [rows_len]; omega)]
      rfl
    | succ d ih =>
      intro i hi
      have hi16 : i < 16 := by omega
      have hr := code_room h hi16
      have := ih (i + 1) (by omega)
      rw [readFrom_drop (by rw [rows_len]; exact hi16), rows_get, if_neg (by omega), ones_bit i (by omega)]
      have e : ((2 : Int) ^ i - 1) * 2 + 1 = 2 ^ (i + 1) - 1 := by rw [Int.pow_succ]; omega
      rw [e, if_neg (by show ¬ ((2 : Int) ^ (i + 1) - 1 - codeAt (cntOf sz) i < (cntOf sz).getD i 0); omega)]
      exact this
  exact go 16 0 rfl
theorem p_cut (cs : List Int) : readFrom (bitAt ([] : List UInt8)) (8 * ([] : List UInt8).length) (rowsTo cs 16) 0 0 = .cut := by
  rw [show rowsTo cs 16 = (rowsTo cs 16).drop 0 from rfl, readFrom_drop (by rw [rows_len]; omega), if_pos (by simp)]
theorem bit_chr (x : Int) : Str.ofString (toString (x.fmod 2)) = bitStr [decide (x % 2 = 1)] := by
  rw [Int.fmod_eq_emod_of_nonneg x (by decide)]
  rcases Int.emod_two_eq x with e | e <;> rw [e] <;> decide
theorem flat_single {α β : Type} (f : α → β) : ∀ l : List α, (l.map fun x => [f x]).flatten = l.map f
  | [] => rfl
  | a :: r => by rw [List.map_cons, List.flatten_cons, flat_single f r]; rfl
theorem bitTxt_eq {s c : Int} (h0 : 1 ≤ s) : bitTxt s c = bitStr (cbOf s.toNat c) := by
  have e : ((rangeInts (s - 1) (-1) s.toNat).map fun at_ => Str.ofString (toString ((Int.fdiv c (2 ^ at_.toNat)).fmod 2))) = (((List.range s.toNat).map fun i => [decide (c / 2 ^ (s.toNat - 1 - i) % 2 = 1)]).map bitStr) := by
    unfold rangeInts
    rw [List.map_map, List.map_map]
    refine List.map_congr_left fun i hi => ?_
    have hi2 := List.mem_range.mp hi
    simp only [Function.comp]
    rw [bit_chr, show (s - 1 + (i : Int) * -1).toNat = s.toNat - 1 - i by omega, Int.fdiv_eq_ediv_of_nonneg c (Int.le_of_lt (Int.pow_pos (by decide)))]
  unfold bitTxt
  rw [e, join_bits, flat_single]
  rfl
theorem p_codes {sz : List Int} (h : SzOk sz) : codeTxts sz sz.length = (cbsOf sz).map bitStr := by
  unfold codeTxts cbsOf
  rw [List.map_map]
  refine List.map_congr_left fun j hj => ?_
  exact bitTxt_eq (sz_in h (List.mem_range.mp hj)).1
end
section
example : True := by
  w_top off
  trivial
set_option Elab.async false


local macro_rules | `(tactic| walk_at "call builtin:len") => `(tactic| (k_here; (with_reducible show wpAny _ _ (call (Value.builtin "len") [Value.ref _]) _ _ _); (refine Stop.of ?_)))
local macro_rules | `(tactic| walk_at "subscriptTail Name Name ref int") => `(tactic| (k_here; (refine Stop.of ?_)))
local macro_rules | `(tactic| walk_at "call type:int") => `(tactic| (k_here; (with_reducible show wpAny _ _ (call (Value.type "int") [Value.str _ _, Value.int _ _]) _ _ _); (refine Stop.of ?_)))
local macro_rules | `(tactic| walk_at "compareOp NotEq ref ref") => `(tactic| (k_here; (refine Stop.of ?_)))
local macro_rules | `(tactic| walk_at "unpackItems ref") => `(tactic| (k_here; (refine Stop.of ?_)))
local macro_rules | `(tactic| walk_at "subscriptTail Name Slice ref ref") => `(tactic| (k_here; (refine Stop.of ?_)))
local macro_rules | `(tactic| walk_at "binaryOp Add ref ref") => `(tactic| (k_here; (refine Stop.of ?_)))
theorem cutP {P Q : Prop} (main : P → Q) (prove : P) : Q := main prove
theorem cons_sub {α : Type} {a : α} {l l' : List α} (h : a ∈ l') (h2 : ∀ p ∈ l, p ∈ l') : ∀ p ∈ a :: l, p ∈ l' := List.forall_mem_cons.mpr ⟨h, h2⟩
theorem nil_sub {α : Type} {l' : List α} : ∀ p ∈ ([] : List α), p ∈ l' := fun _ h => absurd h List.not_mem_nil
local macro_rules | `(tactic| walk_at "lmem") => `(tactic| first | (with_reducible exact List.mem_cons_self) | (refine List.mem_cons_of_mem _ ?_; walk_at "lmem"))
local macro_rules | `(tactic| walk_at "lin") => `(tactic| ((repeat ((with_reducible refine cons_sub ?_ ?_); walk_at "lmem")); (intro p hp; first | (with_reducible exact absurd hp List.not_mem_nil) | (repeat (first | (with_reducible exact hp) | (refine List.mem_cons_of_mem _ ?_))))))
theorem frBack {h₀ h₁ h : Heap} {L : Addr} {m : Str → Option Value} (K : KtsTurn ([] : List Addr) h₀ h₁) (F : Fr h₁ L h m) : Fr h₀ L h m :=
  ⟨F.ns, fun b o e => F.keep b o (K.other b o e (List.not_mem_nil)), by rw [← K.size]; exact F.above⟩
theorem newsPlain {h₀ h : Heap} {L D : Addr} {m : Str → Option Value} {news : List (Addr × Obj)} {items : Array Value} (F : Fr h₀ L h m) (N : News h₀ L h news) (np : NewPlain h news D items) (hg : h₀.get? D = none) : ∃ n, News h₀ L h ((D, listOf items n) :: news) ∧ ∀ p ∈ news, p.1 ≠ D := by
  obtain ⟨⟨n, e⟩, hne⟩ := np
  exact ⟨n, News.more F N e (fun es n q => by cases q) hg, hne⟩
theorem up_mem {n : Nat} {a : Int} (ha : a ∈ rangeInts 0 1 n) : 0 ≤ a ∧ a < n := by
  obtain ⟨j, hj⟩ := List.getElem?_of_mem ha
  have hl := (List.getElem?_eq_some_iff.mp hj).1
  rw [rangeInts_length] at hl
  rw [rangeInts_get hl] at hj
  have := Option.some.inj hj
  omega
theorem newsBack {h₀ h₁ h : Heap} {L : Addr} {news : List (Addr × Obj)} (K : KtsTurn ([] : List Addr) h₀ h₁) (N : News h₁ L h news) : News h₀ L h news := fun p hp => by
  refine ⟨(N p hp).1, (N p hp).2.1, ?_⟩
  cases e : h₀.get? p.1 with
  | none => rfl
  | some o =>
    have e2 := (N p hp).2.2
    rw [K.other _ _ e (List.not_mem_nil)] at e2
    cases e2

set_option Elab.async true
theorem law_holds.tw10007947361888340627 : True := trivial
theorem law_holds.tw10024239376800412576 : True := trivial
theorem law_holds.tw10028117763298573888 : True := trivial
theorem law_holds.tw10368410895845634921 : True := trivial
theorem law_holds.tw10371022188087798493 : True := trivial
theorem law_holds.tw10486713781251687710 : True := trivial
theorem law_holds.tw10566571302883470556 : True := trivial
theorem law_holds.tw10666784280354678857 : True := trivial
theorem law_holds.tw10829313771624777081 : True := trivial
theorem law_holds.tw10841264019214440115 : True := trivial
theorem law_holds.tw11097350217990362986 : True := trivial
theorem law_holds.tw11098625913536864229 : True := trivial
theorem law_holds.tw11100686419730198450 : True := trivial
theorem law_holds.tw11182679623053108816 : True := trivial
theorem law_holds.tw11347954631545130290 : True := trivial
theorem law_holds.tw11404014056486942332 : True := trivial
theorem law_holds.tw11484002064277903863 : True := trivial
theorem law_holds.tw11625900857008200698 : True := trivial
theorem law_holds.tw11633083819707477107 : True := trivial
theorem law_holds.tw11764581739189218997 : True := trivial
theorem law_holds.tw11781800970755023335 : True := trivial
theorem law_holds.tw11966672015165255308 : True := trivial
theorem law_holds.tw12115171985352901274 : True := trivial
theorem law_holds.tw12223724995276690173 : True := trivial
theorem law_holds.tw12303009252429188658 : True := trivial
theorem law_holds.tw123295346585929383 : True := trivial
theorem law_holds.tw12342728606916771844 : True := trivial
theorem law_holds.tw12459966957829302596 : True := trivial
theorem law_holds.tw12476058986133298565 : True := trivial
theorem law_holds.tw12626328134170644701 : True := trivial
theorem law_holds.tw12732824653754844360 : True := trivial
theorem law_holds.tw12780804625047726367 : True := trivial
theorem law_holds.tw12831907817818079685 : True := trivial
theorem law_holds.tw1285599515219305098 : True := trivial
theorem law_holds.tw12889056044993165476 : True := trivial
theorem law_holds.tw13028658284911697911 : True := trivial
theorem law_holds.tw13154458805202713791 : True := trivial
theorem law_holds.tw13182730311906835528 : True := trivial
theorem law_holds.tw13220211186989608806 : True := trivial
theorem law_holds.tw13280740594461564331 : True := trivial
theorem law_holds.tw13392613628428298086 : True := trivial
theorem law_holds.tw13397297893571687751 : True := trivial
theorem law_holds.tw13402424001964919149 : True := trivial
theorem law_holds.tw13709617746848070560 : True := trivial
theorem law_holds.tw13766487248619392586 : True := trivial
theorem law_holds.tw1377309892636839040 : True := trivial
theorem law_holds.tw13780023080261437657 : True := trivial
theorem law_holds.tw13800757232730249582 : True := trivial
theorem law_holds.tw1385162719727133579 : True := trivial
theorem law_holds.tw1414043511812021011 : True := trivial
theorem law_holds.tw14160533322030094474 : True := trivial
theorem law_holds.tw14289194402921355359 : True := trivial
theorem law_holds.tw14326059299131336239 : True := trivial
theorem law_holds.tw14335913921861858828 : True := trivial
theorem law_holds.tw14385925486924208373 : True := trivial
theorem law_holds.tw14390095281932903014 : True := trivial
theorem law_holds.tw14391260490067600928 : True := trivial
theorem law_holds.tw14497384708736915567 : True := trivial
theorem law_holds.tw14545874151571354728 : True := trivial
theorem law_holds.tw14571795756577361901 : True := trivial
theorem law_holds.tw14774650325386425613 : True := trivial
theorem law_holds.tw14883556706271630602 : True := trivial
theorem law_holds.tw14925382992726071281 : True := trivial
theorem law_holds.tw14983226153234331074 : True := trivial
theorem law_holds.tw14988988175077273356 : True := trivial
theorem law_holds.tw14997073306097389879 : True := trivial
theorem law_holds.tw15006436103509636135 : True := trivial
theorem law_holds.tw15191720212996534143 : True := trivial
theorem law_holds.tw15274831704391544125 : True := trivial
theorem law_holds.tw15279311563190048238 : True := trivial
theorem law_holds.tw15334298953996031811 : True := trivial
theorem law_holds.tw15352839923633478061 : True := trivial
theorem law_holds.tw15376217460642340759 : True := trivial
theorem law_holds.tw15448297888555860652 : True := trivial
theorem law_holds.tw15464309659722311383 : True := trivial
theorem law_holds.tw15512400803093757105 : True := trivial
theorem law_holds.tw15607887362523206001 : True := trivial
theorem law_holds.tw15648444511202971954 : True := trivial
theorem law_holds.tw15661869461025623997 : True := trivial
theorem law_holds.tw15759456685926392790 : True := trivial
theorem law_holds.tw15802469936163623734 : True := trivial
theorem law_holds.tw15806970514647361693 : True := trivial
theorem law_holds.tw16098122237329998606 : True := trivial
theorem law_holds.tw16099233806120587224 : True := trivial
theorem law_holds.tw16194741210049916205 : True := trivial
theorem law_holds.tw1622690429015379626 : True := trivial
theorem law_holds.tw16273140198857503625 : True := trivial
theorem law_holds.tw16406091861079842607 : True := trivial
theorem law_holds.tw16461882675039125421 : True := trivial
theorem law_holds.tw16470317323979864763 : True := trivial
theorem law_holds.tw16614716721108272449 : True := trivial
theorem law_holds.tw1670043908289496885 : True := trivial
theorem law_holds.tw16700892368766657466 : True := trivial
theorem law_holds.tw16805829885119392726 : True := trivial
theorem law_holds.tw16883458599210261866 : True := trivial
theorem law_holds.tw16893121556090616931 : True := trivial
theorem law_holds.tw1689763614830377041 : True := trivial
theorem law_holds.tw17180001009569633970 : True := trivial
theorem law_holds.tw17253903310271361901 : True := trivial
theorem law_holds.tw17255088995462705879 : True := trivial
theorem law_holds.tw17499823404086765753 : True := trivial
theorem law_holds.tw17713402740875732926 : True := trivial
theorem law_holds.tw17911580528928914924 : True := trivial
theorem law_holds.tw17942709131360195518 : True := trivial
theorem law_holds.tw18090433342136740992 : True := trivial
theorem law_holds.tw18203989763732354715 : True := trivial
theorem law_holds.tw18234560199702728603 : True := trivial
theorem law_holds.tw18269650602155537469 : True := trivial
theorem law_holds.tw18326849912455186884 : True := trivial
theorem law_holds.tw1832781179975386347 : True := trivial
theorem law_holds.tw18340598423539479173 : True := trivial
theorem law_holds.tw1905533677188600702 : True := trivial
theorem law_holds.tw2043166853727251185 : True := trivial
theorem law_holds.tw2075624079617657780 : True := trivial
theorem law_holds.tw2102315897755806987 : True := trivial
theorem law_holds.tw2136269947727277649 : True := trivial
theorem law_holds.tw2143268655074302082 : True := trivial
theorem law_holds.tw2269544990204364226 : True := trivial
theorem law_holds.tw2295933128562542503 : True := trivial
theorem law_holds.tw2387193687640843687 : True := trivial
theorem law_holds.tw2503670479209048990 : True := trivial
theorem law_holds.tw2578278018795888234 : True := trivial
theorem law_holds.tw2618386414584295968 : True := trivial
theorem law_holds.tw2643271747718453845 : True := trivial
theorem law_holds.tw2856731137302751260 : True := trivial
theorem law_holds.tw2907507879108658156 : True := trivial
theorem law_holds.tw302768837105346163 : True := trivial
theorem law_holds.tw3186734533307500241 : True := trivial
theorem law_holds.tw3253568177066640346 : True := trivial
theorem law_holds.tw3366817510852727610 : True := trivial
theorem law_holds.tw3426384778480675251 : True := trivial
theorem law_holds.tw3438298445031660282 : True := trivial
theorem law_holds.tw3756308257209627903 : True := trivial
theorem law_holds.tw3776956092104397036 : True := trivial
theorem law_holds.tw3850334171643177529 : True := trivial
theorem law_holds.tw3850375180904979519 : True := trivial
theorem law_holds.tw3850404396616230974 : True := trivial
theorem law_holds.tw3882201998751590657 : True := trivial
theorem law_holds.tw3910120701321347557 : True := trivial
theorem law_holds.tw3912811242725288453 : True := trivial
theorem law_holds.tw3943428198234077543 : True := trivial
theorem law_holds.tw4037582482628031876 : True := trivial
theorem law_holds.tw4273555757443719353 : True := trivial
theorem law_holds.tw4439653461905209652 : True := trivial
theorem law_holds.tw4441770287765753910 : True := trivial
theorem law_holds.tw4515466672771955728 : True := trivial
theorem law_holds.tw4581845663705801772 : True := trivial
theorem law_holds.tw4593294709026258786 : True := trivial
theorem law_holds.tw4781243967656130014 : True := trivial
theorem law_holds.tw4818577856007422655 : True := trivial
theorem law_holds.tw4833173496992025938 : True := trivial
theorem law_holds.tw4889031023730116350 : True := trivial
theorem law_holds.tw4916342969005030805 : True := trivial
theorem law_holds.tw498061464947678834 : True := trivial
theorem law_holds.tw4992725456586698614 : True := trivial
theorem law_holds.tw5062152199769849712 : True := trivial
theorem law_holds.tw519298541982818421 : True := trivial
theorem law_holds.tw5212653520564569363 : True := trivial
theorem law_holds.tw5389484754426515990 : True := trivial
theorem law_holds.tw545109181885906688 : True := trivial
theorem law_holds.tw5640673133297012132 : True := trivial
theorem law_holds.tw575232530192455986 : True := trivial
theorem law_holds.tw576407869801174206 : True := trivial
theorem law_holds.tw602461330855297101 : True := trivial
theorem law_holds.tw6159533029260741167 : True := trivial
theorem law_holds.tw6317479115527610633 : True := trivial
theorem law_holds.tw6507877686720480950 : True := trivial
theorem law_holds.tw653560878884961445 : True := trivial
theorem law_holds.tw6564709946809587534 : True := trivial
theorem law_holds.tw6629495429873386292 : True := trivial
theorem law_holds.tw6860709855171689206 : True := trivial
theorem law_holds.tw6869992995446874880 : True := trivial
theorem law_holds.tw6896717019858035522 : True := trivial
theorem law_holds.tw6934448944433832347 : True := trivial
theorem law_holds.tw7019463264422422977 : True := trivial
theorem law_holds.tw7120836010843673076 : True := trivial
theorem law_holds.tw7185456241796803578 : True := trivial
theorem law_holds.tw7221428835167493151 : True := trivial
theorem law_holds.tw724200737284857819 : True := trivial
theorem law_holds.tw7304591109411159013 : True := trivial
theorem law_holds.tw7407239408455114201 : True := trivial
theorem law_holds.tw7416729418936117867 : True := trivial
theorem law_holds.tw7636989558263936852 : True := trivial
theorem law_holds.tw7820799176418779761 : True := trivial
theorem law_holds.tw784011647948385275 : True := trivial
theorem law_holds.tw7910590604623066228 : True := trivial
theorem law_holds.tw8176227357466254829 : True := trivial
theorem law_holds.tw8191475993861738794 : True := trivial
theorem law_holds.tw8330938851228082562 : True := trivial
theorem law_holds.tw8441880690091102137 : True := trivial
theorem law_holds.tw8553002610548859549 : True := trivial
theorem law_holds.tw8634839017697508684 : True := trivial
theorem law_holds.tw8652346329174877282 : True := trivial
theorem law_holds.tw8666519363043736892 : True := trivial
theorem law_holds.tw8785698371604719795 : True := trivial
theorem law_holds.tw8786122383778125906 : True := trivial
theorem law_holds.tw8835965917227929528 : True := trivial
theorem law_holds.tw8857742495270377987 : True := trivial
theorem law_holds.tw8919507781340925814 : True := trivial
theorem law_holds.tw8957123355933967898 : True := trivial
theorem law_holds.tw8970147916757833333 : True := trivial
theorem law_holds.tw8984712037535005518 : True := trivial
theorem law_holds.tw9069877914133315304 : True := trivial
theorem law_holds.tw907578622648922086 : True := trivial
theorem law_holds.tw9168033884955339765 : True := trivial
theorem law_holds.tw9184033795430018204 : True := trivial
theorem law_holds.tw9207643191828677137 : True := trivial
theorem law_holds.tw9255152265573255198 : True := trivial
theorem law_holds.tw9288214680346807717 : True := trivial
theorem law_holds.tw9358999989411107707 : True := trivial
theorem law_holds.tw9423440377400516374 : True := trivial
theorem law_holds.tw9529696498207198238 : True := trivial
theorem law_holds.tw9552830710289189752 : True := trivial
theorem law_holds.tw9606376775287448836 : True := trivial
theorem law_holds.tw9779807473162285230 : True := trivial
theorem law_holds.tw9849722394096787677 : True := trivial
theorem law_holds.tw9992725586745946429 : True := trivial
open Classical in
set_option maxHeartbeats 20000000 in
theorem law_holds : PySem.Challenge.rw_nt0542_01.Holds := by
  w_on
  o_law
  k_head
  case hw => w_witness2
  refine (?_ : WalkO hd.V _ (XL hd.V _) (kHook hd.K.heap_1 _ (fun _ => by kernel_rfl)).says _ _ _ _)
  w_top off
  k_go0
  (all_goals try k_fold)
  k_steps
  rename_i h1 tk1 F0 oA oB hoA hoB N0 X0
  rename Shared => s1
  refine Stop.go ?_
  refine' pool_con _ _ _ _ ?zhs _ _ _ _ _ _ _ _ _ _ _ _ _ _ _ _ _ _ _ _ _ ?zB ?zF ?zX ?zN ?zT ?zhk ?zhd ?zhu ?zhls ?zhln ?zhr
  case zhs => assumption
  case zN => assumption
  case zB => k_asm
  case zF => k_asm
  case zX => k_asm
  case zT => k_asm
  case zhk => exact rfl
  case zhd => ktr_room
  case zhu => ktr_units
  case zhls => assumption
  case zhln =>
    rename ¬ ((63 : Nat) : Int) < _ => hq
    omega
  intro src a1 b ta tb h' tk' F' N' hb0 hb1 hlt
  have lt1 := allLt_of hlt
  simp only [AllLt, and_true] at lt1
  k_steps
  refine Stop.go ?_
  refine' Con.use (sizes_con _ src a1 b ta tb 0 [(s1.heap.objs.size + 1 + 1, oA), (s1.heap.objs.size + 1, oB)] (List.forall_mem_cons.mpr ⟨Nat.ne_of_lt lt1.1, List.forall_mem_cons.mpr ⟨Nat.ne_of_lt lt1.2, List.forall_mem_nil _⟩⟩) hb0 hb1) ?B1 ?F1 ?X1 ?N1 ?T1 ?hk1 ?hd1 ?hu1 ?hr1
  case N1 => assumption
  case B1 => k_asm
  case F1 => k_asm
  case X1 => k_asm
  case T1 => k_asm
  case hk1 => exact rfl
  case hd1 => ktr_room
  case hu1 => ktr_units
  rintro v' news' h' tk' F' N' ⟨lz, zvs, sz, nz, a2, b2, ta2, tb2, n2, rfl, rfl, hz, hzl, hz6, hzp, hzk, hb20, hb21, hlzs⟩
  k_steps
  refine Stop.go ?_
  rename _ = Data.cell (some (Value.ref lz)) => hsc
  rename Obj => oS
  rename News _ _ _ _ => N1
  have lt2 : @LT.lt Nat _ (s1.heap.objs.size + 1) src := lt1.2
  refine' Con.use (take_con _ src a2 b2 200 ta2 tb2 _ n2 [(lz, listOf zvs.toArray nz), (s1.heap.objs.size + 1 + 1, oA), (s1.heap.objs.size + 1, oS)] (List.forall_mem_cons.mpr ⟨hlzs, List.forall_mem_cons.mpr ⟨Nat.ne_of_lt lt1.1, List.forall_mem_cons.mpr ⟨Nat.ne_of_lt lt1.2, List.forall_mem_nil _⟩⟩⟩) (by decide) (by decide) hb20 hb21) ?B2 ?F2 ?X2 ?N2 ?T2 ?hk2 ?hd2 ?hu2 ?hr2
  case N2 => exact newsOf N1 (by simp)
  case B2 => k_asm
  case F2 => k_asm
  case X2 => k_asm
  case T2 => k_asm
  case hk2 => exact rfl
  case hd2 => ktr_room
  case hu2 => ktr_units
  rintro v' news' h' tk' F' N' ⟨fst, tf, a3, b3, ta3, tb3, n3, rfl, hf0, hf1, rfl, _, _⟩
  k_steps
  refine Stop.go ?_
  rename _ = Data.cell (some (Value.int fst tf)) => hfc
  rename Obj => oF
  rename News _ _ _ _ => N2
  have N3 := newsOf (l' := [(lz, listOf zvs.toArray nz), (s1.heap.objs.size + 1 + 1, oF), (s1.heap.objs.size + 1, oS)]) N2 (by simp)
  clear N2
  rename Fr _ _ _ _ => F6
  obtain ⟨mm, emm, F7⟩ := frGen F6
  clear F6
  with_reducible apply Assign_ListComp_DCr (h₀ := s1.heap) (L := s1.heap.objs.size) (m := mm)  (d := fun k => .int ((fst + 37 * k).fmod 256)) (pz := fun _ => true)
  case hh => with_unfolding_all rfl
  case hclos => with_unfolding_all rfl
  case hcell => decide
  case hkind => with_unfolding_all rfl
  case hnames => decide
  case hx => with_unfolding_all rfl
  case hs => intro _; with_unfolding_all rfl
  case hsw => with_unfolding_all rfl
  case hL => with_unfolding_all rfl
  case hy => with_unfolding_all rfl
  case hp => with_unfolding_all rfl
  subst emm
  refine wpAny_stop ?_
  k_steps
  refine Stop.go ?_
  refine kun_lenL (k := (sz.length : Int)) (News.isList (by assumption) (by k_mem)) (by rw [List.size_toArray, IntsAre.length hz]) (by omega) ?_
  k_steps
  refine Stop.go ?_
  rename IsRange _ _ _ _ _ _ _ _ => hrg2
  rename News _ _ _ _ => N8
  rename Fr _ _ _ _ => F8
  refine ⟨_, _, _, _, _, _, _, _, sz.length, rfl, hrg2, small_one (by decide) (by decide) (by omega) (by omega), by rw [rangeSize_nat]; simp, by rw [sizeLine_eq]; omega, F8, N8, ?_, ?_, ?_⟩
  · intro C a v s₂ m₂ E' _ _ _ _ _ _
    exact wpAny_pure ⟨rfl, s₂.heap, s₂.toks, rfl, fun _ _ e => e⟩
  · intro C a v s₂ m₂ E' hC ha hv _ hN2 hx2 hk2
    obtain ⟨tv, rfl⟩ : ∃ tv, v = .int a tv := hv
    have ha2 := up_mem ha
    k_steps
    all_goals first | exact Carried.int _ _ | exact ⟨_, _, rfl, fun _ _ e => e⟩
  intro ly ys h9 tk9 F9 N9 hg9 hl9 hp9 hc9
  rw [filter_all] at hc9
  have hy := CarriedAll.intsOf (f := fun k : Int => (fst + 37 * k).fmod 256) hc9
  obtain ⟨ny, N10, hney⟩ := newsPlain F9 N9 hp9 hg9
  clear hc9 hl9 hp9 hg9
  k_steps
  refine Stop.go ?_
  clear N9
  rename News _ _ _ _ => N11
  rename Fr _ _ _ _ => F11
  obtain ⟨mm, emm, F12⟩ := frGen F11
  clear F11
  with_reducible apply Assign_ListComp_K (h₀ := s1.heap) (L := s1.heap.objs.size) (m := mm) (fun i y => ∃ t, y = Value.int (cntAt sz i) t)
  case F₀ => exact F12
  case hLe => with_unfolding_all rfl
  case hsw => with_unfolding_all rfl
  case hclos => with_unfolding_all rfl
  case hcf => intro _; rfl
  case hpc => intro _; rfl
  case hkind => with_unfolding_all rfl
  case hnames => decide
  case hx => with_unfolding_all rfl
  case hy => with_unfolding_all rfl
  case hp => with_unfolding_all rfl
  case hs => intro _; with_unfolding_all rfl
  subst emm
  refine wpAny_stop ?_
  k_steps
  refine Stop.go ?_
  rename IsRange _ _ _ _ _ _ _ _ => hrg3
  rename News _ _ _ _ => N13
  rename Fr _ _ _ _ => F13
  refine ⟨_, _, _, _, _, _, 16, _, rfl, rfl, F13, N13, hrg3, by decide, by decide, by decide, ?_, ?_⟩
  · intro i v oI I C D zs K oK h tk E' hi ⟨tv, hv⟩ hoK F14 N14
    subst hv
    clear F13 N13
    k_steps
    refine Stop.go ?_
    rename News _ _ _ _ => N15
    rename Fr _ _ _ _ => F6
    obtain ⟨mm, emm, F7⟩ := frGen F6
    clear F6
    with_reducible apply ListComp_DCn (h₀ := s1.heap) (L := s1.heap.objs.size) (m := mm) (K := .int) (d := fun k => .int k) (pz := fun z => decide (z = (i : Int) + 1))
    case hh => with_unfolding_all rfl
    case hclos => with_unfolding_all rfl
    case hcell => decide
    case hkind => with_unfolding_all rfl
    case hnames => decide
    case hx => with_unfolding_all rfl
    case hs => intro _; with_unfolding_all rfl
    subst emm
    refine wpAny_stop ?_
    k_steps
    refine Stop.go ?_
    rename News _ _ _ _ => N16
    rename Fr _ _ _ _ => F16
    refine ⟨_, _, _, _, rfl, News.isList N16 (by k_mem), hz.areOf, by rw [sizeLine_eq]; omega, F16, N16, ?_, ?_, ?_⟩
    · intro C2 a v s₂ m₂ E' hC ha hv hN2 hx2 hk2
      obtain ⟨tv2, rfl⟩ : ∃ tv, v = .int a tv := hv
      have ha2 := hz6 a ha
      refine wpAny_tests_one ?_
      k_steps
      all_goals first | exact ⟨_, _, rfl, fun _ _ e => e⟩ | skip
      show (a == 1 + (i : Int)) = decide (a = (i : Int) + 1)
      rw [Int.add_comm]
      rfl
    · intro C2 a v s₂ m₂ E' hC ha hv _ hN2 hx2 hk2
      obtain ⟨tv, rfl⟩ : ∃ tv, v = .int a tv := hv
      have ha2 := hz6 a ha
      k_steps
      all_goals first | exact Carried.int _ _ | exact ⟨_, _, rfl, fun _ _ e => e⟩
    intro D2 ys2 h6 tk6 F17 N17 hD17 hl17 hp17 hc17
    k_steps
    refine Stop.go ?_
    have hc18 := CarriedAll.intsOf (f := fun k : Int => k) hc17
    refine kun_lenL (k := ((sz.filter fun z => decide (z = (i : Int) + 1)).length : Int)) hl17 (by have := IntsAre.length hc18; rw [List.length_map] at this; rw [List.size_toArray, this]) (by have := List.length_filter_le (fun z : Int => decide (z = (i : Int) + 1)) sz; omega) ?_
    exact ⟨_, _, rfl, by assumption, N17, _, rfl⟩
  intro lc h8 tk8 cvs F18 N18 hlc hcl hcv
  have hcs := cntAre hcl hcv
  have szk : SzOk sz := ⟨hzl, hz6, hzp, hzk⟩
  clear N1 hcv
  have hy : IntsAre ys (symOf fst sz.length) := hy
  have N19 : News s1.heap s1.heap.objs.size h8 ((lc, listOf cvs.toArray cvs.length) :: (ly, listOf ys.toArray ny) :: (lz, listOf zvs.toArray nz) :: (s1.heap.objs.size + 1 + 1, oF) :: [(s1.heap.objs.size + 1, oS)]) := N18
  clear N18
  k_steps
  refine Stop.go ?_
  refine' ConE.use (make_con _ lc ly cvs ys (cntOf sz) (symOf fst sz.length) cvs.length ny [(lz, listOf zvs.toArray nz), (s1.heap.objs.size + 1 + 1, oF), (s1.heap.objs.size + 1, oS)] hcs hy (by rw [cnt_len]; decide) (by rw [sym_len]; omega)) ?B3 ?F3 ?X3 ?N3 ?T3 ?hk3 ?hd3 ?hu3 ?hr3 ?hb3
  case N3 => exact newsOf (by assumption) (by simp)
  case B3 => k_asm
  case F3 => k_asm
  case X3 => k_asm
  case T3 => k_asm
  case hk3 => exact rfl
  case hd3 => ktr_room
  case hu3 => ktr_units
  case hb3 =>
    rintro C e t' vs' news2 G h' tk' ⟨_, hno⟩
    exact absurd (p_ok szk fst) hno
  rintro v' news' h' tk' F' N' ⟨_, _, x, xd, dc, od, kvs, lr, rvs, nr, ts, tc, z1, z2, z3, z4, u1, u2, u3, u4, tl, rfl, hxd, rfl, hod, hdc, hcod, hrw, htl1, htl2, htl3⟩
  rename News _ _ _ _ => N20
  have N21 := newsOf (l' := (x, instObj 115 xd) :: (xd, tabD z1 z2 z3 z4 u1 u2 u3 u4 tc ts lr dc) :: (lr, listOf rvs.toArray nr) :: (ts, ({ cls := .type "tuple", data := .seq ys.toArray } : Obj)) :: (dc, od) :: (lc, listOf cvs.toArray cvs.length) :: (ly, listOf ys.toArray ny) :: (lz, listOf zvs.toArray nz) :: (s1.heap.objs.size + 1 + 1, oF) :: (s1.heap.objs.size + 1, oS) :: tl) N20 (by
    intro p hp
    simp only [List.mem_cons, List.not_mem_nil, or_false] at hp htl3 ⊢
    rcases hp with h | h | h | h | h | h | h | h | h | h | h
    · exact .inl h
    · exact .inr (.inl h)
    · exact .inr (.inr (.inl h))
    · exact .inr (.inr (.inr (.inl h)))
    · exact .inr (.inr (.inr (.inr (.inl h))))
    · exact .inr (.inr (.inr (.inr (.inr (h ▸ htl1)))))
    · exact .inr (.inr (.inr (.inr (.inr (h ▸ htl2)))))
    · exact .inr (.inr (.inr (.inr (.inr (htl3 _ (.inl h))))))
    · exact .inr (.inr (.inr (.inr (.inr (htl3 _ (.inr (.inl h)))))))
    · exact .inr (.inr (.inr (.inr (.inr (htl3 _ (.inr (.inr h)))))))
    · exact .inr (.inr (.inr (.inr (.inr h)))))
  clear N20
  clear htl1 htl2 htl3
  k_steps
  refine Stop.go ?_
  refine' Con.use (codes_con _ lz zvs sz nz ((x, instObj 115 xd) :: (xd, tabD z1 z2 z3 z4 u1 u2 u3 u4 tc ts lr dc) :: (lr, listOf rvs.toArray nr) :: (ts, ({ cls := .type "tuple", data := .seq ys.toArray } : Obj)) :: (dc, od) :: (lc, listOf cvs.toArray cvs.length) :: (ly, listOf ys.toArray ny) :: (s1.heap.objs.size + 1 + 1, oF) :: (s1.heap.objs.size + 1, oS) :: tl) hz hzl hz6 (p_adj szk) (p_cd szk)) ?B4 ?F4 ?X4 ?N4 ?T4 ?hk4 ?hd4 ?hu4 ?hr4
  case N4 => exact newsOf N21 (by walk_at "lin")
  case B4 => k_asm
  case F4 => k_asm
  case X4 => k_asm
  case T4 => k_asm
  case hk4 => exact rfl
  case hd4 => ktr_room
  case hu4 => ktr_units
  rintro v' news' h' tk' F' N' ⟨lf, fvs, nf, rfl, rfl, hfs⟩
  clear N21
  k_steps
  refine Stop.go ?_
  refine' unpackItemsN_ ?k1 ?k2 ?k3 ?k4 ?k5 ?_
  case k1 => k_asm
  case k2 => k_asm
  case k3 => exact News.isTup (by k_asm) (by walk_at "lmem")
  case k4 => exact rfl
  case k5 => exact rfl
  intro h' F' N'
  k_steps
  refine Stop.go ?_
  rename News _ _ _ _ => N22
  have N23 := newsOf (l' := (lf, listOf fvs.toArray nf) :: (lz, listOf zvs.toArray nz) :: (x, instObj 115 xd) :: (xd, tabD z1 z2 z3 z4 u1 u2 u3 u4 tc ts lr dc) :: (lr, listOf rvs.toArray nr) :: (ts, ({ cls := .type "tuple", data := .seq ys.toArray } : Obj)) :: (dc, od) :: (lc, listOf cvs.toArray cvs.length) :: (ly, listOf ys.toArray ny) :: (s1.heap.objs.size + 1 + 1, oF) :: (s1.heap.objs.size + 1, oS) :: tl) N22 (by walk_at "lin")
  clear N22
  have hfs : StrsAre fvs ((cbsOf sz).map bitStr) := p_codes szk ▸ hfs
  refine For_M (by k_asm) ?_
  k_steps
  refine Stop.go ?_
  refine kun_lenL (k := (sz.length : Int)) (News.isList (by assumption) (by k_mem)) (by rw [List.size_toArray, IntsAre.length hy, sym_len]) (by omega) ?_
  k_steps
  refine Stop.go ?_
  rename IsRange _ _ _ _ _ _ _ _ => hrg4
  rename News _ _ _ _ => N24
  have N25 := newsOf (l' := (lf, listOf fvs.toArray nf) :: (lz, listOf zvs.toArray nz) :: (x, instObj 115 xd) :: (xd, tabD z1 z2 z3 z4 u1 u2 u3 u4 tc ts lr dc) :: (lr, listOf rvs.toArray nr) :: (ts, ({ cls := .type "tuple", data := .seq ys.toArray } : Obj)) :: (dc, od) :: (lc, listOf cvs.toArray cvs.length) :: (ly, listOf ys.toArray ny) :: (s1.heap.objs.size + 1 + 1, oF) :: (s1.heap.objs.size + 1, oS) :: tl) N24 (by walk_at "lin")
  rename Fr _ _ _ _ => F24
  obtain ⟨m1, e1, F25⟩ := frGen F24
  clear F24
  refine pyIter_rangeM (n := sz.length) (news := (lf, listOf fvs.toArray nf) :: (lz, listOf zvs.toArray nz) :: (x, instObj 115 xd) :: (xd, tabD z1 z2 z3 z4 u1 u2 u3 u4 tc ts lr dc) :: (lr, listOf rvs.toArray nr) :: (ts, ({ cls := .type "tuple", data := .seq ys.toArray } : Obj)) :: (dc, od) :: (lc, listOf cvs.toArray cvs.length) :: (ly, listOf ys.toArray ny) :: (s1.heap.objs.size + 1 + 1, oF) :: (s1.heap.objs.size + 1, oS) :: tl) (J := fun i m nx => Loc ["k"] m1 m [] ∧ nx = (lf, listOf fvs.toArray nf) :: (lz, listOf zvs.toArray nz) :: (x, instObj 115 xd) :: (xd, tabD z1 z2 z3 z4 u1 u2 u3 u4 tc ts lr dc) :: (lr, listOf rvs.toArray nr) :: (ts, ({ cls := .type "tuple", data := .seq ys.toArray } : Obj)) :: (dc, od) :: (lc, listOf cvs.toArray cvs.length) :: (ly, listOf ys.toArray ny) :: (s1.heap.objs.size + 1 + 1, oF) :: (s1.heap.objs.size + 1, oS) :: tl) rfl hrg4 (small_one (by decide) (by decide) (by omega) (by omega)) (by rw [rangeSize_nat]; simp) F25 N25 ?hj ?turn ?done
  case hj => exact ⟨⟨List.forall_mem_nil _, fun _ _ _ => rfl⟩, rfl⟩
  case turn =>
    rintro i t m₁ nx it io h tk hi ⟨hloc, rfl⟩ hit F26 N26
    have F27 := hloc.fr F26
    clear hloc F26 F25
    clear N24 N25
    subst e1
    k_unmd
    k_fold
    k_steps
    refine Stop.go ?_
    obtain ⟨ta1, i1, q1, taa, tab, hv1, hi1, hq0, hq1, hj1, hin⟩ := hcod.2 i (by rw [sym_len]; exact hi)
    have hcc := p_code szk hi hi1 hq0 hq1 hj1
    obtain ⟨cb, hcb, hcv1, hcl1⟩ := p_val szk hi
    have hsz1 := sz_in szk hi
    obtain ⟨tsy, htsy⟩ := hy.get (0 + (i : Int)).toNat ((symOf fst sz.length).getD i 0) (by rw [show (0 + (i : Int)).toNat = i by omega, List.getD_eq_getElem?_getD, sym_get hi]; rfl)
    refine item_ofList (News.isList (by k_asm) (by walk_at "lmem")) (by omega) (by omega) htsy ?_
    k_steps
    refine Stop.go ?_
    rename News _ _ _ _ => N28
    refine' Con.use (code_con _ x xd dc z1 z2 z3 z4 u1 u2 u3 u4 tsy tc ts lr ta1 od kvs _ ((it, io) :: (lf, listOf fvs.toArray nf) :: (lz, listOf zvs.toArray nz) :: (lr, listOf rvs.toArray nr) :: (ts, ({ cls := .type "tuple", data := .seq ys.toArray } : Obj)) :: (lc, listOf cvs.toArray cvs.length) :: (ly, listOf ys.toArray ny) :: (s1.heap.objs.size + 1 + 1, oF) :: (s1.heap.objs.size + 1, oS) :: tl) hod hdc hv1) ?B5 ?F5 ?X5 ?N5 ?T5 ?hk5 ?hd5 ?hu5 ?hr5
    case N5 => exact newsOf N28 (by walk_at "lin")
    case B5 => k_asm
    case F5 => k_asm
    case X5 => k_asm
    case T5 => k_asm
    case hk5 => exact rfl
    case hd5 => ktr_room
    case hu5 => ktr_units
    rintro v' news' h' tk' F' N' ⟨rfl, rfl⟩
    have N29 := newsOf (l' := (it, io) :: (lf, listOf fvs.toArray nf) :: (lz, listOf zvs.toArray nz) :: (x, instObj 115 xd) :: (xd, tabD z1 z2 z3 z4 u1 u2 u3 u4 tc ts lr dc) :: (lr, listOf rvs.toArray nr) :: (ts, ({ cls := .type "tuple", data := .seq ys.toArray } : Obj)) :: (dc, od) :: (lc, listOf cvs.toArray cvs.length) :: (ly, listOf ys.toArray ny) :: (s1.heap.objs.size + 1 + 1, oF) :: (s1.heap.objs.size + 1, oS) :: tl) N' (by walk_at "lin")
    clear N28 N'
    k_steps
    refine Stop.go ?_
    obtain ⟨tcb, htcb⟩ := hfs.get (0 + (i : Int)).toNat (bitStr cb) (by rw [show (0 + (i : Int)).toNat = i by omega, List.getElem?_map, hcb]; rfl)
    refine item_ofList (News.isList (by k_asm) (by walk_at "lmem")) (by omega) (by omega) htcb ?_
    k_steps
    refine Stop.go ?_
    refine call_text2 (fun e => by rw [e, List.length_nil] at hcl1; omega) (by omega) ?_
    k_steps
    refine Stop.go ?_
    obtain ⟨tsz, htsz⟩ := hz.get (0 + (i : Int)).toNat (sz.getD i 0) (by rw [show (0 + (i : Int)).toNat = i by omega, List.getD_eq_getElem?_getD, List.getElem?_eq_getElem hi]; rfl)
    refine item_ofList (News.isList (by k_asm) (by walk_at "lmem")) (by omega) (by omega) htsz ?_
    k_steps
    refine Stop.go ?_
    refine ne_dataH (reads_tuple_at (News.get (by k_asm) (show (ta1, ({ cls := .type "tuple", data := .seq [Value.int (codeAt (cntOf sz) i1 + q1) taa, Value.int (1 + (i1 : Int)) tab].toArray } : Obj)) ∈ _ by repeat (first | (with_reducible exact hin) | (refine List.mem_cons_of_mem _ ?_)))) rfl rfl (ReadsAll.cons (Reads.int _ _) (ReadsAll.cons (Reads.int _ _) ReadsAll.nil))) (reads_tuple_at (News.get (by k_asm) (by walk_at "lmem")) rfl rfl (ReadsAll.cons (Reads.int _ _) (ReadsAll.cons (Reads.int _ _) ReadsAll.nil))) (by rfl) (by rfl) (by ke_room) ?_
    rw [hcc.1, hcc.2, hcv1]
    k_steps
    rotate_left
    · rename PyData.eqv _ _ = false => hx
      exact absurd hx (by simp [PyData.eqv, PyData.eqvAll])
    refine TurnM.intro ((lf, listOf fvs.toArray nf) :: (lz, listOf zvs.toArray nz) :: (x, instObj 115 xd) :: (xd, tabD z1 z2 z3 z4 u1 u2 u3 u4 tc ts lr dc) :: (lr, listOf rvs.toArray nr) :: (ts, ({ cls := .type "tuple", data := .seq ys.toArray } : Obj)) :: (dc, od) :: (lc, listOf cvs.toArray cvs.length) :: (ly, listOf ys.toArray ny) :: (s1.heap.objs.size + 1 + 1, oF) :: (s1.heap.objs.size + 1, oS) :: tl) (by assumption) (by assumption) (by simp) (by walk_at "lin") hit ?_
    refine ⟨⟨List.forall_mem_nil _, ?_⟩, rfl⟩
    intro z _ hs
    have hz2 : z ≠ Str.ofString "k" := by
      intro e
      rw [e] at hs
      exact absurd hs (by decide)
    show (if z = _ then _ else (if List.contains _ z = true then _ else _)) = _
    rw [if_neg hz2, if_neg (by rw [hs]; decide)]
  case done =>
    rintro m₁ nx h tk ⟨hloc, rfl⟩ F26 N26
    have F27 := hloc.fr F26
    clear hloc F26 F25 N25 N24
    subst e1
    k_steps
    refine Stop.go ?_
    rename News _ _ _ _ => N30
    refine' Con.use (allread_con _ x xd lr ts lf ly hxd z1 z2 z3 z4 u1 u2 u3 u4 tc dc rvs ys fvs ys (rowsTo (cntOf sz) 16) (symOf fst sz.length) nr 0 nf ny (cbsOf sz) ((lz, listOf zvs.toArray nz) :: (dc, od) :: (lc, listOf cvs.toArray cvs.length) :: (s1.heap.objs.size + 1 + 1, oF) :: (s1.heap.objs.size + 1, oS) :: tl) (hrw.mono fun p hp => .tail _ (.tail _ (.tail _ (.tail _ (.tail _ hp))))) (by rw [rows_len]; decide) hy hy (by rw [sym_len, cbs_len]) hfs (by rw [cbs_len]; omega) (p_c6 szk) (p_read szk)) ?B6 ?F6 ?X6 ?N6 ?T6 ?hk6 ?hd6 ?hu6 ?hr6
    case N6 => exact newsOf N30 (by walk_at "lin")
    case B6 => k_asm
    case F6 => k_asm
    case X6 => k_asm
    case T6 => k_asm
    case hk6 => exact rfl
    case hd6 => ktr_room
    case hu6 => ktr_units
    rintro v' news' h' tk' F' N' ⟨rfl, rfl⟩
    have N31 := newsOf (l' := (lf, listOf fvs.toArray nf) :: (lz, listOf zvs.toArray nz) :: (x, instObj 115 xd) :: (xd, tabD z1 z2 z3 z4 u1 u2 u3 u4 tc ts lr dc) :: (lr, listOf rvs.toArray nr) :: (ts, ({ cls := .type "tuple", data := .seq ys.toArray } : Obj)) :: (dc, od) :: (lc, listOf cvs.toArray cvs.length) :: (ly, listOf ys.toArray ny) :: (s1.heap.objs.size + 1 + 1, oF) :: (s1.heap.objs.size + 1, oS) :: tl) N' (by walk_at "lin")
    clear N30 N'
    k_steps
    refine Stop.go ?_
    rename News _ _ _ _ => N32
    refine' ConT.use (fall_con _ x xd lr ts hxd z1 z2 z3 z4 u1 u2 u3 u4 _ tc dc rvs ys (rowsTo (cntOf sz) 16) (symOf fst sz.length) nr 0 [255, 255, 255] ((lf, listOf fvs.toArray nf) :: (lz, listOf zvs.toArray nz) :: (dc, od) :: (lc, listOf cvs.toArray cvs.length) :: (ly, listOf ys.toArray ny) :: (s1.heap.objs.size + 1 + 1, oF) :: (s1.heap.objs.size + 1, oS) :: tl) (by decide) (hrw.mono fun p hp => .tail _ (.tail _ (.tail _ (.tail _ (.tail _ (.tail _ (.tail _ hp))))))) (by rw [rows_len]; decide) hy (by rw [sym_len]; omega) .noCode (p_nocode szk) (fun _ _ e => by cases e)) ?B7 ?F7 ?X7 ?N7 ?T7 ?XB7 ?TB7 ?KD7 ?hk7 ?hd7 ?hu7 ?hr7
    case N7 => exact newsOf N32 (by walk_at "lin")
    case B7 => k_asm
    case F7 => k_asm
    case X7 => k_asm
    case T7 => k_asm
    case XB7 => k_asm
    case TB7 => k_asm
    case KD7 => exact fun _ hb => absurd hb List.not_mem_nil
    case hk7 => exact rfl
    case hd7 => ktr_room
    case hu7 => ktr_units
    rintro v' news' gA h' tk' KT FA NA BA XA TA DA ⟨⟨tq, hvq⟩, hsub⟩
    have FB := frBack KT FA
    have N7 := newsOf (l' := (lf, listOf fvs.toArray nf) :: (lz, listOf zvs.toArray nz) :: (x, instObj 115 xd) :: (xd, tabD z1 z2 z3 z4 u1 u2 u3 u4 tc ts lr dc) :: (lr, listOf rvs.toArray nr) :: (ts, ({ cls := .type "tuple", data := .seq ys.toArray } : Obj)) :: (dc, od) :: (lc, listOf cvs.toArray cvs.length) :: (ly, listOf ys.toArray ny) :: (s1.heap.objs.size + 1 + 1, oF) :: (s1.heap.objs.size + 1, oS) :: tl) (newsOf (newsBack KT NA) hsub) (by walk_at "lin")
    clear FA NA BA XA TA DA hsub KT N32
    dsimp only at hvq
    subst hvq
    k_steps
    refine Stop.go ?_
    rename News _ _ _ _ => N33
    refine' ConT.use (fall_con _ x xd lr ts hxd z1 z2 z3 z4 u1 u2 u3 u4 _ tc dc rvs ys (rowsTo (cntOf sz) 16) (symOf fst sz.length) nr 0 [] ((lf, listOf fvs.toArray nf) :: (lz, listOf zvs.toArray nz) :: (dc, od) :: (lc, listOf cvs.toArray cvs.length) :: (ly, listOf ys.toArray ny) :: (s1.heap.objs.size + 1 + 1, oF) :: (s1.heap.objs.size + 1, oS) :: tl) (by decide) (hrw.mono fun p hp => .tail _ (.tail _ (.tail _ (.tail _ (.tail _ (.tail _ (.tail _ hp))))))) (by rw [rows_len]; decide) hy (by rw [sym_len]; omega) .cut (p_cut _) (fun _ _ e => by cases e)) ?B8 ?F8 ?X8 ?N8 ?T8 ?XB8 ?TB8 ?KD8 ?hk8 ?hd8 ?hu8 ?hr8
    case N8 => exact newsOf N33 (by walk_at "lin")
    case B8 => k_asm
    case F8 => k_asm
    case X8 => k_asm
    case T8 => k_asm
    case XB8 => k_asm
    case TB8 => k_asm
    case KD8 => exact fun _ hb => absurd hb List.not_mem_nil
    case hk8 => exact rfl
    case hd8 => ktr_room
    case hu8 => ktr_units
    rintro v' news' gA h' tk' KT FA NA BA XA TA DA ⟨⟨tq, hvq⟩, hsub⟩
    have FB := frBack KT FA
    have N8 := newsOf (l' := (lf, listOf fvs.toArray nf) :: (lz, listOf zvs.toArray nz) :: (x, instObj 115 xd) :: (xd, tabD z1 z2 z3 z4 u1 u2 u3 u4 tc ts lr dc) :: (lr, listOf rvs.toArray nr) :: (ts, ({ cls := .type "tuple", data := .seq ys.toArray } : Obj)) :: (dc, od) :: (lc, listOf cvs.toArray cvs.length) :: (ly, listOf ys.toArray ny) :: (s1.heap.objs.size + 1 + 1, oF) :: (s1.heap.objs.size + 1, oS) :: tl) (newsOf (newsBack KT NA) hsub) (by walk_at "lin")
    clear FA NA BA XA TA DA hsub KT N33
    dsimp only at hvq
    subst hvq
    k_steps
    refine Stop.go ?_
    refine' kmk_slice_ints (vs := ys) (ns := symOf fst sz.length) ?yFa ?yNa ?yla ?ypa ?yqa hy ?yma ?yca ?_ ?ysa ?yta ?yza
    case yFa => k_asm
    case yNa => k_asm
    case yla => exact News.isList (by k_asm) (by walk_at "lmem")
    case ypa => exact IsPart.none
    case yqa => exact IsPart.int _ _
    case yma => exact kmk_upto hy (by decide)
    case yca => exact rfl
    case ysa => with_unfolding_all rfl
    case yta => intro _; with_unfolding_all rfl
    case yza => exact kmk_sz hy (by rw [sym_len]; rw [sizeLine_eq]; omega)
    intro Da wsa h' F' N' l1 hI0 hC0 hL0
    have hIa : IntsAre wsa ((symOf fst sz.length).take 1) := hI0
    clear hC0 hL0 hI0
    k_lt l1
    k_steps
    refine Stop.go ?_
    refine' kmk_add_ints (vs := ys) (ws := wsa) (ns := symOf fst sz.length) (ms := (symOf fst sz.length).take 1) ?yFb ?yNb ?yab ?ybb hy hIa ?_ ?yzb
    case yFb => k_asm
    case yNb => k_asm
    case yab => exact News.isList (by k_asm) (by walk_at "lmem")
    case ybb => exact News.isList (by k_asm) (by walk_at "lmem")
    case yzb => rw [List.length_take, sym_len]; rw [sizeLine_eq]; omega
    intro Db wsb h' F' N' l1 hIb
    k_lt l1
    k_steps
    refine Stop.go ?_
    rename News _ _ _ _ => N34
    refine' ConT.use (refused_con _ lc Db cvs wsb (cntOf sz) (symOf fst sz.length ++ (symOf fst sz.length).take 1) cvs.length 0 ((lf, listOf fvs.toArray nf) :: (lz, listOf zvs.toArray nz) :: (x, instObj 115 xd) :: (xd, tabD z1 z2 z3 z4 u1 u2 u3 u4 tc ts lr dc) :: (lr, listOf rvs.toArray nr) :: (ts, ({ cls := .type "tuple", data := .seq ys.toArray } : Obj)) :: (dc, od) :: (ly, listOf ys.toArray ny) :: (s1.heap.objs.size + 1 + 1, oF) :: (s1.heap.objs.size + 1, oS) :: tl) hcs hIb (by rw [cnt_len]; decide) (by rw [List.length_append, List.length_take, sym_len]; omega)) ?B9 ?F9 ?X9 ?N9 ?T9 ?XB9 ?TB9 ?KD9 ?hk9 ?hd9 ?hu9 ?hr9
    case N9 => exact newsOf N34 (by walk_at "lin")
    case B9 => k_asm
    case F9 => k_asm
    case X9 => k_asm
    case T9 => k_asm
    case XB9 => k_asm
    case TB9 => k_asm
    case KD9 => exact fun _ hb => absurd hb List.not_mem_nil
    case hk9 => exact rfl
    case hd9 => ktr_room
    case hu9 => ktr_units
    rintro v' news' gA h' tk' KT FA NA BA XA TA DA ⟨hvq, hsub⟩
    have FB := frBack KT FA
    have N9 := newsOf (l' := (lf, listOf fvs.toArray nf) :: (lz, listOf zvs.toArray nz) :: (x, instObj 115 xd) :: (xd, tabD z1 z2 z3 z4 u1 u2 u3 u4 tc ts lr dc) :: (lr, listOf rvs.toArray nr) :: (ts, ({ cls := .type "tuple", data := .seq ys.toArray } : Obj)) :: (dc, od) :: (lc, listOf cvs.toArray cvs.length) :: (ly, listOf ys.toArray ny) :: (s1.heap.objs.size + 1 + 1, oF) :: (s1.heap.objs.size + 1, oS) :: tl) (newsOf (newsBack KT NA) hsub) (by walk_at "lin")
    clear FA NA BA XA TA DA hsub KT N34
    rw [decide_eq_true (p_r1 szk fst)] at hvq
    subst hvq
    clear hIa hIb
    k_steps
    refine Stop.go ?_
    refine' kmk_slice_ints (vs := cvs) (ns := cntOf sz) ?yFc ?yNc ?ylc ?ypc ?yqc hcs ?ymc ?ycc ?_ ?ysc ?ytc ?yzc
    case yFc => k_asm
    case yNc => k_asm
    case ylc => exact News.isList (by k_asm) (by walk_at "lmem")
    case ypc => exact IsPart.none
    case yqc => exact IsPart.int _ _
    case ymc => exact kmk_upto hcs (by decide)
    case ycc => exact rfl
    case ysc => with_unfolding_all rfl
    case ytc => intro _; with_unfolding_all rfl
    case yzc => exact kmk_sz hcs (by rw [cnt_len]; rw [sizeLine_eq]; omega)
    intro Dc wsc h' F' N' l1 hI0 hC0 hL0
    have hIc : IntsAre wsc ((cntOf sz).take 15) := hI0
    clear hC0 hL0 hI0
    k_lt l1
    k_steps
    refine Stop.go ?_
    rename News _ _ _ _ => N35
    refine' ConT.use (refused_con _ Dc ly wsc ys ((cntOf sz).take 15) (symOf fst sz.length) 0 ny ((lf, listOf fvs.toArray nf) :: (lz, listOf zvs.toArray nz) :: (x, instObj 115 xd) :: (xd, tabD z1 z2 z3 z4 u1 u2 u3 u4 tc ts lr dc) :: (lr, listOf rvs.toArray nr) :: (ts, ({ cls := .type "tuple", data := .seq ys.toArray } : Obj)) :: (dc, od) :: (lc, listOf cvs.toArray cvs.length) :: (s1.heap.objs.size + 1 + 1, oF) :: (s1.heap.objs.size + 1, oS) :: tl) hIc hy (by rw [List.length_take, cnt_len]; decide) (by rw [sym_len]; omega)) ?B10 ?F10 ?X10 ?N10 ?T10 ?XB10 ?TB10 ?KD10 ?hk10 ?hd10 ?hu10 ?hr10
    case N10 => exact newsOf N35 (by walk_at "lin")
    case B10 => k_asm
    case F10 => k_asm
    case X10 => k_asm
    case T10 => k_asm
    case XB10 => k_asm
    case TB10 => k_asm
    case KD10 => exact fun _ hb => absurd hb List.not_mem_nil
    case hk10 => exact rfl
    case hd10 => ktr_room
    case hu10 => ktr_units
    rintro v' news' gA h' tk' KT FA NA BA XA TA DA ⟨hvq, hsub⟩
    have FB := frBack KT FA
    have N10 := newsOf (l' := (lf, listOf fvs.toArray nf) :: (lz, listOf zvs.toArray nz) :: (x, instObj 115 xd) :: (xd, tabD z1 z2 z3 z4 u1 u2 u3 u4 tc ts lr dc) :: (lr, listOf rvs.toArray nr) :: (ts, ({ cls := .type "tuple", data := .seq ys.toArray } : Obj)) :: (dc, od) :: (lc, listOf cvs.toArray cvs.length) :: (ly, listOf ys.toArray ny) :: (s1.heap.objs.size + 1 + 1, oF) :: (s1.heap.objs.size + 1, oS) :: tl) (newsOf (newsBack KT NA) hsub) (by walk_at "lin")
    clear FA NA BA XA TA DA hsub KT N35
    rw [decide_eq_true (p_r2 fst)] at hvq
    subst hvq
    clear hIc
    k_steps
    refine Stop.go ?_
    refine kun_lenL (k := (sz.length : Int)) (News.isList (by k_asm) (by walk_at "lmem")) (by rw [List.size_toArray, IntsAre.length hy, sym_len]) (by omega) ?_
    apply cutP (P := ∀ (h : Heap) (l : Addr) (tk : Nat) (t : Tok), Fr s1.heap s1.heap.objs.size h _ → News s1.heap s1.heap.objs.size h ((l, listOf [Value.int 0 t].toArray 0) :: (lf, listOf fvs.toArray nf) :: (lz, listOf zvs.toArray nz) :: (x, instObj 115 xd) :: (xd, tabD z1 z2 z3 z4 u1 u2 u3 u4 tc ts lr dc) :: (lr, listOf rvs.toArray nr) :: (ts, ({ cls := .type "tuple", data := .seq ys.toArray } : Obj)) :: (dc, od) :: (lc, listOf cvs.toArray cvs.length) :: (ly, listOf ys.toArray ny) :: (s1.heap.objs.size + 1 + 1, oF) :: (s1.heap.objs.size + 1, oS) :: tl) → wpAny _ _ (binaryOp Operator.Add (Value.ref lc) (Value.ref l)) _ _ { heap := h, gens := s1.gens, drawn := s1.drawn, toks := tk, os := s1.os })
    case main =>
      intro key
      k_steps
      · refine Stop.go ?_
        refine' kmk_slice_ints (vs := ys) (ns := symOf fst sz.length) ?yFd ?yNd ?yld ?ypd ?yqd hy ?ymd ?ycd ?_ ?ysd ?ytd ?yzd
        case yFd => k_asm
        case yNd => k_asm
        case yld => exact News.isList (by k_asm) (by walk_at "lmem")
        case ypd => exact IsPart.none
        case yqd => exact IsPart.int _ _
        case ymd => exact kmk_upto_neg hy (by decide)
        case ycd => exact rfl
        case ysd => with_unfolding_all rfl
        case ytd => intro _; with_unfolding_all rfl
        case yzd => exact kmk_sz hy (by rw [sym_len]; rw [sizeLine_eq]; omega)
        intro Dd wsd h' F' N' l1 hI0 hC0 hL0
        have hId : IntsAre wsd ((symOf fst sz.length).take (sz.length - 1)) := (by have h9 := hI0; rw [sym_len] at h9; exact h9)
        clear hC0 hL0 hI0
        k_lt l1
        k_steps
        refine Stop.go ?_
        refine' kmk_slice_ints (vs := ys) (ns := symOf fst sz.length) ?yFe ?yNe ?yle ?ype ?yqe hy ?yme ?yce ?_ ?yse ?yte ?yze
        case yFe => k_asm
        case yNe => k_asm
        case yle => exact News.isList (by k_asm) (by walk_at "lmem")
        case ype => exact IsPart.none
        case yqe => exact IsPart.int _ _
        case yme => exact kmk_upto hy (by decide)
        case yce => exact rfl
        case yse => with_unfolding_all rfl
        case yte => intro _; with_unfolding_all rfl
        case yze => exact kmk_sz hy (by rw [sym_len]; rw [sizeLine_eq]; omega)
        intro De wse h' F' N' l1 hI0 hC0 hL0
        have hIe : IntsAre wse ((symOf fst sz.length).take 1) := hI0
        clear hC0 hL0 hI0
        k_lt l1
        k_steps
        refine Stop.go ?_
        refine' kmk_add_ints (vs := wsd) (ws := wse) (ns := (symOf fst sz.length).take (sz.length - 1)) (ms := (symOf fst sz.length).take 1) ?yFf ?yNf ?yaf ?ybf hId hIe ?_ ?yzf
        case yFf => k_asm
        case yNf => k_asm
        case yaf => exact News.isList (by k_asm) (by walk_at "lmem")
        case ybf => exact News.isList (by k_asm) (by walk_at "lmem")
        case yzf => rw [List.length_take, List.length_take, sym_len]; rw [sizeLine_eq]; omega
        intro Df wsf h' F' N' l1 hIf
        k_lt l1
        k_steps
        refine Stop.go ?_
        rename News _ _ _ _ => N36
        refine' ConT.use (refused_con _ lc Df cvs wsf (cntOf sz) ((symOf fst sz.length).take (sz.length - 1) ++ (symOf fst sz.length).take 1) cvs.length 0 ((lf, listOf fvs.toArray nf) :: (lz, listOf zvs.toArray nz) :: (x, instObj 115 xd) :: (xd, tabD z1 z2 z3 z4 u1 u2 u3 u4 tc ts lr dc) :: (lr, listOf rvs.toArray nr) :: (ts, ({ cls := .type "tuple", data := .seq ys.toArray } : Obj)) :: (dc, od) :: (ly, listOf ys.toArray ny) :: (s1.heap.objs.size + 1 + 1, oF) :: (s1.heap.objs.size + 1, oS) :: tl) hcs hIf (by rw [cnt_len]; decide) (by rw [List.length_append, List.length_take, List.length_take, sym_len]; omega)) ?B12 ?F12 ?X12 ?N12 ?T12 ?XB12 ?TB12 ?KD12 ?hk12 ?hd12 ?hu12 ?hr12
        case N12 => exact newsOf N36 (by walk_at "lin")
        case B12 => k_asm
        case F12 => k_asm
        case X12 => k_asm
        case T12 => k_asm
        case XB12 => k_asm
        case TB12 => k_asm
        case KD12 => exact fun _ hb => absurd hb List.not_mem_nil
        case hk12 => exact rfl
        case hd12 => ktr_room
        case hu12 => ktr_units
        rintro v' news' gA h' tk' KT FA NA BA XA TA DA ⟨hvq, hsub⟩
        have FB := frBack KT FA
        have N12 := newsOf (l' := (lf, listOf fvs.toArray nf) :: (lz, listOf zvs.toArray nz) :: (x, instObj 115 xd) :: (xd, tabD z1 z2 z3 z4 u1 u2 u3 u4 tc ts lr dc) :: (lr, listOf rvs.toArray nr) :: (ts, ({ cls := .type "tuple", data := .seq ys.toArray } : Obj)) :: (dc, od) :: (lc, listOf cvs.toArray cvs.length) :: (ly, listOf ys.toArray ny) :: (s1.heap.objs.size + 1 + 1, oF) :: (s1.heap.objs.size + 1, oS) :: tl) (newsOf (newsBack KT NA) hsub) (by walk_at "lin")
        clear FA NA BA XA TA DA hsub KT N36
        rw [decide_eq_true (p_r3 szk fst (by omega))] at hvq
        subst hvq
        clear hId hIe hIf
        k_steps
        refine Stop.go ?_
        rename News _ _ _ _ => NZ
        rename Fr _ _ _ _ => FZ
        exact key _ _ _ _ FZ NZ
      · refine Stop.go ?_
        rename News _ _ _ _ => NZ
        rename Fr _ _ _ _ => FZ
        exact key _ _ _ _ FZ NZ
    case prove =>
      intro h0 l0 tk0 t0 F0Z N0Z
      refine' kmk_add_ints (vs := cvs) (ws := [Value.int 0 t0]) (ns := (cntOf sz)) (ms := [0]) ?yFgy ?yNgy ?yagy ?ybgy hcs (.cons _ _ .nil) ?_ ?yzgy
      case yFgy => k_asm
      case yNgy => k_asm
      case yagy => exact News.isList (by k_asm) (by walk_at "lmem")
      case ybgy => exact News.isList (by k_asm) (by walk_at "lmem")
      case yzgy => rw [cnt_len]; rw [show ([0] : List Int).length = 1 from rfl]; rw [sizeLine_eq]; omega
      intro Dgy wsgy h' F' N' l1 hIgy
      k_lt l1
      k_steps
      refine Stop.go ?_
      rename News _ _ _ _ => N38y
      refine' ConT.use (refused_con _ Dgy ly wsgy ys (cntOf sz ++ [0]) (symOf fst sz.length) 0 ny ((lf, listOf fvs.toArray nf) :: (lz, listOf zvs.toArray nz) :: (x, instObj 115 xd) :: (xd, tabD z1 z2 z3 z4 u1 u2 u3 u4 tc ts lr dc) :: (lr, listOf rvs.toArray nr) :: (ts, ({ cls := .type "tuple", data := .seq ys.toArray } : Obj)) :: (dc, od) :: (lc, listOf cvs.toArray cvs.length) :: (s1.heap.objs.size + 1 + 1, oF) :: (s1.heap.objs.size + 1, oS) :: tl) hIgy hy (by rw [List.length_append, cnt_len]; decide) (by rw [sym_len]; omega)) ?B13y ?F13y ?X13y ?N13y ?T13y ?XB13y ?TB13y ?KD13y ?hk13y ?hd13y ?hu13y ?hr13y
      case N13y => exact newsOf N38y (by walk_at "lin")
      case B13y => k_asm
      case F13y => k_asm
      case X13y => k_asm
      case T13y => k_asm
      case XB13y => k_asm
      case TB13y => k_asm
      case KD13y => exact fun _ hb => absurd hb List.not_mem_nil
      case hk13y => exact rfl
      case hd13y => ktr_room
      case hu13y => ktr_units
      rintro v' news' gA h' tk' KT FA NA BA XA TA DA ⟨hvq, hsub⟩
      have FB := frBack KT FA
      have N13y := newsOf (l' := (lf, listOf fvs.toArray nf) :: (lz, listOf zvs.toArray nz) :: (x, instObj 115 xd) :: (xd, tabD z1 z2 z3 z4 u1 u2 u3 u4 tc ts lr dc) :: (lr, listOf rvs.toArray nr) :: (ts, ({ cls := .type "tuple", data := .seq ys.toArray } : Obj)) :: (dc, od) :: (lc, listOf cvs.toArray cvs.length) :: (ly, listOf ys.toArray ny) :: (s1.heap.objs.size + 1 + 1, oF) :: (s1.heap.objs.size + 1, oS) :: tl) (newsOf (newsBack KT NA) hsub) (by walk_at "lin")
      clear FA NA BA XA TA DA hsub KT N38y
      rw [decide_eq_true (p_r4 fst)] at hvq
      subst hvq
      clear hIgy
      k_steps
      refine Stop.go ?_
      refine' kmk_slice_ints (vs := ys) (ns := symOf fst sz.length) ?yFhy ?yNhy ?ylhy ?yphy ?yqhy hy ?ymhy ?ychy ?_ ?yshy ?ythy ?yzhy
      case yFhy => k_asm
      case yNhy => k_asm
      case ylhy => exact News.isList (by k_asm) (by walk_at "lmem")
      case yphy => exact IsPart.none
      case yqhy => exact IsPart.int _ _
      case ymhy => exact kmk_upto_neg hy (by decide)
      case ychy => exact rfl
      case yshy => with_unfolding_all rfl
      case ythy => intro _; with_unfolding_all rfl
      case yzhy => exact kmk_sz hy (by rw [sym_len]; rw [sizeLine_eq]; omega)
      intro Dhy wshy h' F' N' l1 hI0 hC0 hL0
      have hIhy : IntsAre wshy ((symOf fst sz.length).take (sz.length - 1)) := (by have h9 := hI0; rw [sym_len] at h9; exact h9)
      clear hC0 hL0 hI0
      k_lt l1
      k_steps
      refine Stop.go ?_
      rename News _ _ _ _ => N39y
      refine' ConT.use (refused_con _ lc Dhy cvs wshy (cntOf sz) ((symOf fst sz.length).take (sz.length - 1)) cvs.length 0 ((lf, listOf fvs.toArray nf) :: (lz, listOf zvs.toArray nz) :: (x, instObj 115 xd) :: (xd, tabD z1 z2 z3 z4 u1 u2 u3 u4 tc ts lr dc) :: (lr, listOf rvs.toArray nr) :: (ts, ({ cls := .type "tuple", data := .seq ys.toArray } : Obj)) :: (dc, od) :: (ly, listOf ys.toArray ny) :: (s1.heap.objs.size + 1 + 1, oF) :: (s1.heap.objs.size + 1, oS) :: tl) hcs hIhy (by rw [cnt_len]; decide) (by rw [List.length_take, sym_len]; omega)) ?B14y ?F14y ?X14y ?N14y ?T14y ?XB14y ?TB14y ?KD14y ?hk14y ?hd14y ?hu14y ?hr14y
      case N14y => exact newsOf N39y (by walk_at "lin")
      case B14y => k_asm
      case F14y => k_asm
      case X14y => k_asm
      case T14y => k_asm
      case XB14y => k_asm
      case TB14y => k_asm
      case KD14y => exact fun _ hb => absurd hb List.not_mem_nil
      case hk14y => exact rfl
      case hd14y => ktr_room
      case hu14y => ktr_units
      rintro v' news' gA h' tk' KT FA NA BA XA TA DA ⟨hvq, hsub⟩
      have FB := frBack KT FA
      have N14y := newsOf (l' := (lf, listOf fvs.toArray nf) :: (lz, listOf zvs.toArray nz) :: (x, instObj 115 xd) :: (xd, tabD z1 z2 z3 z4 u1 u2 u3 u4 tc ts lr dc) :: (lr, listOf rvs.toArray nr) :: (ts, ({ cls := .type "tuple", data := .seq ys.toArray } : Obj)) :: (dc, od) :: (lc, listOf cvs.toArray cvs.length) :: (ly, listOf ys.toArray ny) :: (s1.heap.objs.size + 1 + 1, oF) :: (s1.heap.objs.size + 1, oS) :: tl) (newsOf (newsBack KT NA) hsub) (by walk_at "lin")
      clear FA NA BA XA TA DA hsub KT N39y
      rw [decide_eq_true (p_r5 szk fst)] at hvq
      subst hvq
      clear hIhy
      k_steps
      refine Stop.go ?_
      rename News _ _ _ _ => N40y
      refine' ConT.use (ends_con _ lc lz ly cvs zvs ys (cntOf sz) sz (symOf fst sz.length) cvs.length nz ny ((lf, listOf fvs.toArray nf) :: (x, instObj 115 xd) :: (xd, tabD z1 z2 z3 z4 u1 u2 u3 u4 tc ts lr dc) :: (lr, listOf rvs.toArray nr) :: (ts, ({ cls := .type "tuple", data := .seq ys.toArray } : Obj)) :: (dc, od) :: (s1.heap.objs.size + 1 + 1, oF) :: (s1.heap.objs.size + 1, oS) :: tl) hcs hz hy (cnt_len sz) hzl.2 (by rw [sym_len]; exact hzl.2) hz6 (p_fs szk) (p_eA szk fst) (p_eB szk fst) (p_eC fst) p_eD) ?B15y ?F15y ?X15y ?N15y ?T15y ?XB15y ?TB15y ?KD15y ?hk15y ?hd15y ?hu15y ?hr15y
      case N15y => exact newsOf N40y (by walk_at "lin")
      case B15y => k_asm
      case F15y => k_asm
      case X15y => k_asm
      case T15y => k_asm
      case XB15y => k_asm
      case TB15y => k_asm
      case KD15y => exact fun _ hb => absurd hb List.not_mem_nil
      case hk15y => exact rfl
      case hd15y => ktr_room
      case hu15y => ktr_units
      rintro v' news' gA h' tk' KT FA NA BA XA TA DA hvq
      subst hvq
      have FB := frBack KT FA
      clear FA NA BA XA TA DA
      k_steps
set_option Elab.async false
end
end Mine
theorem PySem.Challenge.cw_nt0542_01_holds : PySem.Challenge.rw_nt0542_01.Holds :=
  Mine.law_holds
