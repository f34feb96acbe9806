import PyProof.Rows.All
import Wide.All
import OpenK.AllK
import Wide.FinOn
import PySem.Challenge.RW_pb0161_01
open PySem PySem.W PyProof.Rows PySem.Calls
set_option Elab.async false
namespace Mine
set_option maxRecDepth 100000 in
set_option maxHeartbeats 8000000 in
open_top hd for PySem.Challenge.rw_pb0161_01
end Mine
namespace Mine
abbrev PR : Program := PySem.Challenge.rw_pb0161_01.row.prog
/-- where a body is walked: the base heap, the stack, the room -/
structure Cx (w : World) (mean : ExcName → Option Value) (mg mb : Str → Option Value) (A : Around) (base : Heap) (outer : List Env) (g : Heap) (env : Env) (L : Addr) : Prop where
  B : ∃ A₀, Below A₀ base outer g
  X : (hd.heap_39 w.params).In g
  T : Top hd.view_39 (looseW hd.view_39 []) mean mg mb g
  hA : A.frames = some (env :: outer)
  hf : env.frame = some L
  hke : env.scope.kind = .function
  hh : A.handled = none

theorem fr_gsub {g h h' : Heap} {L : Addr} {m : Str → Option Value} {W : List Addr} (F : Fr g L h m) (G : GSub h h' W) (hL : L ∉ W) (hW : ∀ b ∈ W, g.get? b = none) : Fr g L h' m :=
  ⟨F.ns.at' fun o e => G L o e hL, fun b o e => G b o (F.keep b o e) (fun hb => by rw [hW b hb] at e; cases e), F.above⟩
theorem news_gsub {g h h' : Heap} {L : Addr} {W : List Addr} {news : List (Addr × Obj)} (N : News g L h news) (G : GSub h h' W) (hn : ∀ p ∈ news, p.1 ∉ W) : News g L h' news :=
  fun p hp => ⟨G _ _ (N p hp).1 (hn p hp), (N p hp).2⟩
theorem gsub_trans {h h' h'' : Heap} {W : List Addr} (G : GSub h h' W) (G' : GSub h' h'' W) : GSub h h'' W := fun b o e hb => G' b o (G b o e hb) hb
theorem gsub_of {g h h' : Heap} {W : List Addr} (G : GSub h g W) (k : ∀ b o, g.get? b = some o → h'.get? b = some o) : GSub h h' W := fun b o e hb => k b o (G b o e hb)
theorem news_W {g h : Heap} {L : Addr} {news : List (Addr × Obj)} (N : News g L h news) : L ∉ news.map (·.1) ∧ ∀ b ∈ news.map (·.1), g.get? b = none := by
  constructor
  · intro hm; obtain ⟨p, hp, e⟩ := List.mem_map.mp hm; exact (N p hp).2.1 e
  · intro b hm; obtain ⟨p, hp, rfl⟩ := List.mem_map.mp hm; exact (N p hp).2.2

theorem news_back {g g' h' : Heap} {L L' : Addr} {mu mu' news' : List (Addr × Obj)} (hW : L ∉ mu.map (·.1) ∧ ∀ b ∈ mu.map (·.1), g.get? b = none) (N' : News g' L' h' news')
    (ha : mu'.map (·.1) = mu.map (·.1)) (hs : ∀ p ∈ mu', p ∈ news') : News g L h' mu' := fun p hp => by
  have hm : p.1 ∈ mu.map (·.1) := ha ▸ List.mem_map_of_mem hp
  exact ⟨(N' p (hs p hp)).1, fun e => hW.1 (e ▸ hm), hW.2 _ hm⟩

theorem news_ret {g g' h h' : Heap} {L L' : Addr} {m : Str → Option Value} {mu news' : List (Addr × Obj)} (F : Fr g L h m) (N : News g L h mu) (G : GSub h g' (mu.map (·.1))) (N' : News g' L' h' news') : News g L h' news' := fun p hp => by
  have z := N' p hp
  by_cases hm : p.1 ∈ mu.map (·.1)
  · have hW := news_W N
    exact ⟨z.1, fun e => hW.1 (e ▸ hm), hW.2 _ hm⟩
  · have hn : h.get? p.1 = none := by
      cases q : h.get? p.1 with
      | none => rfl
      | some o => have := G _ _ q hm; rw [z.2.2] at this; cases this
    refine ⟨z.1, fun e => ?_, ?_⟩
    · obtain ⟨oL, _, _, hL, _⟩ := F.ns
      rw [e, hL] at hn; cases hn
    · cases q : g.get? p.1 with
      | none => rfl
      | some o => have := F.keep _ _ q; rw [hn] at this; cases this

section
variable {w : World} {mean : ExcName → Option Value} {mg mb : Str → Option Value} {A : Around} {base : Heap} {outer : List Env} {g : Heap} {env : Env} {L : Addr} {s : Shared} {m : Str → Option Value} {mu : List (Addr × Obj)} {R : Result → Shared → Prop}
  {name qual : Str} {params : Arguments} {body : List Stmt} {scope : Scope} {dV kV doc pm cdv ct oc : Value} {an od : Option Addr} {osl : Array (Option Value)} {f : Addr} {args : Args} {binds : List (Str × Value)}
/-- what the body's end owes -/
def EndB (g : Heap) (L : Addr) (m : Str → Option Value) (s : Shared) (mu : List (Addr × Obj)) (g' : Heap) (L' : Addr) (R : Result → Shared → Prop) (fl : Flow) (s' : Shared) : Prop :=
  ∃ m', Fr g' L' s'.heap m' ∧ (Fr g L s'.heap m → GSub s.heap s'.heap (mu.map (·.1)) → R (.ok (.ret (match fl with | .ret v => v | _ => .none))) s')

theorem Cx.call (C : Cx w mean mg mb A base outer g env L) (F : Fr g L s.heap m) (N : News g L s.heap mu)
    (ho : (hd.heap_39 w.params).lookup f = some ⟨oc, od, .func (fnOf name qual params body scope dV kV doc pm an cdv ct), osl⟩) (hcd : codeIn (hd.heap_39 w.params) cdv qual = true) (hroom : A.depth < recursionLimit)
    (hbind : BindsTo s (fnOf name qual params body scope dV kV doc pm an cdv ct) args binds) (hloc : ∀ y ∈ binds, scope.names.lookup y.1 = some .local)
    (h : ∀ g' L' h₁, Cx w mean mg mb (A.deeper (envOf qual scope L' f cdv)) base (env :: outer) g' (envOf qual scope L' f cdv) L' → Fr g' L' h₁ (fun y => binds.reverse.lookup y) → News g' L' h₁ mu → GSub s.heap g' (mu.map (·.1)) →
      wpAny (model PySem.Challenge.rw_pb0161_01.row.prog w) (A.deeper (envOf qual scope L' f cdv)) (execs body (envOf qual scope L' f cdv)) (EndB g L m s mu g' L' R) (fun _ _ => False) { s with heap := h₁, toks := s.toks + binds.length })
    (hco : scope.isCoroutine = false := by rfl) (hgen : scope.isGenerator = false := by rfl) (hk : scope.kind = .function := by rfl) (hcell : ∀ x ∈ scope.names, x.2 ≠ .cell := by decide) :
    codeAny (model PySem.Challenge.rw_pb0161_01.row.prog w) A (.call (.ref f) args) R s := by
  obtain ⟨A₀, B⟩ := C.B
  refine code_defG B F C.X N C.T C.hA C.hf C.hke ho hcd hroom hbind hloc (fun g' L' h₁ FG F' N' B' X' T' G => ?_) hco hgen hk hcell
  refine wpAny_mono (h g' L' h₁ ⟨⟨_, B'⟩, X', T', Around.frames_deeper B'.stack, rfl, hk, C.hh⟩ F' N' G) (fun fl s' hE => ?_) fun _ _ x => x.elim
  obtain ⟨m', F'', k⟩ := hE
  exact ⟨L', m', [], F'', News.nil, fun FL _ => k FL (gsub_of G F''.keep)⟩

theorem Cx.callC (C : Cx w mean mg mb A base outer g env L) (F : Fr g L s.heap m) (N : News g L s.heap mu)
    (ho : (hd.heap_39 w.params).lookup f = some ⟨oc, od, .func (fnOf name qual params body scope dV kV doc pm an cdv ct), osl⟩) (hcd : codeIn (hd.heap_39 w.params) cdv qual = true) (hroom : A.depth < recursionLimit)
    (hbind : BindsTo s (fnOf name qual params body scope dV kV doc pm an cdv ct) args binds) (hkind : (binds.all fun y => scope.names.lookup y.1 == some .local || scope.names.lookup y.1 == some .cell) = true)
    (hnd : ((cellsFrom 0 scope.names []).map (·.1)).Nodup)
    (h : ∀ g' L' h₁ tk cells, Cx w mean mg mb (A.deeper (envOfC qual scope L' f cdv)) base (env :: outer) g' (envOfC qual scope L' f cdv) L' → Fr g' L' h₁ (bindL (envOfC qual scope L' f cdv).kindOf binds fun _ => none) → News g' L' h₁ (cells ++ mu) →
      CellsAre (bindC (envOfC qual scope L' f cdv).kindOf binds fun _ => none) (cellsFrom (L' + 1) scope.names []) cells → (∀ p ∈ mu, p.1 < L') → GSub s.heap g' (mu.map (·.1)) →
      wpAny (model PySem.Challenge.rw_pb0161_01.row.prog w) (A.deeper (envOfC qual scope L' f cdv)) (execs body (envOfC qual scope L' f cdv)) (EndB g L m s mu g' L' R) (fun _ _ => False) { s with heap := h₁, toks := tk })
    (hco : scope.isCoroutine = false := by rfl) (hgen : scope.isGenerator = false := by rfl) (hk : scope.kind = .function := by rfl) :
    codeAny (model PySem.Challenge.rw_pb0161_01.row.prog w) A (.call (.ref f) args) R s := by
  obtain ⟨A₀, B⟩ := C.B
  obtain ⟨FG, BG, st, lv⟩ := groundX (R := R) B F N C.hA C.hf C.hke
  have G : GSub s.heap (hideAll s.heap (mu.map (·.1))) (mu.map (·.1)) := fun b o e n => hideAll_get _ e n
  have hns : ∀ b, s.heap.get? b = none → (hideAll s.heap (mu.map (·.1))).get? b = none := fun b hb => by
    cases q : (hideAll s.heap (mu.map (·.1))).get? b with
    | none => rfl
    | some o => have := of_hideAll _ q; rw [hb] at this; cases this
  refine codeAny_call_function hroom ((C.X.keeps F.keep) _ _ ho) rfl hco hgen rfl (codeRec_of (C.X.keeps F.keep) hcd) (hbind _ _ _ _ ?_)
  refine wpAny_newFunctionEnv_cells hk (kindsX hkind _) fun env' he s' x => ?_
  subst he
  refine ⟨(C.T.nolimit.keeps F.keep).keeps x.toInCall.keep, codeAny_func ?_⟩
  obtain ⟨h₁, tk, rfl, _⟩ := x.done
  have hk₁ := x.toInCall.keep
  obtain ⟨cells, NC, Y⟩ := Cl.news (h₀ := s.heap) (Nat.le_refl _) fun n c hm => ⟨x.cell n c (lookup_of_mem_nodup (cellsFrom_names scope.names 0 (s.heap.objs.size + 1) [] [] rfl ▸ hnd) hm), x.above n c hm⟩
  refine wpAny_mono (h (hideAll s.heap (mu.map (·.1))) s.heap.objs.size h₁ tk cells ⟨⟨_, BG⟩, Frag.In.keeps C.X (fun b o e => st b o e), Top.keeps C.T (fun b o e => st b o e), Around.frames_deeper BG.stack, rfl, hk, C.hh⟩
    ⟨x.toInCall.ns, fun b o e => hk₁ b o (of_hideAll _ e), Nat.le_of_eq (hideAll_size _ _)⟩ (fun p hp => ?_) Y (fun p hp => Heap.lt_size (N p hp).1) G) (fun fl s' hE => ?_) fun _ _ y => y.elim
  · rcases List.mem_append.mp hp with hp | hp
    · exact ⟨(NC p hp).1, (NC p hp).2.1, hns _ (NC p hp).2.2⟩
    · exact ⟨hk₁ _ _ (N p hp).1, Nat.ne_of_lt (Heap.lt_size (N p hp).1), hideAll_none _ (List.mem_map_of_mem hp)⟩
  · obtain ⟨m', F'', k⟩ := hE
    exact lv _ _ ⟨_, m', [], F'', News.nil, fun FL _ => k FL (gsub_of G F''.keep)⟩
end
end Mine
namespace Mine
/-- a goal at which the walk shall halt -/
def Stop (P : Prop) : Prop := P
theorem unstop {P : Prop} (h : Stop P) : P := h
theorem Stop.mk {P : Prop} (h : P) : Stop P := h
theorem fr_eq {g h : Heap} {L : Addr} {m m' : Str → Option Value} (F : Fr g L h m) (e : ∀ y, m y = m' y) : Fr g L h m' := (funext e : m = m') ▸ F
section
open LCg LCt
variable {prog : Program} {w : World} {A : Around} {E : Value → Shared → Prop} {s : Shared} {g : Heap} {L : Addr} {m : Str → Option Value} {env : Env}
theorem compEnd_mono {s₁ s₂ : Shared} {I C D : Addr} {oI oC oD : Obj} {S : List (Addr × Obj) → Prop} {rest rest' : Value → List (Addr × Obj) → Prop} {y : Value} (h : CompEnd g L m s₁ I oI C oC D oD S rest y s₂)
    (k : ∀ n, rest y n → rest' y n) : CompEnd g L m s₁ I oI C oC D oD S rest' y s₂ := by
  obtain ⟨h', tk, n, e, a, b, c, d, r⟩ := h
  exact ⟨h', tk, n, e, a, b, c, d, k _ r⟩
theorem compRest_inv {elt : Expr} {x : Str} {scope : Scope} {cl : List (Str × Addr)} {S : List (Addr × Obj) → Prop} {P : Nat → Value → Prop} {Fin : List Value → List (Addr × Obj) → Prop} (n : Nat) (J : Nat → List Value → List (Addr × Obj) → Prop)
    (step : ∀ i ys news, i < n → J i ys news → ∀ v I oI C oC D m₂ h tk (E' : Value → Shared → Prop), P i v → NsObj oC m₂ → m₂ x = some v → Fr g L h m → News g L h ((I, oI) :: (C, oC) :: (D, lst ys) :: news) → Off3 I C D news → ((@Ne Nat I C) ∧ (@Ne Nat I D) ∧ (@Ne Nat C D)) →
      wpAny (model prog w) A (eval elt (compEnvC scope cl C env)) (CompEnd g L m { s with heap := h, toks := tk } I oI C oC D (lst ys) S (fun y news' => J (i + 1) (ys ++ [y]) news')) E' { s with heap := h, toks := tk })
    (fin : ∀ ys news, J n ys news → Fin ys news) : ∀ k i ys news, i + k = n → J i ys news → CompRest prog w A g L m env elt x scope cl s S P Fin k i ys news := by
  intro k
  induction k with
  | zero => intro i ys news e j; obtain rfl : i = n := by omega
            exact fin _ _ j
  | succ k ih =>
    intro i ys news e j
    refine CompRest.succ fun v I oI C oC D m₂ h tk E' hP hC hx F N off ne => ?_
    exact wpAny_mono (step i ys news (by omega) j v I oI C oC D m₂ h tk E' hP hC hx F N off ne) (fun y s' q => compEnd_mono q fun n' r => ih (i + 1) _ _ (by omega) r) fun _ _ q => q
theorem compRestT_inv {ct elt : Expr} {x : Str} {scope : Scope} {cl : List (Str × Addr)} {S : List (Addr × Obj) → Prop} {P : Nat → Value → Prop} {Fin : List Value → List (Addr × Obj) → Prop} (n : Nat) (J : Nat → List Value → List (Addr × Obj) → Prop)
    (step : ∀ i ys news, i < n → J i ys news → ∀ v I oI C oC D m₂ h tk (E' : Value → Shared → Prop), P i v → NsObj oC m₂ → m₂ x = some v → Fr g L h m → News g L h ((I, oI) :: (C, oC) :: (D, lst ys) :: news) → Off3 I C D news → ((@Ne Nat I C) ∧ (@Ne Nat I D) ∧ (@Ne Nat C D)) →
      wpAny (model prog w) A (isTrue ct (compEnvC scope cl C env) (eval ct (compEnvC scope cl C env))) (fun ok s' => if ok = true then
        wpAny (model prog w) A (eval elt (compEnvC scope cl C env)) (CompEnd g L m { s with heap := h, toks := tk } I oI C oC D (lst ys) S (fun y news' => J (i + 1) (ys ++ [y]) news')) E' s'
        else CompEnd g L m { s with heap := h, toks := tk } I oI C oC D (lst ys) S (fun _ news' => J (i + 1) ys news') Value.none s') E' { s with heap := h, toks := tk })
    (fin : ∀ ys news, J n ys news → Fin ys news) : ∀ k i ys news, i + k = n → J i ys news → CompRestT prog w A g L m env ct elt x scope cl s S P Fin k i ys news := by
  intro k
  induction k with
  | zero => intro i ys news e j; obtain rfl : i = n := by omega
            exact fin _ _ j
  | succ k ih =>
    intro i ys news e j
    refine CompRestT.succ fun v I oI C oC D m₂ h tk E' hP hC hx F N off ne => ?_
    refine wpAny_mono (step i ys news (by omega) j v I oI C oC D m₂ h tk E' hP hC hx F N off ne) (fun ok s' q => ?_) fun _ _ q => q
    cases ok with
    | true =>
      simp only [if_true] at q ⊢
      exact wpAny_mono q (fun y s' q => compEnd_mono q fun n' r => ih (i + 1) _ _ (by omega) r) fun _ _ q => q
    | false =>
      simp only [Bool.false_eq_true, if_false] at q ⊢
      exact compEnd_mono q fun n' r => ih (i + 1) _ _ (by omega) r

/-- a for over a list's items, by an invariant -/
theorem loop_list {Q : Flow → Shared → Prop} {x : Str} {body : List Stmt} {ax : Addr} {its : Array Value} {news : List (Addr × Obj)} (hh : A.handled = none) (F : Fr g env.locals s.heap m) (N : News g env.locals s.heap news) (hl : s.heap.IsList ax its)
    (J : Nat → (Str → Option Value) → List (Addr × Obj) → Prop) (hJ : J 0 m news)
    (step : ∀ i v m₁ news₁ h tk own, i < its.size → its[i]? = some v → J i m₁ news₁ → (∀ p ∈ news₁, p.1 ≠ s.heap.objs.size) → (∀ p ∈ own, p.1 = s.heap.objs.size ∨ p.1 = ax) → h.IsList ax its → Fr g env.locals h (fun y => if y = x then some v else m₁ y) → News g env.locals h (own ++ news₁) →
      wpAny (model prog w) A (execs body env) (fun f s₂ => match f with
        | .ret v => Q (.ret v) s₂ | .brk => Q .next s₂
        | _ => ∃ h' tk' m₂ news₂, s₂ = { s with heap := h', toks := tk' } ∧ Fr g env.locals h' m₂ ∧ News g env.locals h' (own ++ news₂) ∧ (∀ p ∈ news₂, p.1 ≠ s.heap.objs.size) ∧ J (i + 1) m₂ news₂) E { s with heap := h, toks := tk })
    (done : ∀ h tk m' news', Fr g env.locals h m' → News g env.locals h news' → J its.size m' news' → Q .next { s with heap := h, toks := tk }) :
    wpAny (model prog w) A (pyIter (.ref ax)) (fun it s₂ => LoopAtV prog w A g env x body Q E it s₂) E s := by
  have hlt : ax < s.heap.objs.size := by obtain ⟨_, e, _⟩ := hl; exact Heap.lt_size e
  refine wpAny_pyIter_list hl ?_
  have up : ∀ b o, s.heap.get? b = some o → (s.heap.push { cls := .type "list_iterator", data := .fields #[.ref ax, .int 0 0] }).get? b = some o := fun b o e => Heap.get?_push_of_some _ e
  refine ⟨s.heap.objs.size, [s.heap.objs.size, ax], [s.heap.objs.size], its.size, _, _, m, news, J, rfl, Walks.list hh s.heap.objs.size ax (Nat.ne_of_lt hlt) its, ?_, ?_, ?_, ⟨⟨_, Heap.get?_push_size _ rfl, rfl, rfl⟩, hl.push _⟩, F.keeps up, N.grown up, hJ, ?_, ?_⟩
  · intro hm
    have hL := F.ns.lt
    rcases List.mem_cons.mp hm with e | hm
    · exact absurd hL (by rw [e]; exact Nat.lt_irrefl _)
    · obtain ⟨o1, e1, c1, n1, d1⟩ := hl
      obtain ⟨o2, es, ep, e2, d2, _⟩ := F.ns
      rw [List.mem_singleton.mp hm, e1] at e2
      cases e2
      rw [d1] at d2; cases d2
  · intro b hb; rw [List.mem_singleton.mp hb]; exact next_is_new F
  · intro p hp hm; exact Nat.ne_of_lt (Heap.lt_size (N p hp).1) (List.mem_singleton.mp hm)
  · rintro i v m₁ news₁ s₁ own ⟨h, tk, rfl⟩ hi hP hJi hoff hown _ _ hst F₁ N₁
    refine wpAny_mono (step i v m₁ news₁ h tk own hi hP hJi (fun p hp e => hoff p hp (List.mem_singleton.mpr e)) (fun p hp => ?_) hst.2 F₁ N₁) (fun f s₂ q => ?_) fun _ _ q => q
    · rcases List.mem_cons.mp (hown p hp) with e | e
      · exact .inl e
      · exact .inr (List.mem_singleton.mp e)
    · have conv : (∃ h' tk' m₂ news₂, s₂ = { s with heap := h', toks := tk' } ∧ Fr g env.locals h' m₂ ∧ News g env.locals h' (own ++ news₂) ∧ (∀ p ∈ news₂, p.1 ≠ s.heap.objs.size) ∧ J (i + 1) m₂ news₂) →
          LoopStepU g env.locals [s.heap.objs.size] own (J (i + 1)) { s with heap := h, toks := tk } .next s₂ := by
        rintro ⟨h', tk', m₂, news₂, e, F', N', o', j'⟩
        exact ⟨rfl, h', tk', m₂, news₂, e, F', N', fun p hp hm => o' p hp (List.mem_singleton.mp hm), j'⟩
      cases f with
      | ret v => exact q
      | brk => exact q
      | cont => exact conv q
      | next => exact conv q
  · intro h' tk m' news' F' N' _ j
    exact done h' tk m' news' F' N' j
/-- a for over a range, by an invariant -/
theorem loop_range {Q : Flow → Shared → Prop} {x : Str} {body : List Stmt} {r : Addr} {a b : Int} {t u v : Tok} {n : Nat} {news : List (Addr × Obj)} (hh : A.handled = none) (F : Fr g env.locals s.heap m) (N : News g env.locals s.heap news) (hr : IsRange s.heap r a b 1 t u v)
    (hsm : Builtin.Range.small a b 1 = true) (hn : Builtin.Range.rangeSize a b 1 = ((n : Nat) : Int))
    (J : Nat → (Str → Option Value) → List (Addr × Obj) → Prop) (hJ : J 0 m news)
    (step : ∀ i t m₁ news₁ h tk own, i < n → J i m₁ news₁ → (∀ p ∈ news₁, p.1 ≠ s.heap.objs.size) → (∀ p ∈ own, p.1 = s.heap.objs.size) → Fr g env.locals h (fun y => if y = x then some (.int (a + (i : Int)) t) else m₁ y) → News g env.locals h (own ++ news₁) →
      wpAny (model prog w) A (execs body env) (fun f s₂ => match f with
        | .ret v => Q (.ret v) s₂ | .brk => Q .next s₂
        | _ => ∃ h' tk' m₂ news₂, s₂ = { s with heap := h', toks := tk' } ∧ Fr g env.locals h' m₂ ∧ News g env.locals h' (own ++ news₂) ∧ (∀ p ∈ news₂, p.1 ≠ s.heap.objs.size) ∧ J (i + 1) m₂ news₂) E { s with heap := h, toks := tk })
    (done : ∀ h tk m' news', Fr g env.locals h m' → News g env.locals h news' → J n m' news' → Q .next { s with heap := h, toks := tk }) :
    wpAny (model prog w) A (pyIter (.ref r)) (fun it s₂ => LoopAtV prog w A g env x body Q E it s₂) E s := by
  refine wpAny_pyIter_range hr hsm ?_
  refine ⟨s.heap.objs.size, [s.heap.objs.size], [s.heap.objs.size], n, _, _, m, news, J, rfl, LCg.range_walks hh a n, ?_, ?_, ?_, by show IsRangeIter _ _ _ _ _; rw [hn]; simpa using Heap.get?_push_size _ rfl, F.keeps fun _ _ e => Heap.get?_push_of_some _ e, N.grown fun _ _ e => Heap.get?_push_of_some _ e, hJ, ?_, ?_⟩
  · intro hm
    exact absurd F.ns.lt ((List.mem_singleton.mp hm) ▸ Nat.lt_irrefl _)
  · intro b hb; rw [List.mem_singleton.mp hb]; exact next_is_new F
  · intro p hp hm; exact Nat.ne_of_lt (Heap.lt_size (N p hp).1) (List.mem_singleton.mp hm)
  · rintro i v m₁ news₁ s₁ own ⟨h, tk, rfl⟩ hi ⟨t', rfl⟩ hJi hoff hown _ _ _ F₁ N₁
    refine wpAny_mono (step i t' m₁ news₁ h tk own hi hJi (fun p hp e => hoff p hp (List.mem_singleton.mpr e)) (fun p hp => List.mem_singleton.mp (hown p hp)) F₁ N₁) (fun f s₂ q => ?_) fun _ _ q => q
    have conv : (∃ h' tk' m₂ news₂, s₂ = { s with heap := h', toks := tk' } ∧ Fr g env.locals h' m₂ ∧ News g env.locals h' (own ++ news₂) ∧ (∀ p ∈ news₂, p.1 ≠ s.heap.objs.size) ∧ J (i + 1) m₂ news₂) →
          LoopStepU g env.locals [s.heap.objs.size] own (J (i + 1)) { s with heap := h, toks := tk } .next s₂ := by
        rintro ⟨h', tk', m₂, news₂, e, F', N', o', j'⟩
        exact ⟨rfl, h', tk', m₂, news₂, e, F', N', fun p hp hm => o' p hp (List.mem_singleton.mp hm), j'⟩
    cases f with
    | ret v => exact q
    | brk => exact q
    | cont => exact conv q
    | next => exact conv q
  · intro h' tk m' news' F' N' _ j
    exact done h' tk m' news' F' N' j
theorem pick_m {x : Str} {stored : List Str} {v : Option Value} {m₁ m : Str → Option Value} (h : ∀ y, y ≠ x → stored.contains y = false → m₁ y = m y) :
    ∀ y, (if y = x then v else m₁ y) = if y = x then v else if stored.contains y then m₁ y else m y := by
  intro y
  by_cases h1 : y = x
  · simp [h1]
  · simp only [if_neg h1]
    cases h2 : stored.contains y with
    | true => simp
    | false => simp only [Bool.false_eq_true, if_false]; exact h y h1 h2
theorem pick_m' {x : Str} {stored : List Str} {m₁ m : Str → Option Value} (h : ∀ y, y ≠ x → stored.contains y = false → m₁ y = m y) :
    ∀ y, m₁ y = if y = x then m₁ y else if stored.contains y then m₁ y else m y := by
  intro y
  by_cases h1 : y = x
  · simp [h1]
  · simp only [if_neg h1]
    cases h2 : stored.contains y with
    | true => simp
    | false => simp only [Bool.false_eq_true, if_false]; exact h y h1 h2
/-- the turn's end -/
def TurnE (s : Shared) (g : Heap) (L I : Addr) (own : List (Addr × Obj)) (x : Str) (stored : List Str) (m : Str → Option Value) (J : (Str → Option Value) → List (Addr × Obj) → Prop) (Q : Flow → Shared → Prop) (f : Flow) (s₂ : Shared) : Prop :=
  match f with
  | .ret v => Q (.ret v) s₂
  | .brk => Q .next s₂
  | _ => ∃ h' tk' m₂ news₂, s₂ = { s with heap := h', toks := tk' } ∧ Fr g L h' m₂ ∧ News g L h' (own ++ news₂) ∧ (∀ p ∈ news₂, p.1 ≠ I) ∧ (∀ y, y ≠ x → stored.contains y = false → m₂ y = m y) ∧ J m₂ news₂
theorem loop_listM {Q : Flow → Shared → Prop} {x : Str} {body : List Stmt} {ax : Addr} {its : Array Value} {news : List (Addr × Obj)} (stored : List Str) (hh : A.handled = none) (F : Fr g env.locals s.heap m) (N : News g env.locals s.heap news) (hl : s.heap.IsList ax its)
    (J : Nat → (Str → Option Value) → List (Addr × Obj) → Prop) (hJ : J 0 m news)
    (step : ∀ i v u news₁ h tk own, i < its.size → its[i]? = some v → J i u news₁ → (∀ p ∈ news₁, p.1 ≠ s.heap.objs.size) → (∀ p ∈ own, p.1 = s.heap.objs.size ∨ p.1 = ax) → h.IsList ax its → Fr g env.locals h (fun y => if y = x then some v else if stored.contains y then u y else m y) → News g env.locals h (own ++ news₁) →
      wpAny (model prog w) A (execs body env) (TurnE s g env.locals s.heap.objs.size own x stored m (J (i + 1)) Q) E { s with heap := h, toks := tk })
    (done : ∀ h tk u news', Fr g env.locals h (fun y => if y = x then u y else if stored.contains y then u y else m y) → News g env.locals h news' → J its.size u news' → Q .next { s with heap := h, toks := tk }) :
    wpAny (model prog w) A (pyIter (.ref ax)) (fun it s₂ => LoopAtV prog w A g env x body Q E it s₂) E s := by
  refine loop_list hh F N hl (fun i m₁ news₁ => (∀ y, y ≠ x → stored.contains y = false → m₁ y = m y) ∧ J i m₁ news₁) ⟨fun _ _ _ => rfl, hJ⟩ ?_ ?_
  · rintro i v m₁ news₁ h tk own hi hv ⟨hm, j⟩ ho hown hl' F' N'
    refine wpAny_mono (step i v m₁ news₁ h tk own hi hv j ho hown hl' (fr_eq F' (pick_m hm)) N') (fun f s₂ q => ?_) fun _ _ q => q
    cases f <;> exact q
  · rintro h tk m' news' F' N' ⟨hm, j⟩
    exact done h tk m' news' (fr_eq F' (pick_m' hm)) N' j
theorem loop_rangeM {Q : Flow → Shared → Prop} {x : Str} {body : List Stmt} {r : Addr} {a b : Int} {t u v : Tok} {n : Nat} {news : List (Addr × Obj)} (stored : List Str) (hh : A.handled = none) (F : Fr g env.locals s.heap m) (N : News g env.locals s.heap news) (hr : IsRange s.heap r a b 1 t u v)
    (hsm : Builtin.Range.small a b 1 = true) (hn : Builtin.Range.rangeSize a b 1 = ((n : Nat) : Int))
    (J : Nat → (Str → Option Value) → List (Addr × Obj) → Prop) (hJ : J 0 m news)
    (step : ∀ i t u news₁ h tk own, i < n → J i u news₁ → (∀ p ∈ news₁, p.1 ≠ s.heap.objs.size) → (∀ p ∈ own, p.1 = s.heap.objs.size) → Fr g env.locals h (fun y => if y = x then some (.int (a + (i : Int)) t) else if stored.contains y then u y else m y) → News g env.locals h (own ++ news₁) →
      wpAny (model prog w) A (execs body env) (TurnE s g env.locals s.heap.objs.size own x stored m (J (i + 1)) Q) E { s with heap := h, toks := tk })
    (done : ∀ h tk u news', Fr g env.locals h (fun y => if y = x then u y else if stored.contains y then u y else m y) → News g env.locals h news' → J n u news' → Q .next { s with heap := h, toks := tk }) :
    wpAny (model prog w) A (pyIter (.ref r)) (fun it s₂ => LoopAtV prog w A g env x body Q E it s₂) E s := by
  refine loop_range hh F N hr hsm hn (fun i m₁ news₁ => (∀ y, y ≠ x → stored.contains y = false → m₁ y = m y) ∧ J i m₁ news₁) ⟨fun _ _ _ => rfl, hJ⟩ ?_ ?_
  · rintro i t m₁ news₁ h tk own hi ⟨hm, j⟩ ho hown F' N'
    refine wpAny_mono (step i t m₁ news₁ h tk own hi j ho hown (fr_eq F' (pick_m hm)) N') (fun f s₂ q => ?_) fun _ _ q => q
    cases f <;> exact q
  · rintro h tk m' news' F' N' ⟨hm, j⟩
    exact done h tk m' news' (fr_eq F' (pick_m' hm)) N' j
end
end Mine
namespace Mine
section
open LCg LCt
variable {prog : Program} {w : World} {A : Around} {E : Value → Shared → Prop} {s : Shared} {g : Heap} {L : Addr} {m : Str → Option Value} {env : Env}
/-- the turn's end, a tuple for a target -/
def TurnT (s : Shared) (g : Heap) (L I : Addr) (own : List (Addr × Obj)) (stored : List Str) (m : Str → Option Value) (J : List (Addr × Obj) → Prop) (f : Flow) (s₂ : Shared) : Prop :=
  f = .next ∧ ∃ h' tk' m₂ news₂, s₂ = { s with heap := h', toks := tk' } ∧ Fr g L h' m₂ ∧ News g L h' (own ++ news₂) ∧ (∀ p ∈ news₂, p.1 ≠ I) ∧ (∀ y, stored.contains y = false → m₂ y = m y) ∧ J news₂
theorem loop_listT {Q : Flow → Shared → Prop} {target : Expr} {body : List Stmt} {ax : Addr} {its : Array Value} {news : List (Addr × Obj)} (stored : List Str) (hh : A.handled = none) (F : Fr g env.locals s.heap m) (N : News g env.locals s.heap news) (hl : s.heap.IsList ax its)
    (J : Nat → List (Addr × Obj) → Prop) (hJ : J 0 news)
    (step : ∀ i v (u : Str → Option Value) news₁ (s₁ : Shared) own, i < its.size → its[i]? = some v → J i news₁ → (∀ p ∈ news₁, p.1 ≠ s.heap.objs.size) → (∀ p ∈ own, p.1 = s.heap.objs.size ∨ p.1 = ax) → s₁.heap.IsList ax its → Fr g env.locals s₁.heap (fun y => if stored.contains y then u y else m y) → News g env.locals s₁.heap (own ++ news₁) →
      wpAny (model prog w) A (assign target env v) (fun _ s₃ => wpAny (model prog w) A (execs body env) (TurnT s₁ g env.locals s.heap.objs.size own stored m (J (i + 1))) E s₃) E s₁)
    (done : ∀ h tk (u : Str → Option Value) news', Fr g env.locals h (fun y => if stored.contains y then u y else m y) → News g env.locals h news' → J its.size news' → Q .next { s with heap := h, toks := tk }) :
    wpAny (model prog w) A (pyIter (.ref ax)) (fun it s₂ => LoopAtT prog w A g env target body Q E it s₂) E s := by
  have hlt : ax < s.heap.objs.size := by obtain ⟨_, e, _⟩ := hl; exact Heap.lt_size e
  have pm : ∀ m₁ : Str → Option Value, (∀ y, stored.contains y = false → m₁ y = m y) → ∀ y, m₁ y = if stored.contains y then m₁ y else m y := by
    intro m₁ hm y
    cases h2 : stored.contains y with
    | true => simp
    | false => simp only [Bool.false_eq_true, if_false]; exact hm y h2
  refine wpAny_pyIter_list hl ?_
  have up : ∀ b o, s.heap.get? b = some o → (s.heap.push { cls := .type "list_iterator", data := .fields #[.ref ax, .int 0 0] }).get? b = some o := fun b o e => Heap.get?_push_of_some _ e
  refine ⟨s.heap.objs.size, [s.heap.objs.size, ax], [s.heap.objs.size], its.size, _, _, m, news, fun i m₁ n₁ => (∀ y, stored.contains y = false → m₁ y = m y) ∧ J i n₁, rfl, Walks.list hh s.heap.objs.size ax (Nat.ne_of_lt hlt) its, ?_, ?_, ?_, ⟨⟨_, Heap.get?_push_size _ rfl, rfl, rfl⟩, hl.push _⟩, F.keeps up, N.grown up, fun i s' v Q' st hQ' => letGo_listiter st.1 hQ', ⟨fun _ _ => rfl, hJ⟩, ?_, ?_⟩
  · intro hm
    have hL := F.ns.lt
    rcases List.mem_cons.mp hm with e | hm
    · exact absurd hL (by rw [e]; exact Nat.lt_irrefl _)
    · obtain ⟨o1, e1, c1, n1, d1⟩ := hl
      obtain ⟨o2, es, ep, e2, d2, _⟩ := F.ns
      rw [List.mem_singleton.mp hm, e1] at e2
      cases e2
      rw [d1] at d2; cases d2
  · intro b hb; rw [List.mem_singleton.mp hb]; exact next_is_new F
  · intro p hp hm; exact Nat.ne_of_lt (Heap.lt_size (N p hp).1) (List.mem_singleton.mp hm)
  · rintro i v m₁ news₁ s₁ own hi hP ⟨hm, hJi⟩ hoff hown _ _ hst F₁ N₁
    refine wpAny_mono (step i v m₁ news₁ s₁ own hi hP hJi (fun p hp e => hoff p hp (List.mem_singleton.mpr e)) (fun p hp => ?_) hst.2 (fr_eq F₁ (pm _ hm)) N₁) (fun _ s₃ q => ?_) fun _ _ q => q
    · rcases List.mem_cons.mp (hown p hp) with e | e
      · exact .inl e
      · exact .inr (List.mem_singleton.mp e)
    · refine wpAny_mono q (fun f s₂ q => ?_) fun _ _ q => q
      obtain ⟨rfl, h', tk', m₂, news₂, e, F', N', o', hm', j'⟩ := q
      exact ⟨rfl, h', tk', m₂, news₂, e, F', N', fun p hp hm => o' p hp (List.mem_singleton.mp hm), hm', j'⟩
  · intro h' tk m' news' F' N' _ ⟨hm, j⟩
    exact done h' tk m' news' (fr_eq F' (pm _ hm)) N' j
end
end Mine
namespace Mine
local macro_rules | `(tactic| units_room) => `(tactic| ((try simp only [units_deeper, units_in1]); (have hcL := cLine_is); omega))
def PenObjs (cells : Addr) (op oc : Obj) : Prop := ∃ (p c : Int) (t1 t2 : Tok) (n1 : Nat) (xs : List Value) (ns : List Int) (n2 : Nat), op = W.listOf #[.ref cells, .int p t1, .int c t2] n1 ∧ oc = W.listOf xs.toArray n2 ∧ IntsAre xs ns ∧ ns.length ≤ 63
theorem pen_ne {g h : Heap} {L : Addr} {pen cells : Addr} {op oc : Obj} (N : News g L h [(pen, op), (cells, oc)]) (P : PenObjs cells op oc) : @Ne Nat pen cells := by
  obtain ⟨p, c, t1, t2, n1, xs, ns, n2, rfl, rfl, hx, _⟩ := P
  intro e
  have e' : pen = cells := e
  have h1 := (N _ (.head _)).1
  have h2 := (N _ (.tail _ (.head _))).1
  dsimp only at h1 h2
  rw [e', h2] at h1
  have h3 : xs.toArray = #[.ref cells, .int p t1, .int c t2] := by injection h1 with h1; injection h1 with _ _ h1; injection h1
  have h4 : xs = [.ref cells, .int p t1, .int c t2] := by simpa using congrArg Array.toList h3
  subst h4
  cases hx
theorem pop0 {prog : Program} {w : World} {A : Around} {E : Value → Shared → Prop} {s : Shared} {h₀ : Heap} {L D : Addr} {m : Str → Option Value} {news news' : List (Addr × Obj)} {n : Nat} {v : Value} {xs : List Value} {u : Tok} {Q : Value → Shared → Prop}
    (F : Fr h₀ L s.heap m) (N : News h₀ L s.heap news) (U : Upd D (W.listOf (v :: xs).toArray n) (W.listOf xs.toArray (n + 1)) news news') (hz : xs.length ≤ 100)
    (h : ∀ h', Fr h₀ L h' m → News h₀ L h' news' → Q v { s with heap := h' }) : wpAny (model prog w) A (call (.builtin "list.pop") [.ref D, .int 0 u]) Q E s :=
  kl_popAt (p := []) (q := xs) (y := v) (k := 0) F N (by decide +kernel) (by unfold seqIndex?; simp) (by simp [kl_cut]) U (by rw [sizeLine_eq]; simp; omega) h
local macro_rules | `(tactic| walk_at "call builtin:list.pop") => `(tactic| (k_here; k_dflt (refine' pop0 ?F ?N ?U ?z ?_; (case F => k_asm); (case N => k_asm); (case U => k_upd); (case z => omega)); intro h' F' N'; (try dsimp only [List.nil_append, List.cons_append] at N')))
section
variable {w : World} {mean : ExcName → Option Value} {mg mb : Str → Option Value} {A : Around} {base : Heap} {outer : List Env} {g : Heap} {env : Env} {L : Addr} {s : Shared} {m : Str → Option Value} {E : Value → Shared → Prop} {Q : Value → Shared → Prop}
set_option maxRecDepth 100000 in
set_option maxHeartbeats 8000000 in
theorem draw_call {pen cells : Addr} {op oc : Obj} {k : Int} {t3 : Tok} (C : Cx w mean mg mb A base outer g env L) (F : Fr g L s.heap m) (N : News g L s.heap [(pen, op), (cells, oc)]) (P : PenObjs cells op oc)
    (hdep : A.depth ≤ 500) (hun : A.units ≤ 2000) (h1 : 0 < k) (h2 : k ≤ 10)
    (h : ∀ d t h' tk op' oc', 0 ≤ d → d < k → PenObjs cells op' oc' → News g L h' [(pen, op'), (cells, oc')] → Fr g L h' m → GSub s.heap h' [pen, cells] → Q (.int d t) { s with heap := h', toks := tk }) :
    wpAny (model PySem.Challenge.rw_pb0161_01.row.prog w) A (call (.ref 136) [.ref pen, .int k t3]) Q E s := by
  have hne := pen_ne N P
  have X₀ := C.X
  revert X₀; k_fill; intro X₀
  refine wpAny_call ?_
  refine' Cx.call C F N ?ho ?hcd ?hroom ?hbind ?hloc ?_ ?c2 ?c3 ?c4 ?c5
  case ho => k_is
  case hcd => k_is
  case hroom => show A.depth < 1000; omega
  case hbind => exact BindsTo.of_eq rfl
  case hloc => exact locs rfl
  case c2 => exact rfl
  case c3 => exact rfl
  case c4 => exact rfl
  case c5 => decide
  intro g' L' h₁ C' F' N' G'
  dsimp only
  have hW := news_W N
  obtain ⟨p, c, t1, t2, n1, xs, ns, n2, rfl, rfl, hx, hlen⟩ := P
  have X' := C'.X
  have T' := C'.T
  have hh' := C'.hh
  clear C C' F N X₀
  have fin : ∀ (x : Int) (tx : Tok) (m' : Str → Option Value) (h' : Heap) (tk : Nat) (news' : List (Addr × Obj)) (op' oc' : Obj), 0 ≤ x → x < k → PenObjs cells op' oc' → Fr g' L' h' m' → News g' L' h' news' → (pen, op') ∈ news' → (cells, oc') ∈ news' →
      EndB g L m s [(pen, W.listOf #[.ref cells, .int p t1, .int c t2] n1), (cells, W.listOf xs.toArray n2)] g' L' (fun r s' => match r with | .ok (.ret v) => Q v s' | .ok _ => False | .error e => E e s') (.ret (.int x tx)) { s with heap := h', toks := tk } := by
    intro x tx m' h' tk news' op' oc' hx0 hx1 P' F' N' hs1 hs2
    exact ⟨m', F', fun FL G => h x tx h' tk op' oc' hx0 hx1 P' (news_back hW N' rfl (List.forall_mem_cons.mpr ⟨hs1, List.forall_mem_cons.mpr ⟨hs2, List.forall_mem_nil _⟩⟩)) FL G⟩
  cases hx with
  | nil =>
    k_unmd
    k_fold
    k_steps
    all_goals (dsimp only)
    all_goals ((rename Fr _ _ _ _ => F9); (rename News _ _ _ _ => N9); k_unfold; refine' fin _ _ _ _ _ _ _ _ (fmod_lo _ h1) (fmod_hi _ h1) ?_ F9 N9 ?_ ?_; (any_goals k_mem); exact ⟨_, _, _, _, _, _, _, _, rfl, rfl, .nil, by simp⟩)
  | cons v1 t1' hx' =>
    rw [List.length_cons] at hlen
    have hxl := hx'.length
    k_unmd
    k_fold
    k_steps
    all_goals (dsimp only)
    all_goals ((rename Fr _ _ _ _ => F9); (rename News _ _ _ _ => N9); k_unfold; refine' fin _ _ _ _ _ _ _ _ (fmod_lo _ h1) (fmod_hi _ h1) ?_ F9 N9 ?_ ?_; (any_goals k_mem); first
      | exact ⟨_, _, _, _, _, _, _, _, rfl, rfl, .cons _ _ hx', by rw [List.length_cons]; omega⟩
      | exact ⟨_, _, _, _, _, _, _, _, rfl, rfl, hx', by omega⟩)
end
end Mine
namespace Mine
local macro_rules | `(tactic| units_room) => `(tactic| ((try simp only [units_deeper, units_in1]); (have hcL := cLine_is); omega))
local macro_rules | `(tactic| walk_at "eval ListComp") => `(tactic| (k_here; k_dflt (first | (refine LCg.ListComp_U (F₀ := by k_asm) (by with_unfolding_all rfl) (by decide) (by rfl) (by decide) (by rfl) ?_) | (refine LCt.ListComp_T (F₀ := by k_asm) (by with_unfolding_all rfl) (by decide) (by rfl) (by decide) (by rfl) ?_))))
local macro_rules | `(tactic| walk_at "CompSrc") => `(tactic| refine unstop ?_)
local macro_rules | `(tactic| walk_at "CompSrcT") => `(tactic| refine unstop ?_)
local macro_rules | `(tactic| walk_at "pyIter ref") => `(tactic| refine unstop ?_)
local macro_rules | `(tactic| walk_at "call ref") => `(tactic| refine unstop ?_)
local macro_rules | `(tactic| walk_at "CompEnd") => `(tactic| refine unstop ?_)
section
variable {w : World} {mean : ExcName → Option Value} {mg mb : Str → Option Value} {A : Around} {base : Heap} {outer : List Env} {g : Heap} {env : Env} {L : Addr} {s : Shared} {m : Str → Option Value} {E : Value → Shared → Prop} {Q : Value → Shared → Prop}
set_option maxRecDepth 100000 in
set_option maxHeartbeats 8000000 in
theorem pen_call {script : Addr} {vs : List Value} {ns : List Int} (C : Cx w mean mg mb A base outer g env L) (F : Fr g L s.heap m) (hl : g.IsList script vs.toArray) (hi : IntsAre vs ns) (hn : ns.length ≤ 63)
    (hdep : A.depth ≤ 500) (hun : A.units ≤ 2000)
    (h : ∀ pen cells h' tk op oc, PenObjs cells op oc → News g L h' [(pen, op), (cells, oc)] → Fr g L h' m → GSub s.heap h' [] → Q (.ref pen) { s with heap := h', toks := tk }) :
    wpAny (model PySem.Challenge.rw_pb0161_01.row.prog w) A (call (.ref 129) [.ref script]) Q E s := by
  have X₀ := C.X
  revert X₀; k_fill; intro X₀
  refine wpAny_call ?_
  have N : News g L s.heap [] := News.nil
  refine' Cx.call C F N ?ho ?hcd ?hroom ?hbind ?hloc ?_ ?c2 ?c3 ?c4 ?c5
  case ho => k_is
  case hcd => k_is
  case hroom => show A.depth < 1000; omega
  case hbind => exact BindsTo.of_eq rfl
  case hloc => exact locs rfl
  case c2 => exact rfl
  case c3 => exact rfl
  case c4 => exact rfl
  case c5 => decide
  intro g' L' h₁ C' F' N' G'
  dsimp only
  have hl1 : g'.IsList script vs.toArray := by obtain ⟨o, e, r⟩ := hl; exact ⟨o, G' _ _ (F.keep _ _ e) (by simp), r⟩
  have fin : ∀ (pen cells : Addr) (m' : Str → Option Value) (h' : Heap) (tk : Nat) (news' : List (Addr × Obj)) (op oc : Obj), PenObjs cells op oc → Fr g' L' h' m' → News g' L' h' news' → (pen, op) ∈ news' → (cells, oc) ∈ news' →
      EndB g L m s [] g' L' (fun r s' => match r with | .ok (.ret v) => Q v s' | .ok _ => False | .error e => E e s') (.ret (.ref pen)) { s with heap := h', toks := tk } := by
    intro pen cells m' h' tk news' op oc P' F' N' hs1 hs2
    exact ⟨m', F', fun FL G => h pen cells h' tk op oc P' (fun p hp => news_ret F N G' N' p ((List.forall_mem_cons.mpr ⟨hs1, List.forall_mem_cons.mpr ⟨hs2, List.forall_mem_nil _⟩⟩) p hp)) FL G⟩
  have X' := C'.X
  have T' := C'.T
  have hh' := C'.hh
  clear C C' N X₀ hl h
  clear F
  k_unmd
  k_fold
  k_steps
  rename Fr _ _ _ _ => F1
  rename News _ _ _ _ => N1
  rename IntsAre _ (List.take 63 ns) => hI1
  rename Addr => D1
  rename List Value => ws1
  have hlen1 := hI1.length
  have hlen2 : (List.take 63 ns).length ≤ 63 := by rw [List.length_take]; omega
  refine Stop.mk (LCg.CompSrc.ledger hh' F1 N1 (by k_mem) (by rw [sizeLine_eq, List.size_toArray]; omega) (fun g0 => compRest_inv _ (fun i ys news => (∃ ms : List Int, IntsAre ys ms ∧ ms.length = i) ∧ news = [(D1, W.listOf ws1.toArray 0)]) ?_ ?_ _ 0 [] _ (Nat.zero_add _) ⟨⟨[], .nil, rfl⟩, rfl⟩))
  · rintro i ys news hi ⟨⟨ms, hms, hml⟩, rfl⟩ v I oI C oC D m₂ h tk E' hv hC hx F N off ne
    clear F1 N1
    rw [List.size_toArray] at hi
    obtain ⟨t, hx'⟩ := hI1.get i _ (List.getElem?_eq_getElem (by omega))
    have hv' : v = .int ((List.take 63 ns)[i]'(by omega)) t := by rw [show (ws1.toArray[i]? = some v) = (ws1[i]? = some v) by simp, hx'] at hv; exact (Option.some.inj hv).symm
    subst hv'
    k_unmd
    k_fold
    k_steps
    all_goals (try dsimp only)
    rename Fr _ _ _ _ => F9
    rename News _ _ _ _ => N9
    have hs' : LCg.SrcAt g' D1 ws1.toArray [(D1, W.listOf ws1.toArray 0)] := Or.inr ⟨_, List.Mem.head _, rfl, _, rfl⟩
    exact Stop.mk (LCg.CompEnd.intro F9 N9 [(D1, W.listOf ws1.toArray 0)] (by lcg_sub) off hs' ⟨⟨ms ++ [_], hms.append (.cons _ _ .nil), by rw [List.length_append, hml]; rfl⟩, rfl⟩)
  · rintro ys news ⟨⟨ms, hms, hml⟩, rfl⟩ D h tk F N o1
    clear F1 N1
    rw [List.size_toArray] at hml
    k_unmd
    k_fold
    k_steps
    all_goals (try dsimp only)
    all_goals ((rename Fr _ _ _ _ => F9); (rename News _ _ _ _ => N9); (try k_unmd); (try k_unfold); (try k_unmd); (try k_unfold); refine' fin _ D _ _ _ _ _ _ ?_ F9 N9 ?_ ?_; (any_goals k_mem); exact ⟨_, _, _, _, _, _, _, _, rfl, rfl, hms, by omega⟩)
end
end Mine
namespace Mine
local macro_rules | `(tactic| units_room) => `(tactic| ((try simp only [units_deeper, units_in1]); (have hcL := cLine_is); omega))
local macro_rules | `(tactic| walk_at "eval ListComp") => `(tactic| (k_here; k_dflt (first | (refine LCg.ListComp_U (F₀ := by k_asm) (by with_unfolding_all rfl) (by decide) (by rfl) (by decide) (by rfl) ?_) | (refine LCt.ListComp_T (F₀ := by k_asm) (by with_unfolding_all rfl) (by decide) (by rfl) (by decide) (by rfl) ?_))))
local macro_rules | `(tactic| walk_at "CompSrc") => `(tactic| refine unstop ?_)
local macro_rules | `(tactic| walk_at "CompSrcT") => `(tactic| refine unstop ?_)
local macro_rules | `(tactic| walk_at "pyIter ref") => `(tactic| refine unstop ?_)
local macro_rules | `(tactic| walk_at "call ref") => `(tactic| refine unstop ?_)
local macro_rules | `(tactic| walk_at "CompEnd") => `(tactic| refine unstop ?_)
section
variable {w : World} {mean : ExcName → Option Value} {mg mb : Str → Option Value} {A : Around} {base : Heap} {outer : List Env} {g : Heap} {env : Env} {L : Addr} {s : Shared} {m : Str → Option Value} {E : Value → Shared → Prop} {Q : Value → Shared → Prop}
set_option maxRecDepth 100000 in
set_option maxHeartbeats 8000000 in
theorem pick_call {pen cells sm : Addr} {op oc : Obj} {vs : List Value} (C : Cx w mean mg mb A base outer g env L) (F : Fr g L s.heap m) (N : News g L s.heap [(pen, op), (cells, oc)]) (P : PenObjs cells op oc)
    (hs : s.heap.IsList sm vs.toArray) (hi : IntsAre vs [1, 0, 2, 1]) (ne1 : @Ne Nat sm pen) (ne2 : @Ne Nat sm cells) (hdep : A.depth ≤ 400) (hun : A.units ≤ 1900)
    (h : ∀ d t h' tk op' oc', 0 ≤ d → d < 3 → PenObjs cells op' oc' → News g L h' [(pen, op'), (cells, oc')] → Fr g L h' m → GSub s.heap h' [pen, cells] → Q (.int d t) { s with heap := h', toks := tk }) :
    wpAny (model PySem.Challenge.rw_pb0161_01.row.prog w) A (call (.ref 143) [.ref pen, .ref sm]) Q E s := by
  have X₀ := C.X
  revert X₀; k_fill; intro X₀
  refine wpAny_call ?_
  refine' Cx.call C F N ?ho ?hcd ?hroom ?hbind ?hloc ?_ ?c2 ?c3 ?c4 ?c5
  case ho => k_is
  case hcd => k_is
  case hroom => show A.depth < 1000; omega
  case hbind => exact BindsTo.of_eq rfl
  case hloc => exact locs rfl
  case c2 => exact rfl
  case c3 => exact rfl
  case c4 => exact rfl
  case c5 => decide
  intro g' L' h₁ C' F' N' G'
  dsimp only
  have hs1 : g'.IsList sm vs.toArray := by obtain ⟨o, e, r⟩ := hs; exact ⟨o, G' _ _ e (by simp; exact ⟨ne1, ne2⟩), r⟩
  have X' := C'.X
  have T' := C'.T
  have hh' := C'.hh
  clear X₀
  k_unmd
  k_fold
  k_steps
  rename Fr _ _ _ _ => F1
  rename News _ _ _ _ => N1
  refine Stop.mk (draw_call C' F1 N1 P (by show A.depth + 1 ≤ 500; omega) (by show A.units + 3 ≤ 2000; omega) (by decide) (by decide) ?_)
  intro d t h2 tk2 op2 oc2 hd0 hd1 P2 N2 F2 G2
  have hd1' : d < 4 := hd1
  clear F1 N1
  k_unmd
  k_steps
  all_goals (try dsimp only)
  rename Fr _ _ _ _ => F9
  rename News _ _ _ _ => N9
  (try k_unmd); (try k_unfold); (try k_unmd); (try k_unfold)
  refine ⟨_, F9, fun FL G => h _ _ _ _ op2 oc2 ?_ ?_ P2 (news_ret F N G' N9) FL G⟩
  · have : d = 0 ∨ d = 1 ∨ d = 2 ∨ d = 3 := by omega
    rcases this with rfl | rfl | rfl | rfl <;> decide
  · have : d = 0 ∨ d = 1 ∨ d = 2 ∨ d = 3 := by omega
    rcases this with rfl | rfl | rfl | rfl <;> decide
end
end Mine
namespace Mine
local macro_rules | `(tactic| units_room) => `(tactic| ((try simp only [units_deeper, units_in1]); (have hcL := cLine_is); omega))
local macro_rules | `(tactic| walk_at "eval ListComp") => `(tactic| (k_here; (first
  | ((with_reducible show wpAny _ _ (PySem.eval (PySem.Expr.ListComp _ [PySem.Comprehension.mk _ _ [] _] _ _) _) _ _ _); k_dflt (refine LCg.ListComp_U (F₀ := by k_asm) (by with_unfolding_all rfl) (by decide) (by rfl) (by decide) (by rfl) ?_))
  | ((with_reducible show wpAny _ _ (PySem.eval (PySem.Expr.ListComp _ [PySem.Comprehension.mk _ _ [_] _] _ _) _) _ _ _); k_dflt (refine LCt.ListComp_T (F₀ := by k_asm) (by with_unfolding_all rfl) (by decide) (by rfl) (by decide) (by rfl) ?_)))))
local macro_rules | `(tactic| walk_at "CompSrc") => `(tactic| refine unstop ?_)
local macro_rules | `(tactic| walk_at "CompSrcT") => `(tactic| refine unstop ?_)
local macro_rules | `(tactic| walk_at "pyIter ref") => `(tactic| refine unstop ?_)
local macro_rules | `(tactic| walk_at "call ref") => `(tactic| refine unstop ?_)
local macro_rules | `(tactic| walk_at "CompEnd") => `(tactic| refine unstop ?_)
local macro_rules | `(tactic| walk_at "call builtin:min") => `(tactic| refine unstop ?_)
local macro_rules | `(tactic| walk_at "exec For Name Name cons nil") => `(tactic| (k_here; (rename Fr _ _ _ _ => lF'); (with_unfolding_all refine' For_invVF lF' ?k1 ?k2 ?_; (case k1 => exact rfl); (case k2 => exact rfl); k_whole)))
local macro_rules | `(tactic| walk_at "exec For Name Call cons nil") => `(tactic| (k_here; (rename Fr _ _ _ _ => lF'); (with_unfolding_all refine' For_invVF lF' ?k1 ?k2 ?_; (case k1 => exact rfl); (case k2 => exact rfl); k_whole)))
theorem getL_find {name : Str} {es : List DictEntry} {v : Value} (h : getL name es = some (some v)) : ∃ e, es.find? (·.key.isStr name) = some e ∧ e.val = v := by
  unfold getL at h
  cases q : es.find? (·.key.isStr name) with
  | none => rw [q] at h; dsimp only at h; split at h <;> cases h
  | some e => rw [q] at h; dsimp only at h; cases h; exact ⟨e, rfl, rfl⟩
theorem getL_of_find {name : Str} {es : List DictEntry} {e : DictEntry} (h : es.find? (·.key.isStr name) = some e) : getL name es = some (some e.val) := by
  unfold getL; rw [h]
theorem isStr_two {v : Value} {a b : Str} (h1 : v.isStr a = true) (h2 : v.isStr b = true) : a = b := by
  cases v <;> simp only [Value.isStr, Bool.false_eq_true] at h1 h2
  exact (eq_of_beq h1).symm.trans (eq_of_beq h2)
theorem putL_has {name : Str} {hsh : Int} {key v : Value} : ∀ {es : List DictEntry} {e : DictEntry}, es.find? (·.key.isStr name) = some e →
    (putL name hsh key v es).find? (·.key.isStr name) = some ⟨e.hash, e.key, v⟩ ∧ (putL name hsh key v es).length = es.length ∧ es.any (·.key.isStr name) = true ∧ ∀ n', n' ≠ name → (putL name hsh key v es).find? (·.key.isStr n') = es.find? (·.key.isStr n')
  | [], _, h => by cases h
  | d :: r, e, h => by
    rw [List.find?_cons] at h
    by_cases hd : d.key.isStr name = true
    · rw [hd] at h
      obtain rfl : d = e := by injection h
      have hp : putL name hsh key v (d :: r) = ⟨d.hash, d.key, v⟩ :: r := by unfold putL; rw [if_pos hd]
      rw [hp]
      refine ⟨by simp [hd], rfl, by simp [hd], fun n' hn => ?_⟩
      have hf : d.key.isStr n' = false := by
        cases q : d.key.isStr n' with
        | false => rfl
        | true => exact absurd (isStr_two q hd) hn
      simp [hf]
    · rw [Bool.not_eq_true] at hd
      rw [hd] at h
      obtain ⟨a, b, c, dd⟩ := putL_has (hsh := hsh) (key := key) (v := v) h
      have hp : putL name hsh key v (d :: r) = d :: putL name hsh key v r := by rw [putL, if_neg (by rw [hd]; decide)]
      rw [hp]
      refine ⟨by simp [hd, a], by simp [b], by simp [c], fun n' hn => ?_⟩
      simp [List.find?_cons, dd n' hn]
/-- what an Info's dict says -/
def InfoEs (es : List DictEntry) (gl cl : Int) (u : Bool) : Prop :=
  (∃ t, getL (Str.ofString "glyph") es = some (some (.int gl t))) ∧ (∃ t, getL (Str.ofString "cluster") es = some (some (.int cl t))) ∧ getL (Str.ofString "is_unsafe") es = some (some (.bool u)) ∧ es.length ≤ 100
theorem InfoEs.put {es : List DictEntry} {gl cl : Int} {u : Bool} (h : InfoEs es gl cl u) (hsh : Int) (key : Value) (n : Nat) : InfoEs (putL (Str.ofString "is_unsafe") hsh key (.bool true) es) gl cl true ∧ putN (Str.ofString "is_unsafe") es n = n := by
  obtain ⟨⟨t1, a⟩, ⟨t2, b⟩, c, d⟩ := h
  obtain ⟨e1, x1, y1⟩ := getL_find a
  obtain ⟨e2, x2, y2⟩ := getL_find b
  obtain ⟨e3, x3, y3⟩ := getL_find c
  obtain ⟨p1, p2, p3, p4⟩ := putL_has (hsh := hsh) (key := key) (v := .bool true) x3
  refine ⟨⟨⟨t1, ?_⟩, ⟨t2, ?_⟩, ?_, by rw [p2]; exact d⟩, by unfold putN; rw [if_pos p3]⟩
  · rw [getL_of_find ((p4 _ (by decide)).trans x1), y1]
  · rw [getL_of_find ((p4 _ (by decide)).trans x2), y2]
  · rw [getL_of_find p1]
/-- what a Buffer's dict says -/
def BufEs (es : List DictEntry) (row : Addr) : Prop := getL (Str.ofString "row") es = some (some (.ref row)) ∧ getL (Str.ofString "clusters") es = some none ∧ getL (Str.ofString "glyphs") es = some none

theorem inst_at {h : Heap} {x dx C : Addr} {es : List DictEntry} {n : Nat} (hx : h.get? x = some (instObj C dx)) (hd : h.get? dx = some (dictOf es n)) : InstAt h x (instObj C dx) C (some (dictOf es n)) := ⟨hx, rfl, rfl, hd⟩
section
variable {w : World} {mean : ExcName → Option Value} {mg mb : Str → Option Value} {A : Around} {base : Heap} {outer : List Env} {g : Heap} {env : Env} {L : Addr} {s : Shared} {m : Str → Option Value} {E : Value → Shared → Prop} {Q : Value → Shared → Prop}
theorem cx_under {pos : List Value} {c : Addr} (C : Cx w mean mg mb A base outer g env L) : Cx w mean mg mb (A.under (.builtin "type.__call__" ⟨.ref c :: pos, []⟩)) base outer g env L :=
  ⟨C.B, C.X, C.T, C.hA, C.hf, C.hke, C.hh⟩
set_option maxRecDepth 100000 in
set_option maxHeartbeats 8000000 in
theorem get_cluster {expr : Bool} {x dx : Addr} {es : List DictEntry} {n : Nat} {gl cl : Int} {u : Bool} (X : (hd.heap_39 w.params).In g) (F : Fr g L s.heap m) (hx : s.heap.get? x = some (instObj 52 dx)) (hd : s.heap.get? dx = some (dictOf es n)) (hi : InfoEs es gl cl u)
    (h : ∀ t, Q (.int cl t) { s with toks := s.toks + 1 }) : wpAny (model PySem.Challenge.rw_pb0161_01.row.prog w) A (getAttr (.ref x) (Str.ofString "cluster") expr) Q E s := by
  revert X; k_fill; intro X
  obtain ⟨_, ⟨t, e⟩, _⟩ := hi
  refine' get_own F X (inst_at hx hd) ?a ?b ?c ?d e ?f (h t)
  case a => k_is
  case b => k_is
  case c => k_is
  case d => k_is
  case f => k_handed
set_option maxRecDepth 100000 in
set_option maxHeartbeats 8000000 in
theorem get_glyph {expr : Bool} {x dx : Addr} {es : List DictEntry} {n : Nat} {gl cl : Int} {u : Bool} (X : (hd.heap_39 w.params).In g) (F : Fr g L s.heap m) (hx : s.heap.get? x = some (instObj 52 dx)) (hd : s.heap.get? dx = some (dictOf es n)) (hi : InfoEs es gl cl u)
    (h : ∀ t, Q (.int gl t) { s with toks := s.toks + 1 }) : wpAny (model PySem.Challenge.rw_pb0161_01.row.prog w) A (getAttr (.ref x) (Str.ofString "glyph") expr) Q E s := by
  revert X; k_fill; intro X
  obtain ⟨⟨t, e⟩, _, _⟩ := hi
  refine' get_own F X (inst_at hx hd) ?a ?b ?c ?d e ?f (h t)
  case a => k_is
  case b => k_is
  case c => k_is
  case d => k_is
  case f => k_handed
set_option maxRecDepth 100000 in
set_option maxHeartbeats 8000000 in
theorem get_unsafe {expr : Bool} {x dx : Addr} {es : List DictEntry} {n : Nat} {gl cl : Int} {u : Bool} (X : (hd.heap_39 w.params).In g) (F : Fr g L s.heap m) (hx : s.heap.get? x = some (instObj 52 dx)) (hd : s.heap.get? dx = some (dictOf es n)) (hi : InfoEs es gl cl u)
    (h : Q (.bool u) { s with toks := s.toks + 1 }) : wpAny (model PySem.Challenge.rw_pb0161_01.row.prog w) A (getAttr (.ref x) (Str.ofString "is_unsafe") expr) Q E s := by
  revert X; k_fill; intro X
  obtain ⟨_, _, e, _⟩ := hi
  refine' get_own F X (inst_at hx hd) ?a ?b ?c ?d e ?f h
  case a => k_is
  case b => k_is
  case c => k_is
  case d => k_is
  case f => k_handed
set_option maxRecDepth 100000 in
set_option maxHeartbeats 8000000 in
theorem get_row {expr : Bool} {x dx row : Addr} {es : List DictEntry} {n : Nat} (X : (hd.heap_39 w.params).In g) (F : Fr g L s.heap m) (hx : s.heap.get? x = some (instObj 105 dx)) (hd : s.heap.get? dx = some (dictOf es n)) (hi : BufEs es row)
    (h : Q (.ref row) { s with toks := s.toks + 1 }) : wpAny (model PySem.Challenge.rw_pb0161_01.row.prog w) A (getAttr (.ref x) (Str.ofString "row") expr) Q E s := by
  revert X; k_fill; intro X
  refine' get_own F X (inst_at hx hd) ?a ?b ?c ?d hi.1 ?f h
  case a => k_is
  case b => k_is
  case c => k_is
  case d => k_is
  case f => k_handed
set_option maxRecDepth 100000 in
set_option maxHeartbeats 8000000 in
theorem meth_clusters {pl : Sem Bool} {Q : Value × List Value → Shared → Prop} {x dx row : Addr} {es : List DictEntry} {n : Nat} (X : (hd.heap_39 w.params).In g) (F : Fr g L s.heap m) (hx : s.heap.get? x = some (instObj 105 dx)) (hd : s.heap.get? dx = some (dictOf es n)) (hi : BufEs es row)
    (h : Q (.ref 81, [.ref x]) s) : wpAny (model PySem.Challenge.rw_pb0161_01.row.prog w) A (getMethod (.ref x) (Str.ofString "clusters") pl) Q E s := by
  revert X; k_fill; intro X
  refine' method_inst F X (inst_at hx hd) ?a ?b ?c hi.2.1 h
  case a => k_is
  case b => k_is
  case c => k_is
set_option maxRecDepth 100000 in
set_option maxHeartbeats 8000000 in
theorem meth_glyphs {pl : Sem Bool} {Q : Value × List Value → Shared → Prop} {x dx row : Addr} {es : List DictEntry} {n : Nat} (X : (hd.heap_39 w.params).In g) (F : Fr g L s.heap m) (hx : s.heap.get? x = some (instObj 105 dx)) (hd : s.heap.get? dx = some (dictOf es n)) (hi : BufEs es row)
    (h : Q (.ref 76, [.ref x]) s) : wpAny (model PySem.Challenge.rw_pb0161_01.row.prog w) A (getMethod (.ref x) (Str.ofString "glyphs") pl) Q E s := by
  revert X; k_fill; intro X
  refine' method_inst F X (inst_at hx hd) ?a ?b ?c hi.2.2 h
  case a => k_is
  case b => k_is
  case c => k_is
set_option maxRecDepth 100000 in
set_option maxHeartbeats 8000000 in
theorem set_unsafe {Q : Unit → Shared → Prop} {x dx : Addr} {es : List DictEntry} {n : Nat} {gl cl : Int} {u : Bool} {pre post : List (Addr × Obj)} (X : (hd.heap_39 w.params).In g) (F : Fr g L s.heap m) (hx : s.heap.get? x = some (instObj 52 dx)) (N : News g L s.heap (pre ++ (dx, dictOf es n) :: post))
    (h1 : ∀ p ∈ pre, p.1 ≠ dx) (h2 : ∀ p ∈ post, p.1 ≠ dx) (hi : InfoEs es gl cl u)
    (h : ∀ h' es', Fr g L h' m → News g L h' (pre ++ (dx, dictOf es' n) :: post) → InfoEs es' gl cl true → Q () { s with heap := h', toks := s.toks + 2 }) :
    wpAny (model PySem.Challenge.rw_pb0161_01.row.prog w) A (setAttr (.ref x) (Str.ofString "is_unsafe") (.bool true)) Q E s := by
  revert X; k_fill; intro X
  have hd : s.heap.get? dx = some (dictOf es n) := (N (dx, dictOf es n) (by simp)).1
  have U : ∀ {o o' : Obj} {l : List (Addr × Obj)}, (∀ p ∈ l, p.1 ≠ dx) → Upd dx o o' (l ++ (dx, o) :: post) (l ++ (dx, o') :: post) := by
    intro o o' l
    induction l with
    | nil => intro _; exact .head h2
    | cons p r ih => intro hh; exact .tail (hh p (.head _)) (ih fun q hq => hh q (.tail _ hq))
  obtain ⟨pp, pn⟩ := hi.put (PyData.keyHash w.params (Str.ofString "is_unsafe")) (.str (Str.ofString "is_unsafe") (s.toks + 1)) n
  have hz : (putL (Str.ofString "is_unsafe") (PyData.keyHash w.params (Str.ofString "is_unsafe")) (.str (Str.ofString "is_unsafe") (s.toks + 1)) (.bool true) es).length ≤ 1000 := Nat.le_trans pp.2.2.2 (by decide)
  refine' set_dict F X N (inst_at hx hd) rfl ?a ?b ?c ?d (by rw [hi.2.2.1]; rfl) rfl (U h1) hz (fun h' F' N' => ?_)
  case a => k_is
  case b => k_is
  case c => k_is
  case d => k_is
  rw [pn] at N'
  exact h h' _ F' N' pp
set_option maxRecDepth 100000 in
set_option maxHeartbeats 8000000 in
theorem info_new {gl cl : Int} {t0 t1 t2 : Tok} (C : Cx w mean mg mb A base outer g env L) (F : Fr g L s.heap m) (hdep : A.depth ≤ 500) (hun : A.units ≤ 2000)
    (h : ∀ x dx es n h' tk, InfoEs es gl cl false → News g L h' [(x, instObj 52 dx), (dx, dictOf es n)] → (s.heap.objs.size ≤ x ∧ s.heap.objs.size ≤ dx) → Fr g L h' m → GSub s.heap h' [] → Q (.ref x) { s with heap := h', toks := tk }) :
    wpAny (model PySem.Challenge.rw_pb0161_01.row.prog w) A (call (.ref 52) [.int 0 t0, .int gl t1, .int cl t2]) Q E s := by
  have X₀ := C.X
  revert X₀; k_fill; intro X₀
  refine wpAny_call ?_
  obtain ⟨hh, gg, d, t, os⟩ := s
  have XH := C.X.keeps F.keep
  have hm : makesIn (hd.heap_39 w.params) 52 = true := by k_is
  have hi : findIn (hd.heap_39 w.params) (.ref 52) "__init__" = some (some (.ref 35)) := by k_is
  have hf : typeIn (hd.heap_39 w.params) (.ref 35) = some (.type "function") := by k_is
  refine make_core (makes_of XH hm) (looks_findIn XH hi) (fun self => bind_fn XH self hf) (.inl rfl) ?_
  have F₁ : Fr g L ((hh.push emptyDict).push (instObj 52 hh.objs.size)) m := (F.push _).push _
  have N₁ : News g L ((hh.push emptyDict).push (instObj 52 hh.objs.size)) [(hh.objs.size + 1, instObj 52 hh.objs.size), (hh.objs.size, dictOf [] 0)] := by
    have := ((News.nil (h₀ := g) (h := hh) (L := L)).push F emptyDict).push (F.push _) (instObj 52 hh.objs.size)
    rwa [Heap.size_push] at this
  have G₁ : GSub hh ((hh.push emptyDict).push (instObj 52 hh.objs.size)) [] := fun b o e _ => Heap.get?_push_of_some _ (Heap.get?_push_of_some _ e)
  have C₁ := cx_under (pos := [.int 0 t0, .int gl t1, .int cl t2]) (c := 52) C
  generalize hA1 : A.under (.builtin "type.__call__" ⟨.ref 52 :: [.int 0 t0, .int gl t1, .int cl t2], []⟩) = A₁ at C₁ ⊢
  have hd1 : A₁.depth ≤ A.depth + 5 := by subst hA1; exact Nat.add_le_add_left (Nat.le_of_ble_eq_true rfl) _
  have hne : @LT.lt Nat _ hh.objs.size (hh.objs.size + 1) := Nat.lt_succ_self _
  have hgx : g.get? (hh.objs.size + 1) = none := (N₁ _ (.head _)).2.2
  have hxs : hh.objs.size ≤ hh.objs.size + 1 ∧ hh.objs.size ≤ hh.objs.size := ⟨Nat.le_succ _, Nat.le_refl _⟩
  have hbel : ∀ b o, hh.get? b = some o → b ≠ hh.objs.size + 1 ∧ b ≠ hh.objs.size := fun b o e => ⟨Nat.ne_of_lt (Nat.lt_succ_of_lt (Heap.lt_size e)), Nat.ne_of_lt (Heap.lt_size e)⟩
  generalize (hh.push emptyDict).push (instObj 52 hh.objs.size) = h1 at F₁ N₁ G₁ ⊢
  generalize hh.objs.size + 1 = x at N₁ hne hgx hxs hbel ⊢
  generalize hdx : hh.objs.size = dx at N₁ hne hxs hbel ⊢
  refine' Cx.call C₁ F₁ N₁ ?ho ?hcd ?hroom ?hbind ?hloc ?_ ?c2 ?c3 ?c4 ?c5
  case ho => k_is
  case hcd => k_is
  case hroom => show A₁.depth < 1000; omega
  case hbind => exact BindsTo.of_eq rfl
  case hloc => exact locs rfl
  case c2 => exact rfl
  case c3 => exact rfl
  case c4 => exact rfl
  case c5 => decide
  intro g' L' h₁ C' F' N' G'
  dsimp only
  have fin : ∀ (es : List DictEntry) (n : Nat) (m' : Str → Option Value) (h' : Heap) (tk : Nat) (news' : List (Addr × Obj)), InfoEs es gl cl false → Fr g' L' h' m' → News g' L' h' [(x, instObj 52 dx), (dx, dictOf es n)] →
      EndB g L m ⟨h1, gg, d, t, os⟩ [(x, instObj 52 dx), (dx, dictOf [] 0)] g' L' (InitBack x fun r s' => match r with | .ok (.ret v) => Q v s' | .ok _ => False | .error e => E e s') .next ⟨h', gg, d, tk, os⟩ := by
    intro es n m' h' tk news' hes F' N'
    refine ⟨m', F', fun FL G => ⟨rfl, h x dx es n h' tk hes (news_ret F₁ N₁ G' N') ?_ FL ?_⟩⟩
    · dsimp only; rw [hdx]; exact hxs
    · intro b o e _
      refine G b o (G₁ b o e (by simp)) ?_
      have := hbel b o e
      simpa using this
  have X' := C'.X
  have T' := C'.T
  have hh' := C'.hh
  clear X₀ C C₁ XH h F₁ N₁
  k_unmd
  k_fold
  k_steps
  all_goals (try dsimp only)
  rename Fr _ _ _ _ => F9
  rename News _ _ _ _ => N9
  (try k_unmd); (try k_unfold); (try k_unmd); (try k_unfold)
  refine fin _ _ _ _ _ [] ⟨⟨t1, ?_⟩, ⟨t2, ?_⟩, ?_, by simp⟩ F9 N9
  · k_get
  · k_get
  · k_get
set_option maxRecDepth 100000 in
set_option maxHeartbeats 8000000 in
theorem buffer_new {row : Addr} (C : Cx w mean mg mb A base outer g env L) (F : Fr g L s.heap m) (hdep : A.depth ≤ 500) (hun : A.units ≤ 2000)
    (h : ∀ x dx es n h' tk, BufEs es row → News g L h' [(x, instObj 105 dx), (dx, dictOf es n)] → (s.heap.objs.size ≤ x ∧ s.heap.objs.size ≤ dx) → Fr g L h' m → GSub s.heap h' [] → Q (.ref x) { s with heap := h', toks := tk }) :
    wpAny (model PySem.Challenge.rw_pb0161_01.row.prog w) A (call (.ref 105) [.ref row]) Q E s := by
  have X₀ := C.X
  revert X₀; k_fill; intro X₀
  refine wpAny_call ?_
  obtain ⟨hh, gg, d, t, os⟩ := s
  have XH := C.X.keeps F.keep
  have hm : makesIn (hd.heap_39 w.params) 105 = true := by k_is
  have hi : findIn (hd.heap_39 w.params) (.ref 105) "__init__" = some (some (.ref 71)) := by k_is
  have hf : typeIn (hd.heap_39 w.params) (.ref 71) = some (.type "function") := by k_is
  refine make_core (makes_of XH hm) (looks_findIn XH hi) (fun self => bind_fn XH self hf) (.inl rfl) ?_
  have F₁ : Fr g L ((hh.push emptyDict).push (instObj 105 hh.objs.size)) m := (F.push _).push _
  have N₁ : News g L ((hh.push emptyDict).push (instObj 105 hh.objs.size)) [(hh.objs.size + 1, instObj 105 hh.objs.size), (hh.objs.size, dictOf [] 0)] := by
    have := ((News.nil (h₀ := g) (h := hh) (L := L)).push F emptyDict).push (F.push _) (instObj 105 hh.objs.size)
    rwa [Heap.size_push] at this
  have G₁ : GSub hh ((hh.push emptyDict).push (instObj 105 hh.objs.size)) [] := fun b o e _ => Heap.get?_push_of_some _ (Heap.get?_push_of_some _ e)
  have C₁ := cx_under (pos := [.ref row]) (c := 105) C
  generalize hA1 : A.under (.builtin "type.__call__" ⟨.ref 105 :: [.ref row], []⟩) = A₁ at C₁ ⊢
  have hd1 : A₁.depth ≤ A.depth + 5 := by subst hA1; exact Nat.add_le_add_left (Nat.le_of_ble_eq_true rfl) _
  have hne : @LT.lt Nat _ hh.objs.size (hh.objs.size + 1) := Nat.lt_succ_self _
  have hgx : g.get? (hh.objs.size + 1) = none := (N₁ _ (.head _)).2.2
  have hxs : hh.objs.size ≤ hh.objs.size + 1 ∧ hh.objs.size ≤ hh.objs.size := ⟨Nat.le_succ _, Nat.le_refl _⟩
  have hbel : ∀ b o, hh.get? b = some o → b ≠ hh.objs.size + 1 ∧ b ≠ hh.objs.size := fun b o e => ⟨Nat.ne_of_lt (Nat.lt_succ_of_lt (Heap.lt_size e)), Nat.ne_of_lt (Heap.lt_size e)⟩
  generalize (hh.push emptyDict).push (instObj 105 hh.objs.size) = h1 at F₁ N₁ G₁ ⊢
  generalize hh.objs.size + 1 = x at N₁ hne hgx hxs hbel ⊢
  generalize hdx : hh.objs.size = dx at N₁ hne hxs hbel ⊢
  refine' Cx.call C₁ F₁ N₁ ?ho ?hcd ?hroom ?hbind ?hloc ?_ ?c2 ?c3 ?c4 ?c5
  case ho => k_is
  case hcd => k_is
  case hroom => show A₁.depth < 1000; omega
  case hbind => exact binds_K (Frag.In.keeps C₁.X F₁.keep) rfl (by k_is) rfl rfl rfl
  case hloc => exact locs rfl
  case c2 => exact rfl
  case c3 => exact rfl
  case c4 => exact rfl
  case c5 => decide
  intro g' L' h₁ C' F' N' G'
  dsimp only
  have fin : ∀ (es : List DictEntry) (n : Nat) (m' : Str → Option Value) (h' : Heap) (tk : Nat) (news' : List (Addr × Obj)), BufEs es row → Fr g' L' h' m' → News g' L' h' [(x, instObj 105 dx), (dx, dictOf es n)] →
      EndB g L m ⟨h1, gg, d, t, os⟩ [(x, instObj 105 dx), (dx, dictOf [] 0)] g' L' (InitBack x fun r s' => match r with | .ok (.ret v) => Q v s' | .ok _ => False | .error e => E e s') .next ⟨h', gg, d, tk, os⟩ := by
    intro es n m' h' tk news' hes F' N'
    refine ⟨m', F', fun FL G => ⟨rfl, h x dx es n h' tk hes (news_ret F₁ N₁ G' N') ?_ FL ?_⟩⟩
    · dsimp only; rw [hdx]; exact hxs
    · intro b o e _
      refine G b o (G₁ b o e (by simp)) ?_
      have := hbel b o e
      simpa using this
  have X' := C'.X
  have T' := C'.T
  have hh' := C'.hh
  clear X₀ C C₁ XH h F₁ N₁
  k_unmd
  k_fold
  k_steps
  all_goals (try dsimp only)
  rename Fr _ _ _ _ => F9
  rename News _ _ _ _ => N9
  (try k_unmd); (try k_unfold); (try k_unmd); (try k_unfold)
  refine fin _ _ _ _ _ [] ⟨?_, ?_, ?_⟩ F9 N9
  · k_get
  · k_get
  · k_get
end
end Mine
namespace Mine
local macro_rules | `(tactic| units_room) => `(tactic| ((try simp only [units_deeper, units_in1]); (have hcL := cLine_is); omega))
local macro_rules | `(tactic| walk_at "eval ListComp") => `(tactic| (k_here; (first
  | ((with_reducible show wpAny _ _ (PySem.eval (PySem.Expr.ListComp _ [PySem.Comprehension.mk _ _ [] _] _ _) _) _ _ _); k_dflt (refine LCg.ListComp_U (F₀ := by k_asm) (by with_unfolding_all rfl) (by decide) (by rfl) (by decide) (by rfl) ?_))
  | ((with_reducible show wpAny _ _ (PySem.eval (PySem.Expr.ListComp _ [PySem.Comprehension.mk _ _ [_] _] _ _) _) _ _ _); k_dflt (refine LCt.ListComp_T (F₀ := by k_asm) (by with_unfolding_all rfl) (by decide) (by rfl) (by decide) (by rfl) ?_)))))
local macro_rules | `(tactic| walk_at "CompSrc") => `(tactic| refine unstop ?_)
local macro_rules | `(tactic| walk_at "CompSrcT") => `(tactic| refine unstop ?_)
local macro_rules | `(tactic| walk_at "pyIter ref") => `(tactic| refine unstop ?_)
local macro_rules | `(tactic| walk_at "call ref") => `(tactic| refine unstop ?_)
local macro_rules | `(tactic| walk_at "CompEnd") => `(tactic| refine unstop ?_)
local macro_rules | `(tactic| walk_at "call builtin:min") => `(tactic| refine unstop ?_)
local macro_rules | `(tactic| walk_at "exec For Name Name cons nil") => `(tactic| (k_here; (rename Fr _ _ _ _ => lF'); (with_unfolding_all refine' For_invVF lF' ?k1 ?k2 ?_; (case k1 => exact rfl); (case k2 => exact rfl); k_whole)))
local macro_rules | `(tactic| walk_at "exec For Name Call cons nil") => `(tactic| (k_here; (rename Fr _ _ _ _ => lF'); (with_unfolding_all refine' For_invVF lF' ?k1 ?k2 ?_; (case k1 => exact rfl); (case k2 => exact rfl); k_whole)))
local macro_rules | `(tactic| walk_at "getAttr ref") => `(tactic| refine unstop ?_)
structure Row where
  x : Addr
  d : Addr
  es : List DictEntry
  n : Nat
  gl : Int
  cl : Int
  u : Bool
def Row.ok (r : Row) : Prop := InfoEs r.es r.gl r.cl r.u
def Row.led (r : Row) : Addr × Obj := (r.d, dictOf r.es r.n)
def Row.ref (r : Row) : Value := .ref r.x
def RowsIn (h : Heap) (rows : List Row) : Prop := ∀ r ∈ rows, h.get? r.x = some (instObj 52 r.d) ∧ h.get? r.d = some (dictOf r.es r.n) ∧ r.ok
theorem RowsIn.keep {h h' : Heap} {rows : List Row} (R : RowsIn h rows) (k : ∀ b o, h.get? b = some o → h'.get? b = some o) : RowsIn h' rows := fun r hr => ⟨k _ _ (R r hr).1, k _ _ (R r hr).2.1, (R r hr).2.2⟩
theorem IsList.keep' {h h' : Heap} {a : Addr} {its : Array Value} (x : h.IsList a its) (k : ∀ b o, h.get? b = some o → h'.get? b = some o) : h'.IsList a its := let ⟨o, e, r⟩ := x; ⟨o, k _ _ e, r⟩
theorem gsub_nil {h h' : Heap} (G : GSub h h' []) : ∀ b o, h.get? b = some o → h'.get? b = some o := fun b o e => G b o e (by simp)
theorem fresh_of {h g' h' : Heap} {L' : Addr} {news : List (Addr × Obj)} {W : List Addr} (G : GSub h g' W) (N : News g' L' h' news) : ∀ p ∈ news, p.1 ∉ W → h.get? p.1 = none := fun p hp hW => by
  cases q : h.get? p.1 with
  | none => rfl
  | some o => have := G _ _ q hW; rw [(N p hp).2.2] at this; cases this
section
variable {w : World} {mean : ExcName → Option Value} {mg mb : Str → Option Value} {A : Around} {base : Heap} {outer : List Env} {g : Heap} {env : Env} {L : Addr} {s : Shared} {m : Str → Option Value} {E : Value → Shared → Prop} {Q : Value → Shared → Prop}
set_option maxRecDepth 100000 in
set_option maxHeartbeats 8000000 in
theorem clusters_call {b bd rl : Addr} {bes : List DictEntry} {bn : Nat} {rows : List Row} (C : Cx w mean mg mb A base outer g env L) (F : Fr g L s.heap m)
    (hb : s.heap.get? b = some (instObj 105 bd)) (hbd : s.heap.get? bd = some (dictOf bes bn)) (hB : BufEs bes rl) (hl : s.heap.IsList rl (rows.map Row.ref).toArray) (hR : RowsIn s.heap rows) (hlen : rows.length ≤ 100)
    (hdep : A.depth ≤ 500) (hun : A.units ≤ 2000)
    (h : ∀ D ys h' tk, IntsAre ys (rows.map Row.cl) → News g L h' [(D, LCg.lst ys)] → s.heap.get? D = none → Fr g L h' m → GSub s.heap h' [] → Q (.ref D) { s with heap := h', toks := tk }) :
    wpAny (model PySem.Challenge.rw_pb0161_01.row.prog w) A (call (.ref 81) [.ref b]) Q E s := by
  have N : News g L s.heap [] := News.nil
  have F₀ := F
  have N₀ := N
  have X₀ := C.X
  revert X₀; k_fill; intro X₀
  refine wpAny_call ?_
  refine' Cx.call C F N ?ho ?hcd ?hroom ?hbind ?hloc ?_ ?c2 ?c3 ?c4 ?c5
  case ho => k_is
  case hcd => k_is
  case hroom => show A.depth < 1000; omega
  case hbind => exact BindsTo.of_eq rfl
  case hloc => exact locs rfl
  case c2 => exact rfl
  case c3 => exact rfl
  case c4 => exact rfl
  case c5 => decide
  intro g' L' h₁ C' F' N' G'
  dsimp only
  clear F N
  have k0 := gsub_nil G'
  have hb1 := k0 _ _ hb
  have hbd1 := k0 _ _ hbd
  have hl1 := IsList.keep' hl k0
  have hR1 := hR.keep k0
  have X' := C'.X
  have T' := C'.T
  have hh' := C'.hh
  clear X₀
  k_unmd
  k_fold
  k_steps
  (rename Fr _ _ _ _ => F1); (rename News _ _ _ _ => N1)
  refine Stop.mk (get_row X' F1 (F1.keep _ _ hb1) (F1.keep _ _ hbd1) hB ?_)
  k_unmd
  k_steps
  refine Stop.mk (LCg.CompSrc.base hh' F1 N1 hl1 (by rw [sizeLine_eq, List.size_toArray, List.length_map]; omega) (fun g0 => compRest_inv _ (fun i ys news => IntsAre ys ((rows.take i).map Row.cl) ∧ news = []) ?_ ?_ _ 0 [] _ (Nat.zero_add _) ⟨.nil, rfl⟩))
  · rintro i ys news hi ⟨hys, rfl⟩ v I oI C oC D m₂ h tk E' hv hC hx F N off ne
    clear F1 N1
    rw [List.size_toArray, List.length_map] at hi
    have hv' : v = .ref (rows[i]).x := by
      have : (rows.map Row.ref)[i]? = some v := by simpa using hv
      rw [List.getElem?_map, List.getElem?_eq_getElem hi] at this
      exact (Option.some.inj this).symm
    subst hv'
    obtain ⟨r1, r2, r3⟩ := hR1 rows[i] (List.getElem_mem hi)
    k_unmd
    k_fold
    k_steps
    refine Stop.mk (get_cluster X' F (F.keep _ _ r1) (F.keep _ _ r2) r3 ?_)
    intro t
    k_unmd
    k_steps
    refine Stop.mk (LCg.CompEnd.intro F N [] (by lcg_sub) trivial (Or.inl hl1) ⟨?_, rfl⟩)
    rw [List.take_add_one, List.getElem?_eq_getElem hi, Option.toList_some, List.map_append]
    exact hys.append (.cons _ _ .nil)
  · rintro ys news ⟨hys, rfl⟩ D h' tk F N o1
    clear F1 N1
    dsimp only
    (try k_unmd); (try k_unfold); (try k_unmd); (try k_unfold)
    refine ⟨_, F, fun FL G => h D ys h' _ ?_ (news_ret F₀ N₀ G' N) (fresh_of G' N _ (List.Mem.head _) (by simp)) FL G⟩
    have e : (rows.map Row.ref).toArray.size = rows.length := by simp
    rwa [e, List.take_length] at hys
set_option maxRecDepth 100000 in
set_option maxHeartbeats 8000000 in
theorem glyphs_call {b bd rl : Addr} {bes : List DictEntry} {bn : Nat} {rows : List Row} (C : Cx w mean mg mb A base outer g env L) (F : Fr g L s.heap m)
    (hb : s.heap.get? b = some (instObj 105 bd)) (hbd : s.heap.get? bd = some (dictOf bes bn)) (hB : BufEs bes rl) (hl : s.heap.IsList rl (rows.map Row.ref).toArray) (hR : RowsIn s.heap rows) (hlen : rows.length ≤ 100)
    (hdep : A.depth ≤ 500) (hun : A.units ≤ 2000)
    (h : ∀ D ys h' tk, IntsAre ys (rows.map Row.gl) → News g L h' [(D, LCg.lst ys)] → s.heap.get? D = none → Fr g L h' m → GSub s.heap h' [] → Q (.ref D) { s with heap := h', toks := tk }) :
    wpAny (model PySem.Challenge.rw_pb0161_01.row.prog w) A (call (.ref 76) [.ref b]) Q E s := by
  have N : News g L s.heap [] := News.nil
  have F₀ := F
  have N₀ := N
  have X₀ := C.X
  revert X₀; k_fill; intro X₀
  refine wpAny_call ?_
  refine' Cx.call C F N ?ho ?hcd ?hroom ?hbind ?hloc ?_ ?c2 ?c3 ?c4 ?c5
  case ho => k_is
  case hcd => k_is
  case hroom => show A.depth < 1000; omega
  case hbind => exact BindsTo.of_eq rfl
  case hloc => exact locs rfl
  case c2 => exact rfl
  case c3 => exact rfl
  case c4 => exact rfl
  case c5 => decide
  intro g' L' h₁ C' F' N' G'
  dsimp only
  clear F N
  have k0 := gsub_nil G'
  have hb1 := k0 _ _ hb
  have hbd1 := k0 _ _ hbd
  have hl1 := IsList.keep' hl k0
  have hR1 := hR.keep k0
  have X' := C'.X
  have T' := C'.T
  have hh' := C'.hh
  clear X₀
  k_unmd
  k_fold
  k_steps
  (rename Fr _ _ _ _ => F1); (rename News _ _ _ _ => N1)
  refine Stop.mk (get_row X' F1 (F1.keep _ _ hb1) (F1.keep _ _ hbd1) hB ?_)
  k_unmd
  k_steps
  refine Stop.mk (LCg.CompSrc.base hh' F1 N1 hl1 (by rw [sizeLine_eq, List.size_toArray, List.length_map]; omega) (fun g0 => compRest_inv _ (fun i ys news => IntsAre ys ((rows.take i).map Row.gl) ∧ news = []) ?_ ?_ _ 0 [] _ (Nat.zero_add _) ⟨.nil, rfl⟩))
  · rintro i ys news hi ⟨hys, rfl⟩ v I oI C oC D m₂ h tk E' hv hC hx F N off ne
    clear F1 N1
    rw [List.size_toArray, List.length_map] at hi
    have hv' : v = .ref (rows[i]).x := by
      have : (rows.map Row.ref)[i]? = some v := by simpa using hv
      rw [List.getElem?_map, List.getElem?_eq_getElem hi] at this
      exact (Option.some.inj this).symm
    subst hv'
    obtain ⟨r1, r2, r3⟩ := hR1 rows[i] (List.getElem_mem hi)
    k_unmd
    k_fold
    k_steps
    refine Stop.mk (get_glyph X' F (F.keep _ _ r1) (F.keep _ _ r2) r3 ?_)
    intro t
    k_unmd
    k_steps
    refine Stop.mk (LCg.CompEnd.intro F N [] (by lcg_sub) trivial (Or.inl hl1) ⟨?_, rfl⟩)
    rw [List.take_add_one, List.getElem?_eq_getElem hi, Option.toList_some, List.map_append]
    exact hys.append (.cons _ _ .nil)
  · rintro ys news ⟨hys, rfl⟩ D h' tk F N o1
    clear F1 N1
    dsimp only
    (try k_unmd); (try k_unfold); (try k_unmd); (try k_unfold)
    refine ⟨_, F, fun FL G => h D ys h' _ ?_ (news_ret F₀ N₀ G' N) (fresh_of G' N _ (List.Mem.head _) (by simp)) FL G⟩
    have e : (rows.map Row.ref).toArray.size = rows.length := by simp
    rwa [e, List.take_length] at hys
end
end Mine
namespace Mine
local macro_rules | `(tactic| units_room) => `(tactic| ((try simp only [units_deeper, units_in1]); (have hcL := cLine_is); omega))
local macro_rules | `(tactic| walk_at "eval ListComp") => `(tactic| (k_here; (first
  | ((with_reducible show wpAny _ _ (PySem.eval (PySem.Expr.ListComp _ [PySem.Comprehension.mk _ _ [] _] _ _) _) _ _ _); k_dflt (refine LCg.ListComp_U (F₀ := by k_asm) (by with_unfolding_all rfl) (by decide) (by rfl) (by decide) (by rfl) ?_))
  | ((with_reducible show wpAny _ _ (PySem.eval (PySem.Expr.ListComp _ [PySem.Comprehension.mk _ _ [_] _] _ _) _) _ _ _); k_dflt (refine LCt.ListComp_T (F₀ := by k_asm) (by with_unfolding_all rfl) (by decide) (by rfl) (by decide) (by rfl) ?_)))))
local macro_rules | `(tactic| walk_at "CompSrc") => `(tactic| refine unstop ?_)
local macro_rules | `(tactic| walk_at "CompSrcT") => `(tactic| refine unstop ?_)
local macro_rules | `(tactic| walk_at "pyIter ref") => `(tactic| refine unstop ?_)
local macro_rules | `(tactic| walk_at "call ref") => `(tactic| refine unstop ?_)
local macro_rules | `(tactic| walk_at "CompEnd") => `(tactic| refine unstop ?_)
local macro_rules | `(tactic| walk_at "call builtin:min") => `(tactic| refine unstop ?_)
local macro_rules | `(tactic| walk_at "exec For Name Name cons nil") => `(tactic| (k_here; (rename Fr _ _ _ _ => lF'); (with_unfolding_all refine' For_invVF lF' ?k1 ?k2 ?_; (case k1 => exact rfl); (case k2 => exact rfl); k_whole)))
local macro_rules | `(tactic| walk_at "exec For Name Call cons nil") => `(tactic| (k_here; (rename Fr _ _ _ _ => lF'); (with_unfolding_all refine' For_invVF lF' ?k1 ?k2 ?_; (case k1 => exact rfl); (case k2 => exact rfl); k_whole)))
def isEnd (cs : List Int) (i : Nat) : Bool := (i + 1 == cs.length) || (cs[i + 1]? != cs[i]?)
def endsTo (cs : List Int) (i : Nat) : List Int := ((List.range i).filter (isEnd cs)).map fun j => ((j + 1 : Nat) : Int)
theorem endsTo_succ (cs : List Int) (i : Nat) : endsTo cs (i + 1) = if isEnd cs i = true then endsTo cs i ++ [((i + 1 : Nat) : Int)] else endsTo cs i := by
  unfold endsTo
  rw [List.range_succ, List.filter_append, List.map_append]
  by_cases h : isEnd cs i = true
  · rw [if_pos h]; simp [h]
  · rw [if_neg h]; simp [h]
theorem isEnd_last {rows : List Row} {i : Nat} (h : i + 1 = rows.length) : isEnd (rows.map Row.cl) i = true := by
  unfold isEnd; simp [h]
theorem isEnd_ne {rows : List Row} {i : Nat} (h1 : i + 1 < rows.length) (h : (rows[i + 1]'h1).cl ≠ (rows[i]'(by omega)).cl) : isEnd (rows.map Row.cl) i = true := by
  unfold isEnd
  rw [List.getElem?_map, List.getElem?_map, List.getElem?_eq_getElem h1, List.getElem?_eq_getElem (by omega : i < rows.length)]
  simp [h]
theorem isEnd_eq {rows : List Row} {i : Nat} (h1 : i + 1 < rows.length) (h : (rows[i + 1]'h1).cl = (rows[i]'(by omega)).cl) : isEnd (rows.map Row.cl) i = false := by
  unfold isEnd
  rw [List.getElem?_map, List.getElem?_map, List.getElem?_eq_getElem h1, List.getElem?_eq_getElem (by omega : i < rows.length)]
  simp [h]
  omega
section
variable {w : World} {mean : ExcName → Option Value} {mg mb : Str → Option Value} {A : Around} {base : Heap} {outer : List Env} {g : Heap} {env : Env} {L : Addr} {s : Shared} {m : Str → Option Value} {E : Value → Shared → Prop} {Q : Value → Shared → Prop}
theorem len_refs {rl : Addr} {rows : List Row} (hl : g.IsList rl (rows.map Row.ref).toArray) (hlen : rows.length ≤ 100) (F : Fr g L s.heap m) (h : Q (.int (rows.length : Nat) (s.toks + 1)) { s with toks := s.toks + 1 + 1 }) :
    wpAny (model PySem.Challenge.rw_pb0161_01.row.prog w) A (call (.builtin "len") [.ref rl]) Q E s :=
  Calls.call_len_list (IsList.keep' hl F.keep) (by rw [List.size_toArray, List.length_map]; omega) (by rw [List.size_toArray, List.length_map]; exact h)
theorem item_refs {rl : Addr} {rows : List Row} {value slice : PySem.Expr} {k : Int} {u : Tok} (hl : g.IsList rl (rows.map Row.ref).toArray) (hlen : rows.length ≤ 100) (F : Fr g L s.heap m) (h0 : 0 ≤ k) (h1 : k < rows.length)
    (h : ∀ hj : k.toNat < rows.length, Q (.ref (rows[k.toNat]'hj).x) s)
    (hs : subscripted slice false (.ref rl) (.int k u) = operate [.ref rl, .int k u] (getItem (.ref rl) (.int k u)) := by with_unfolding_all rfl) :
    wpAny (model PySem.Challenge.rw_pb0161_01.row.prog w) A (subscriptTail value slice (.ref rl) (.int k u)) Q E s := by
  have hL := IsList.keep' hl F.keep
  have hj : k.toNat < rows.length := by omega
  refine tail_any hL.typeIs slot_list_getitem.lookup (wpAny_getItem_list hL h0 (by omega) ?_ (h hj)) hs
  simp [List.getElem?_eq_getElem hj, Row.ref]
theorem get_cluster_row {expr : Bool} {rows : List Row} {k : Nat} {hk : k < rows.length} (X : (hd.heap_39 w.params).In g) (F : Fr g L s.heap m) (hR : RowsIn g rows) (h : ∀ t, Q (.int (rows[k]'hk).cl t) { s with toks := s.toks + 1 }) :
    wpAny (model PySem.Challenge.rw_pb0161_01.row.prog w) A (getAttr (.ref (rows[k]'hk).x) (Str.ofString "cluster") expr) Q E s :=
  have r := hR _ (List.getElem_mem hk)
  get_cluster X F (F.keep _ _ r.1) (F.keep _ _ r.2.1) r.2.2 h
local macro_rules | `(tactic| walk_at "getAttr ref") => `(tactic| (first | (k_here; refine get_cluster_row (by assumption) (by assumption) (by assumption) ?_; intro _) | refine unstop ?_))
local macro_rules | `(tactic| walk_at "call builtin:len") => `(tactic| (k_here; k_dflt (refine len_refs (by assumption) (by assumption) (by assumption) ?_)))
local macro_rules | `(tactic| walk_at "subscriptTail") => `(tactic| (k_here; k_dflt (refine item_refs (by assumption) (by assumption) (by assumption) (by omega) (by omega) ?_); intro _))
set_option maxRecDepth 100000 in
set_option maxHeartbeats 8000000 in
theorem ends_call {b bd rl : Addr} {bes : List DictEntry} {bn : Nat} {rows : List Row} (C : Cx w mean mg mb A base outer g env L) (F : Fr g L s.heap m)
    (hb : s.heap.get? b = some (instObj 105 bd)) (hbd : s.heap.get? bd = some (dictOf bes bn)) (hB : BufEs bes rl) (hl : s.heap.IsList rl (rows.map Row.ref).toArray) (hR : RowsIn s.heap rows) (hlen : rows.length ≤ 100)
    (hdep : A.depth ≤ 500) (hun : A.units ≤ 2000)
    (h : ∀ D ys h' tk, IntsAre ys (endsTo (rows.map Row.cl) rows.length) → News g L h' [(D, LCg.lst ys)] → s.heap.get? D = none → Fr g L h' m → GSub s.heap h' [] → Q (.ref D) { s with heap := h', toks := tk }) :
    wpAny (model PySem.Challenge.rw_pb0161_01.row.prog w) A (call (.ref 114) [.ref b]) Q E s := by
  have N : News g L s.heap [] := News.nil
  have F₀ := F
  have N₀ := N
  have X₀ := C.X
  revert X₀; k_fill; intro X₀
  refine wpAny_call ?_
  refine' Cx.callC C F N ?ho ?hcd ?hroom ?hbind ?hkind ?hnd ?_ ?c2 ?c3 ?c4
  case ho => k_is
  case hcd => k_is
  case hroom => show A.depth < 1000; omega
  case hbind => exact BindsTo.of_eq rfl
  case hkind => exact rfl
  case hnd => decide +kernel
  case c2 => exact rfl
  case c3 => exact rfl
  case c4 => exact rfl
  intro g' L' h₁ tk₁ cells₁ C' F' N' Y' l1' G'
  try dsimp only
  clear F N
  have k0 := gsub_nil G'
  have hb1 := k0 _ _ hb
  have hbd1 := k0 _ _ hbd
  have hl1 := IsList.keep' hl k0
  have hR1 := hR.keep k0
  have X' := C'.X
  have T' := C'.T
  have hh' := C'.hh
  clear X₀ hl hR
  k_cells Y'
  try simp only [List.cons_append, List.nil_append] at N'
  k_unmd
  k_fold
  k_steps
  (rename Fr _ _ _ _ => F1); (rename News _ _ _ _ => N1)
  refine Stop.mk (get_row X' F1 (F1.keep _ _ hb1) (F1.keep _ _ hbd1) hB ?_)
  k_unmd
  k_steps
  (rename Fr _ _ _ _ => F2); (rename News _ _ _ _ => N2)
  rename IsRange _ _ _ _ _ _ _ _ => hr
  refine Stop.mk (LCt.CompSrcT.range hh' F2 N2 hr (small_one (by decide) (by decide) (by omega) (by omega)) (by rw [rangeSize_nat]; simp) (by rw [sizeLine_eq]; omega) (fun g0 => compRestT_inv rows.length (fun i ys news => IntsAre ys (endsTo (rows.map Row.cl) i) ∧ news = _) ?_ ?_ _ 0 [] _ (Nat.zero_add _) ⟨.nil, rfl⟩))
  · rintro i ys news hi ⟨hys, rfl⟩ v I oI C oC D m₂ h tk E' ⟨t, rfl⟩ hC hx F N off ne
    clear F2 N2 hr
    try clear F1 N1
    k_unmd
    k_fold
    k_steps
    all_goals (have e0 : (0 + (i : Int)).toNat = i := by omega)
    all_goals (have e1 : (0 + (i : Int) + 1).toNat = i + 1 := by omega)
    all_goals (have e2 : (0 + (i : Int) + 1) = ((i + 1 : Nat) : Int) := by omega)
    · have hE : isEnd (rows.map Row.cl) i = true := isEnd_last (by omega)
      refine Stop.mk (LCg.CompEnd.intro F N [_] (by lcg_sub) off trivial ⟨?_, rfl⟩)
      rw [endsTo_succ, if_pos hE, e2]
      exact hys.append (.cons _ _ .nil)
    · have hE : isEnd (rows.map Row.cl) i = true := by
        rename _ ≠ _ => hne
        refine isEnd_ne (by omega) ?_
        simpa only [e0, e1] using hne
      refine Stop.mk (LCg.CompEnd.intro F N [_] (by lcg_sub) off trivial ⟨?_, rfl⟩)
      rw [endsTo_succ, if_pos hE, e2]
      exact hys.append (.cons _ _ .nil)
    · have hE : isEnd (rows.map Row.cl) i = false := by
        rename Row.cl _ = Row.cl _ => hne
        refine isEnd_eq (by omega) ?_
        simpa only [e0, e1] using hne
      refine Stop.mk (LCg.CompEnd.intro F N [_] (by lcg_sub) off trivial ⟨?_, rfl⟩)
      rw [endsTo_succ, if_neg (by rw [hE]; decide)]
      exact hys
  · rintro ys news ⟨hys, rfl⟩ D h' tk F N o1
    dsimp only
    (try k_unmd); (try k_unfold); (try k_unmd); (try k_unfold)
    refine ⟨_, F, fun FL G => h D ys h' _ hys (fun p hp => news_ret F₀ N₀ G' N p ?_) (fresh_of G' N _ (List.Mem.head _) (by simp)) FL G⟩
    rw [List.mem_singleton.mp hp]
    exact List.Mem.head _
end
end Mine
namespace Mine
local macro_rules | `(tactic| walk_at "pad MHang 0") => `(tactic| skip)
local macro_rules | `(tactic| units_room) => `(tactic| ((try simp only [units_deeper, units_in1]); (have hcL := cLine_is); omega))
local macro_rules | `(tactic| walk_at "eval ListComp") => `(tactic| (k_here; (first
  | ((with_reducible show wpAny _ _ (PySem.eval (PySem.Expr.ListComp _ [PySem.Comprehension.mk _ _ [] _] _ _) _) _ _ _); k_dflt (refine LCg.ListComp_U (F₀ := by k_asm) (by with_unfolding_all rfl) (by decide) (by rfl) (by decide) (by rfl) ?_))
  | ((with_reducible show wpAny _ _ (PySem.eval (PySem.Expr.ListComp _ [PySem.Comprehension.mk _ _ [_] _] _ _) _) _ _ _); k_dflt (refine LCt.ListComp_T (F₀ := by k_asm) (by with_unfolding_all rfl) (by decide) (by rfl) (by decide) (by rfl) ?_)))))
local macro_rules | `(tactic| walk_at "CompSrc") => `(tactic| refine unstop ?_)
local macro_rules | `(tactic| walk_at "CompSrcT") => `(tactic| refine unstop ?_)
local macro_rules | `(tactic| walk_at "pyIter ref") => `(tactic| refine unstop ?_)
local macro_rules | `(tactic| walk_at "call ref") => `(tactic| refine unstop ?_)
local macro_rules | `(tactic| walk_at "CompEnd") => `(tactic| refine unstop ?_)
local macro_rules | `(tactic| walk_at "call builtin:min") => `(tactic| refine unstop ?_)
local macro_rules | `(tactic| walk_at "exec For Name Name cons nil") => `(tactic| (k_here; (rename Fr _ _ _ _ => lF'); (with_unfolding_all refine' For_invVF lF' ?k1 ?k2 ?_; (case k1 => exact rfl); (case k2 => exact rfl); k_whole)))
local macro_rules | `(tactic| walk_at "exec For Name Call cons nil") => `(tactic| (k_here; (rename Fr _ _ _ _ => lF'); (with_unfolding_all refine' For_invVF lF' ?k1 ?k2 ?_; (case k1 => exact rfl); (case k2 => exact rfl); k_whole)))
local macro_rules | `(tactic| walk_at "getAttr ref") => `(tactic| refine unstop ?_)
local macro_rules | `(tactic| walk_at "subscriptTail") => `(tactic| refine unstop ?_)
local macro_rules | `(tactic| walk_at "call builtin:len") => `(tactic| refine unstop ?_)
def Row.key (r : Row) : Addr × Addr × Int × Int := (r.x, r.d, r.gl, r.cl)
def UAt (rows : List Row) (U : Nat → Prop) : Prop := ∀ j (hj : j < rows.length), (rows[j]'hj).u = true ↔ U j
def HangAt (cs : List Int) (lo hi j : Nat) : Prop := lo ≤ j ∧ j < hi ∧ ∃ k, lo ≤ k ∧ k < hi ∧ cs.getD k 0 < cs.getD j 0
theorem key_len {r r' : List Row} (h : r'.map Row.key = r.map Row.key) : r'.length = r.length := by simpa using congrArg List.length h
theorem key_cl {r r' : List Row} (h : r'.map Row.key = r.map Row.key) : r'.map Row.cl = r.map Row.cl := by
  have := congrArg (List.map fun k : Addr × Addr × Int × Int => k.2.2.2) h
  simpa [List.map_map, Function.comp_def, Row.key] using this
theorem key_gl {r r' : List Row} (h : r'.map Row.key = r.map Row.key) : r'.map Row.gl = r.map Row.gl := by
  have := congrArg (List.map fun k : Addr × Addr × Int × Int => k.2.2.1) h
  simpa [List.map_map, Function.comp_def, Row.key] using this
theorem key_d {r r' : List Row} (h : r'.map Row.key = r.map Row.key) : r'.map Row.d = r.map Row.d := by
  have := congrArg (List.map fun k : Addr × Addr × Int × Int => k.2.1) h
  simpa [List.map_map, Function.comp_def, Row.key] using this
theorem key_ref {r r' : List Row} (h : r'.map Row.key = r.map Row.key) : r'.map Row.ref = r.map Row.ref := by
  have := congrArg (List.map fun k : Addr × Addr × Int × Int => Value.ref k.1) h
  simpa [List.map_map, Function.comp_def, Row.key, show Row.ref = fun x : Row => Value.ref x.x from rfl] using this
theorem key_at {r r' : List Row} (h : r'.map Row.key = r.map Row.key) {j : Nat} (hj : j < r.length) (hj' : j < r'.length) : (r'[j]'hj').key = (r[j]'hj).key := by
  have := congrArg (fun l => l[j]?) h
  simpa [List.getElem?_eq_getElem hj, List.getElem?_eq_getElem hj'] using this
theorem led_fst (rows : List Row) : (rows.map Row.led).map (·.1) = rows.map Row.d := by simp [List.map_map, Function.comp_def, Row.led]
/-- where the instances stand -/
def XIn (h : Heap) (rows : List Row) : Prop := ∀ r ∈ rows, h.get? r.x = some (instObj 52 r.d)
theorem xin_key {h : Heap} {r r' : List Row} (hk : r'.map Row.key = r.map Row.key) (X : XIn h r) : XIn h r' := by
  intro q hq
  obtain ⟨j, hj, rfl⟩ := List.getElem_of_mem hq
  have hj2 : j < r.length := by rw [← key_len hk]; exact hj
  have e := key_at hk hj2 hj
  have x := X _ (List.getElem_mem hj2)
  have e1 : (r'[j]).x = (r[j]).x := congrArg (·.1) e
  have e2 : (r'[j]).d = (r[j]).d := congrArg (·.2.1) e
  rw [e1, e2]; exact x
/-- a row's mark set -/
def Row.mark (r : Row) (es : List DictEntry) : Row := { r with es := es, u := true }
theorem mark_split {rows : List Row} {j : Nat} (hj : j < rows.length) : rows.map Row.led = (rows.take j).map Row.led ++ (rows[j].d, dictOf rows[j].es rows[j].n) :: (rows.drop (j + 1)).map Row.led := by
  have : rows = rows.take j ++ rows[j] :: rows.drop (j + 1) := by simp
  calc rows.map Row.led = (rows.take j ++ rows[j] :: rows.drop (j + 1)).map Row.led := by rw [← this]
    _ = _ := by rw [List.map_append, List.map_cons]; rfl
theorem mark_split' {rows : List Row} {j : Nat} (hj : j < rows.length) (es : List DictEntry) : (rows.set j (rows[j].mark es)).map Row.led = (rows.take j).map Row.led ++ (rows[j].d, dictOf es rows[j].n) :: (rows.drop (j + 1)).map Row.led := by
  rw [List.set_eq_take_append_cons_drop, if_pos hj, List.map_append, List.map_cons]; rfl
theorem mark_key {rows rows₀ : List Row} {j : Nat} (hj : j < rows.length) (es : List DictEntry) (hk : rows.map Row.key = rows₀.map Row.key) : (rows.set j (rows[j].mark es)).map Row.key = rows₀.map Row.key := by
  rw [← hk, List.map_set]
  apply List.ext_getElem
  · simp
  · intro i h1 h2
    rw [List.getElem_set]
    split
    · rename_i e; subst e; simp [Row.mark, Row.key]
    · rfl
theorem mark_ok {rows : List Row} {j : Nat} (hj : j < rows.length) (es : List DictEntry) (ho : ∀ r ∈ rows, r.ok) (hi : InfoEs es rows[j].gl rows[j].cl true) : ∀ r ∈ rows.set j (rows[j].mark es), r.ok := by
  intro r hr
  rcases List.mem_or_eq_of_mem_set hr with h | rfl
  · exact ho r h
  · exact hi
theorem mark_u {rows : List Row} {j : Nat} (hj : j < rows.length) (es : List DictEntry) {U U' : Nat → Prop} (hU : UAt rows U) (h1 : U' j) (h2 : ∀ i, i ≠ j → (U' i ↔ U i)) : UAt (rows.set j (rows[j].mark es)) U' := by
  intro i hi
  rw [List.getElem_set]
  split
  · rename_i e; subst e; exact ⟨fun _ => h1, fun _ => rfl⟩
  · rename_i e
    rw [h2 i (Ne.symm e)]
    exact hU i _
theorem d_apart {rows : List Row} {j : Nat} (hj : j < rows.length) (hnd : (rows.map Row.d).Nodup) : (∀ p ∈ (rows.take j).map Row.led, p.1 ≠ rows[j].d) ∧ ∀ p ∈ (rows.drop (j + 1)).map Row.led, p.1 ≠ rows[j].d := by
  have e : rows = rows.take j ++ rows[j] :: rows.drop (j + 1) := by simp
  have h2 : ((rows.take j).map Row.d ++ rows[j].d :: (rows.drop (j + 1)).map Row.d).Nodup := by
    rw [← List.map_cons, ← List.map_append, ← e]; exact hnd
  rw [List.nodup_append] at h2
  obtain ⟨_, h3, h4⟩ := h2
  rw [List.nodup_cons] at h3
  constructor
  · rintro p hp q
    obtain ⟨r, hr, rfl⟩ := List.mem_map.mp hp
    exact h4 r.d (List.mem_map_of_mem hr) rows[j].d (.head _) q
  · rintro p hp q
    obtain ⟨r, hr, rfl⟩ := List.mem_map.mp hp
    exact h3.1 (q ▸ List.mem_map_of_mem hr)
section
variable {w : World} {mean : ExcName → Option Value} {mg mb : Str → Option Value} {A : Around} {base : Heap} {outer : List Env} {g : Heap} {env : Env} {L : Addr} {s : Shared} {m : Str → Option Value} {E : Value → Shared → Prop} {Q : Value → Shared → Prop}
theorem slice_any {value slice : PySem.Expr} {l : Addr} {items : Array Value} {vl vu : Value} {lo hi : Option Int} {news : List (Addr × Obj)} (F : Fr g L s.heap m) (N : News g L s.heap news) (hl : s.heap.IsList l items) (pl : IsPart vl lo) (pu : IsPart vu hi)
    (h : ∀ D h', Fr g L h' m → News g L h' ((D, W.listOf (slicePick items lo hi none) 0) :: news) → (∀ p ∈ news, p.1 < D) → Q (.ref D) { s with heap := h' })
    (hs : subscripted slice false (.ref l) (.ref s.heap.objs.size) = operate [.ref s.heap.objs.size, .ref l] (getItem (.ref l) (.ref s.heap.objs.size))) (hsz : items.size ≤ sizeLine) :
    wpAny (model PySem.Challenge.rw_pb0161_01.row.prog w) A (subscriptTail value slice (.ref l) (.ref s.heap.objs.size)) Q E { s with heap := s.heap.push { cls := .type "slice", data := .fields #[vl, vu, .none] } } := by
  have hl2 : (s.heap.push { cls := .type "slice", data := .fields #[vl, vu, .none] }).IsList l items := hl.push _
  refine tail_any (Heap.IsList.typeIs (s := { s with heap := s.heap.push { cls := .type "slice", data := .fields #[vl, vu, .none] } }) hl2) slot_list_getitem.lookup (wpAny_getItem_list_slice hl2 (Heap.IsSliceOf.new ..) pl pu .none (by simp) ?_ hsz) hs
  have N1 := News.push (F.push { cls := .type "slice", data := .fields #[vl, vu, .none] }) (N.grown fun _ _ e => Heap.get?_push_of_some _ e) { cls := .type "list", data := .seq (slicePick items lo hi none) }
  rw [Heap.size_push] at N1
  show Q (.ref (s.heap.push _).objs.size) _
  rw [Heap.size_push]
  exact h _ _ ((F.push _).push _) N1 fun p hp => Nat.lt_succ_of_lt (Heap.lt_size (N p hp).1)
theorem pick_run' {l : List Value} {lo hi : Nat} (h1 : lo ≤ hi) (h2 : hi ≤ l.length) : slicePick l.toArray (some (lo : Int)) (some (hi : Int)) none = ((l.drop lo).take (hi - lo)).toArray := by
  rw [kms_pick_eq]
  unfold kms_pick kms_lo kms_hi
  dsimp only
  rw [if_neg (by omega), if_neg (by omega)]
  simp only [Int.toNat_natCast]
  rw [Nat.min_eq_left (by omega), Nat.min_eq_left (by omega)]
theorem slice_refs {value slice : PySem.Expr} {rl : Addr} {rows : List Row} {lo hi : Nat} {t1 t2 : Tok} {news : List (Addr × Obj)} (h1 : lo ≤ hi) (h2 : hi ≤ rows.length) (h3 : rows.length ≤ 100) (F : Fr g L s.heap m) (N : News g L s.heap news) (hl : g.IsList rl (rows.map Row.ref).toArray)
    (h : ∀ D h', Fr g L h' m → News g L h' ((D, W.listOf (((rows.drop lo).take (hi - lo)).map Row.ref).toArray 0) :: news) → (∀ p ∈ news, p.1 < D) → Q (.ref D) { s with heap := h' })
    (hs : subscripted slice false (.ref rl) (.ref s.heap.objs.size) = operate [.ref s.heap.objs.size, .ref rl] (getItem (.ref rl) (.ref s.heap.objs.size))) :
    wpAny (model PySem.Challenge.rw_pb0161_01.row.prog w) A (subscriptTail value slice (.ref rl) (.ref s.heap.objs.size)) Q E { s with heap := s.heap.push { cls := .type "slice", data := .fields #[.int lo t1, .int hi t2, .none] } } := by
  refine slice_any F N (IsList.keep' hl F.keep) (.int _ _) (.int _ _) (fun D h' F' N' l' => h D h' F' ?_ l') hs (by rw [sizeLine_eq, List.size_toArray, List.length_map]; omega)
  rw [pick_run' h1 (by rw [List.length_map]; exact h2), ← List.map_drop, ← List.map_take] at N'
  exact N'
theorem len_led {D : Addr} {its : Array Value} {k : Nat} {news : List (Addr × Obj)} (N : News g L s.heap news) (hm : (D, W.listOf its k) ∈ news) (hz : its.size ≤ 1000) (h : Q (.int (its.size : Nat) (s.toks + 1)) { s with toks := s.toks + 1 + 1 }) :
    wpAny (model PySem.Challenge.rw_pb0161_01.row.prog w) A (call (.builtin "len") [.ref D]) Q E s :=
  Calls.call_len_list ⟨_, (N _ hm).1, rfl, _, rfl⟩ (by omega) h
set_option maxRecDepth 100000 in
set_option maxHeartbeats 8000000 in
theorem hang_call {b bd rl : Addr} {bes : List DictEntry} {bn : Nat} {rows : List Row} {lo hi : Nat} {t1 t2 : Tok} {U : Nat → Prop} (C : Cx w mean mg mb A base outer g env L) (F : Fr g L s.heap m) (N : News g L s.heap (rows.map Row.led))
    (hb : s.heap.get? b = some (instObj 105 bd)) (hbd : s.heap.get? bd = some (dictOf bes bn)) (hB : BufEs bes rl) (hbn : bd ∉ rows.map Row.d) (hl : s.heap.IsList rl (rows.map Row.ref).toArray) (hX : XIn s.heap rows) (hok : ∀ r ∈ rows, r.ok) (hnd : (rows.map Row.d).Nodup)
    (hU : UAt rows U) (h1 : lo ≤ hi) (h2 : hi ≤ rows.length) (hlen : rows.length ≤ 100)
    (hdep : A.depth ≤ 500) (hun : A.units ≤ 2000)
    (h : ∀ rows' h' tk, rows'.map Row.key = rows.map Row.key → (∀ r ∈ rows', r.ok) → UAt rows' (fun j => U j ∨ HangAt (rows.map Row.cl) lo hi j) → News g L h' (rows'.map Row.led) → Fr g L h' m → GSub s.heap h' (rows.map Row.d) → Q .none { s with heap := h', toks := tk }) :
    wpAny (model PySem.Challenge.rw_pb0161_01.row.prog w) A (call (.ref 119) [.ref b, .int lo t1, .int hi t2]) Q E s := by
  have F₀ := F
  have N₀ := N
  have X₀ := C.X
  revert X₀; k_fill; intro X₀
  refine wpAny_call ?_
  refine' Cx.call C F N ?ho ?hcd ?hroom ?hbind ?hloc ?_ ?c2 ?c3 ?c4 ?c5
  case ho => k_is
  case hcd => k_is
  case hroom => show A.depth < 1000; omega
  case hbind => exact BindsTo.of_eq rfl
  case hloc => exact locs rfl
  case c2 => exact rfl
  case c3 => exact rfl
  case c4 => exact rfl
  case c5 => decide
  intro g' L' h₁ C' F' N' G'
  dsimp only
  clear F N
  rw [led_fst] at G'
  have hb1 : g'.get? b = some (instObj 105 bd) := G' _ _ hb (fun hm => by
    obtain ⟨r, hr, e⟩ := List.mem_map.mp hm
    have := (N₀ _ (List.mem_map_of_mem hr)).1
    rw [Row.led, e, hb] at this; cases this)
  have hbd1 : g'.get? bd = some (dictOf bes bn) := G' _ _ hbd hbn
  have hl1 : g'.IsList rl (rows.map Row.ref).toArray := by
    obtain ⟨o, e, c, n, d⟩ := hl
    refine ⟨o, G' _ _ e (fun hm => ?_), c, n, d⟩
    obtain ⟨r, hr, e2⟩ := List.mem_map.mp hm
    have := (N₀ _ (List.mem_map_of_mem hr)).1
    rw [Row.led, e2, e] at this; cases this; cases d
  have hX1 : XIn g' rows := fun q hq => G' _ _ (hX q hq) (fun hm => by
    obtain ⟨r, hr, e⟩ := List.mem_map.mp hm
    have := (N₀ _ (List.mem_map_of_mem hr)).1
    rw [Row.led, e, hX q hq] at this; cases this)
  have X' := C'.X
  have T' := C'.T
  have hh' := C'.hh
  have fin : ∀ (rows' : List Row) (m' : Str → Option Value) (h' : Heap) (tk : Nat) (news' : List (Addr × Obj)) (fl : Flow), rows'.map Row.key = rows.map Row.key → (∀ r ∈ rows', r.ok) → UAt rows' (fun j => U j ∨ HangAt (rows.map Row.cl) lo hi j) → Fr g' L' h' m' → News g' L' h' news' → (∀ p ∈ rows'.map Row.led, p ∈ news') →
      (fl = .next ∨ fl = .ret .none) → EndB g L m s (rows.map Row.led) g' L' (fun r s' => match r with | .ok (.ret v) => Q v s' | .ok _ => False | .error e => E e s') fl { s with heap := h', toks := tk } := by
    intro rows' m' h' tk news' fl hk ho hU' F' N' hs hfl
    refine ⟨m', F', fun FL G => ?_⟩
    have G2 : GSub s.heap h' (rows.map Row.d) := by rw [led_fst] at G; exact G
    have e := h rows' h' tk hk ho hU' (fun p hp => news_ret F₀ N₀ (by rw [led_fst]; exact G') N' p (hs p hp)) FL G2
    rcases hfl with rfl | rfl <;> exact e
  clear X₀ hb hbd hl hX h
  k_unmd
  k_fold
  k_steps
  (rename Fr _ _ _ _ => F1); (rename News _ _ _ _ => N1)
  refine Stop.mk (get_row X' F1 (F1.keep _ _ hb1) (F1.keep _ _ hbd1) hB ?_)
  k_unmd
  k_steps
  (rename Fr _ _ _ _ => F1); (rename News _ _ _ _ => N1)
  refine Stop.mk (slice_refs h1 h2 hlen F1 N1 hl1 ?_ (by with_unfolding_all rfl))
  intro D hh2 F2 N2 l2
  clear F1 N1
  k_unmd
  k_steps
  (rename Fr _ _ _ _ => F1); (rename News _ _ _ _ => N1)
  have hcut : (((rows.drop lo).take (hi - lo)).map Row.ref).length = hi - lo := by rw [List.length_map, List.length_take, List.length_drop]; omega
  refine Stop.mk (len_led N1 (.head _) (by rw [List.size_toArray, hcut]; omega) ?_)
  rw [List.size_toArray, hcut]
  k_unmd
  k_steps
  · dsimp only
    (try k_unmd); (try k_unfold); (try k_unmd); (try k_unfold)
    refine fin rows _ _ _ _ _ rfl hok ?_ F1 N1 (fun p hp => List.mem_cons_of_mem _ hp) (.inr rfl)
    intro j hj
    rw [hU j hj]
    refine ⟨.inl, fun q => q.resolve_right ?_⟩
    rintro ⟨a, b, k, c, d, e⟩
    have : k = j := by omega
    subst this
    omega
  · rename ¬ _ => hbig
    have hne : 0 < hi - lo := by omega
    have hsl : ∀ i (hi' : i < hi - lo), ((((rows.drop lo).take (hi - lo)).map Row.ref).toArray)[i]? = some (Row.ref (rows[lo + i]'(by omega))) := by
      intro i hi'
      simp [List.getElem?_take, hi', List.getElem?_eq_getElem (by omega : lo + i < rows.length)]
    refine Stop.mk (LCg.CompSrc.ledger hh' F1 N1 (.head _) (by rw [sizeLine_eq, List.size_toArray, hcut]; omega) (fun g0 => compRest_inv _ (fun i ys news => IntsAre ys ((((rows.drop lo).take (hi - lo)).take i).map Row.cl) ∧ news = (D, W.listOf (((rows.drop lo).take (hi - lo)).map Row.ref).toArray 0) :: rows.map Row.led) ?_ ?_ _ 0 [] _ (Nat.zero_add _) ⟨.nil, rfl⟩))
    · rintro i ys news hi' ⟨hys, rfl⟩ v I oI C oC D' m₂ h tk E' hv hC hx F N off ne
      clear F1 N1
      rw [List.size_toArray, hcut] at hi'
      rw [hsl i hi'] at hv
      obtain rfl := Option.some.inj hv
      have hj : lo + i < rows.length := by omega
      have r1 := hX1 _ (List.getElem_mem hj)
      have r2 : h.get? (rows[lo + i]).d = some (dictOf (rows[lo + i]).es (rows[lo + i]).n) := (N (Row.led rows[lo + i]) (by simp only [List.mem_cons]; exact .inr (.inr (.inr (.inr (List.mem_map_of_mem (List.getElem_mem hj))))))).1
      have r3 := hok _ (List.getElem_mem hj)
      k_unmd
      k_fold
      k_steps
      refine Stop.mk (get_cluster X' F (F.keep _ _ r1) r2 r3 ?_)
      intro t
      k_unmd
      k_steps
      refine Stop.mk (LCg.CompEnd.intro F N _ (fun p hp => hp) off (Or.inr ⟨_, .head _, rfl, _, rfl⟩) ⟨?_, rfl⟩)
      have e1 : ((rows.drop lo).take (hi - lo))[i]? = some rows[lo + i] := by simp [List.getElem?_take, hi', List.getElem?_eq_getElem hj]
      rw [List.take_add_one, e1, Option.toList_some, List.map_append]
      exact hys.append (.cons _ _ .nil)
    · rintro ys news ⟨hys, rfl⟩ Dm h' tk F N o1
      clear F1 N1
      have hlen2 : ((rows.drop lo).take (hi - lo)).length = hi - lo := by rw [List.length_take, List.length_drop]; omega
      rw [List.size_toArray, hcut, List.take_of_length_le (by omega : ((rows.drop lo).take (hi - lo)).length ≤ hi - lo)] at hys
      k_unmd
      k_steps
      refine Stop.mk (kso_min F N ⟨_, (N _ (.head _)).1, rfl, _, rfl⟩ hys (by rw [List.length_map]; omega) hh' ?_)
      intro h3 M t3 tk3 F3 N3 hM1 hM2
      clear F N
      k_unmd
      k_steps
      (rename Fr _ _ _ _ => F4); (rename News _ _ _ _ => N4)
      have hcl : ∀ j, lo ≤ j → j < hi → (rows.map Row.cl).getD j 0 ∈ ((rows.drop lo).take (hi - lo)).map Row.cl := by
        intro j a b
        have hj : j < rows.length := by omega
        rw [List.mem_map]
        refine ⟨rows[j], List.mem_iff_getElem.mpr ⟨j - lo, by omega, ?_⟩, by simp [List.getElem?_eq_getElem hj]⟩
        rw [List.getElem_take, List.getElem_drop]
        congr 1; omega
      have hmin : ∃ k, lo ≤ k ∧ k < hi ∧ (rows.map Row.cl).getD k 0 = M := by
        obtain ⟨r, hr, e⟩ := List.mem_map.mp hM1
        obtain ⟨k, hk, e2⟩ := List.getElem_of_mem hr
        rw [List.getElem_take, List.getElem_drop] at e2
        refine ⟨lo + k, by omega, by omega, ?_⟩
        have hj : lo + k < rows.length := by omega
        simp [List.getElem?_eq_getElem hj, e2, e]
      refine Stop.mk (loop_listM [] hh' F4 (news := rows.map Row.led) (fun p hp => N4 p (.tail _ (.tail _ hp))) ⟨_, (N4 _ (.tail _ (.head _))).1, rfl, _, rfl⟩
        (fun i _ news => ∃ rows', rows'.map Row.key = rows.map Row.key ∧ (∀ r ∈ rows', r.ok) ∧ UAt rows' (fun j => U j ∨ (lo ≤ j ∧ j < lo + i ∧ (rows.map Row.cl).getD j 0 ≠ M)) ∧ news = rows'.map Row.led)
        ⟨rows, rfl, hok, fun j hj => by rw [hU j hj]; exact ⟨.inl, fun q => q.resolve_right (by rintro ⟨a, b, _⟩; omega)⟩, rfl⟩ ?_ ?_)
      · rintro i v u news₁ h5 tk5 own hi5 hv ⟨rows', hk, ho, hu, rfl⟩ hoff hown hst F N
        clear F4 N4
        rw [List.size_toArray, hcut] at hi5
        rw [hsl i hi5] at hv
        obtain rfl := Option.some.inj hv
        have hj : lo + i < rows.length := by omega
        have hj' : lo + i < rows'.length := by rw [key_len hk]; exact hj
        have hkey := key_at hk hj hj'
        have kx : (rows'[lo + i]).x = (rows[lo + i]).x := congrArg (·.1) hkey
        have kcl : (rows'[lo + i]).cl = (rows[lo + i]).cl := congrArg (·.2.2.2) hkey
        have kcs : (rows.map Row.cl).getD (lo + i) 0 = (rows'[lo + i]).cl := by simp [List.getElem?_eq_getElem hj, kcl]
        have r1 := F.keep _ _ (xin_key hk hX1 _ (List.getElem_mem hj'))
        have r2 : h5.get? (rows'[lo + i]).d = some (dictOf (rows'[lo + i]).es (rows'[lo + i]).n) := (N (Row.led rows'[lo + i]) (List.mem_append_right _ (List.mem_map_of_mem (List.getElem_mem hj')))).1
        have r3 := ho _ (List.getElem_mem hj')
        have hvr : Row.ref (rows[lo + i]) = .ref (rows'[lo + i]).x := by rw [kx]; rfl
        rw [hvr] at F
        k_unmd
        k_fold
        k_steps
        refine Stop.mk (get_cluster X' F r1 r2 r3 ?_)
        intro t
        k_unmd
        k_steps
        · have hap := d_apart hj' ((key_d hk).symm ▸ hnd)
          have hnI := hoff (Row.led rows'[lo + i]) (List.mem_map_of_mem (List.getElem_mem hj'))
          have hnD : (rows'[lo + i]).d ≠ D := by
            intro e
            obtain ⟨o, eo, _, n, d⟩ := hst
            rw [← e, r2] at eo; cases eo; cases d
          have N5 : News g' L' h5 ((own ++ (rows'.take (lo + i)).map Row.led) ++ ((rows'[lo + i]).d, dictOf (rows'[lo + i]).es (rows'[lo + i]).n) :: (rows'.drop (lo + i + 1)).map Row.led) := by
            rw [List.append_assoc, ← mark_split hj']; exact N
          rename (rows'[lo + i]).cl ≠ M => hcne
          refine set_unsafe X' F r1 N5 (fun p hp => ?_) hap.2 r3 ?_
          · rcases List.mem_append.mp hp with hp | hp
            · rcases hown p hp with e | e
              · rw [e]; exact Ne.symm hnI
              · rw [e]; exact Ne.symm hnD
            · exact hap.1 p hp
          · intro h6 es6 F6 N6 i6
            rw [List.append_assoc, ← mark_split' hj'] at N6
            k_unmd
            k_steps
            refine ⟨h6, _, _, _, rfl, F6, N6, ?_, fun y h1 h2 => by simp [h1], _, mark_key hj' es6 hk, mark_ok hj' es6 ho i6, mark_u hj' es6 hu (.inr ⟨by omega, by omega, by rw [kcs]; exact hcne⟩) ?_, rfl⟩
            · intro p hp
              obtain ⟨r, hr, rfl⟩ := List.mem_map.mp hp
              rcases List.mem_or_eq_of_mem_set hr with hr | rfl
              · exact hoff _ (List.mem_map_of_mem hr)
              · exact hnI
            · intro k hne
              refine or_congr Iff.rfl ⟨?_, ?_⟩
              · rintro ⟨a, b, c⟩; exact ⟨a, by omega, c⟩
              · rintro ⟨a, b, c⟩; exact ⟨a, by omega, c⟩
        · rename (rows'[lo + i]).cl = M => hceq
          refine ⟨h5, _, _, _, rfl, F, N, hoff, fun y h1 h2 => by simp [h1], rows', hk, ho, fun k hk' => ?_, rfl⟩
          rw [hu k hk']
          refine or_congr Iff.rfl ⟨?_, ?_⟩
          · rintro ⟨a, b, c⟩; exact ⟨a, by omega, c⟩
          · rintro ⟨a, b, c⟩
            refine ⟨a, ?_, c⟩
            have : k ≠ lo + i := by rintro rfl; exact c (kcs.trans hceq)
            omega
      · rintro h5 tk5 u news₁ F N ⟨rows', hk, ho, hu, rfl⟩
        rw [List.size_toArray, hcut] at hu
        clear F4 N4
        k_unmd
        k_steps
        refine fin rows' _ _ _ _ _ hk ho (fun j hj => ?_) F N (fun p hp => hp) (.inl rfl)
        rw [hu j hj]
        refine or_congr Iff.rfl ⟨?_, ?_⟩
        · rintro ⟨a, b, c⟩
          obtain ⟨k, k1, k2, k3⟩ := hmin
          have := hM2 _ (hcl j a (by omega))
          exact ⟨a, by omega, k, k1, k2, by omega⟩
        · rintro ⟨a, b, k, k1, k2, k3⟩
          have := hM2 _ (hcl k k1 k2)
          exact ⟨a, by omega, by omega⟩
end
end Mine
namespace Mine
/-- equal clusters stand together -/
def Contig (cs : List Int) : Prop := ∀ i j k, i ≤ j → j ≤ k → k < cs.length → cs.getD i 0 = cs.getD k 0 → cs.getD j 0 = cs.getD i 0
theorem isEnd_iff {cs : List Int} {i : Nat} (h : i < cs.length) : isEnd cs i = true ↔ i + 1 = cs.length ∨ (i + 1 < cs.length ∧ cs.getD (i + 1) 0 ≠ cs.getD i 0) := by
  unfold isEnd
  by_cases h1 : i + 1 < cs.length
  · simp [List.getElem?_eq_getElem h1, List.getElem?_eq_getElem h, h1]
  · have h2 : i + 1 = cs.length := by omega
    simp [h2]
theorem cnt_succ (p : Nat → Bool) (i : Nat) : ((List.range (i + 1)).filter p).length = ((List.range i).filter p).length + if p i = true then 1 else 0 := by
  rw [List.range_succ, List.filter_append, List.length_append]
  by_cases h : p i = true <;> simp [h]
theorem cnt_mono (p : Nat → Bool) {a b : Nat} (h : a ≤ b) : ((List.range a).filter p).length ≤ ((List.range b).filter p).length := by
  induction b with
  | zero => simp at h; simp [h]
  | succ b ih =>
    by_cases e : a = b + 1
    · subst e; exact Nat.le_refl _
    · rw [cnt_succ]; have := ih (by omega); omega
theorem end_at (p : Nat → Bool) : ∀ {n i k : Nat}, ((List.range n).filter p)[i]? = some k → k < n ∧ p k = true ∧ ((List.range k).filter p).length = i := by
  intro n
  induction n with
  | zero => intro i k h; simp at h
  | succ n ih =>
    intro i k h
    rw [List.range_succ, List.filter_append, List.getElem?_append] at h
    split at h
    · obtain ⟨a, b, c⟩ := ih h; exact ⟨by omega, b, c⟩
    · rename_i hlt
      by_cases hp : p n = true
      · simp [hp] at h
        rw [List.getElem?_singleton] at h
        split at h
        · cases h; rename_i e; exact ⟨Nat.lt_succ_self _, hp, by omega⟩
        · cases h
      · simp [hp] at h
theorem next_end (p : Nat → Bool) {n i k b : Nat} (h : ((List.range n).filter p)[i]? = some k) (hb : ((List.range b).filter p).length = i) :
    b ≤ k ∧ k < n ∧ p k = true ∧ (∀ j, b ≤ j → j < k → p j = false) ∧ ((List.range (k + 1)).filter p).length = i + 1 := by
  obtain ⟨h1, h2, h3⟩ := end_at p h
  have hk : ((List.range (k + 1)).filter p).length = i + 1 := by rw [cnt_succ, if_pos h2, h3]
  refine ⟨?_, h1, h2, ?_, hk⟩
  · rcases Nat.lt_or_ge k b with q | q
    · have := cnt_mono p (show k + 1 ≤ b by omega); omega
    · exact q
  · intro j a c
    cases q : p j with
    | false => rfl
    | true =>
      have e1 := cnt_succ p j
      rw [if_pos q] at e1
      have e2 := cnt_mono p a
      have e3 := cnt_mono p (show j + 1 ≤ k by omega)
      omega
theorem all_ends {cs : List Int} {b : Nat} (hb : b ≤ cs.length) (h : ((List.range b).filter (isEnd cs)).length = ((List.range cs.length).filter (isEnd cs)).length) : b = cs.length := by
  rcases Nat.lt_or_ge b cs.length with q | q
  · have e : isEnd cs (cs.length - 1) = true := (isEnd_iff (by omega)).mpr (.inl (by omega))
    have e1 := cnt_succ (isEnd cs) (cs.length - 1)
    rw [if_pos e, show cs.length - 1 + 1 = cs.length by omega] at e1
    have := cnt_mono (isEnd cs) (show b ≤ cs.length - 1 by omega)
    omega
  · omega
theorem group_const {cs : List Int} {b k : Nat} (hk : k < cs.length) (h : ∀ j, b ≤ j → j < k → isEnd cs j = false) : ∀ j, b ≤ j → j ≤ k → cs.getD j 0 = cs.getD b 0 := by
  intro j
  induction j with
  | zero => intro a _; rw [show b = 0 by omega]
  | succ j ih =>
    intro a c
    by_cases e : b = j + 1
    · rw [e]
    · have h1 := h j (by omega) (by omega)
      have h2 : ¬ (j + 1 = cs.length ∨ (j + 1 < cs.length ∧ cs.getD (j + 1) 0 ≠ cs.getD j 0)) := by
        rw [← isEnd_iff (by omega), h1]; decide
      have h3 := ih (by omega) (by omega)
      by_cases h4 : cs.getD (j + 1) 0 = cs.getD j 0
      · rw [h4, h3]
      · exact absurd (.inr ⟨by omega, h4⟩) h2
theorem group_closed {cs : List Int} (C : Contig cs) {b k j k' : Nat} (hk : k < cs.length) (he : isEnd cs k = true) (hb : b = 0 ∨ isEnd cs (b - 1) = true) (h1 : b ≤ j) (h2 : j ≤ k) (h3 : k' < cs.length) (h4 : cs.getD k' 0 = cs.getD j 0) : b ≤ k' ∧ k' ≤ k := by
  constructor
  · rcases Nat.lt_or_ge k' b with q | q
    · rcases hb with e | e
      · omega
      · rcases (isEnd_iff (by omega)).mp e with f | ⟨f, f2⟩
        · omega
        · have e1 := C k' (b - 1) j (by omega) (by omega) (by omega) h4
          have e2 := C k' (b - 1 + 1) j (by omega) (by omega) (by omega) h4
          rw [e1, e2] at f2; exact absurd rfl f2
    · exact q
  · rcases Nat.lt_or_ge k k' with q | q
    · rcases (isEnd_iff hk).mp he with f | ⟨f, f2⟩
      · omega
      · have e1 := C j k k' (by omega) (by omega) h3 h4.symm
        have e2 := C j (k + 1) k' (by omega) (by omega) h3 h4.symm
        rw [e1, e2] at f2; exact absurd rfl f2
    · exact q
end Mine
namespace Mine
local macro_rules | `(tactic| walk_at "pad MSpread 0") => `(tactic| skip)
local macro_rules | `(tactic| walk_at "pad MSpread 1") => `(tactic| skip)
local macro_rules | `(tactic| units_room) => `(tactic| ((try simp only [units_deeper, units_in1]); (have hcL := cLine_is); omega))
local macro_rules | `(tactic| walk_at "eval ListComp") => `(tactic| (k_here; (first
  | ((with_reducible show wpAny _ _ (PySem.eval (PySem.Expr.ListComp _ [PySem.Comprehension.mk _ _ [] _] _ _) _) _ _ _); k_dflt (refine LCg.ListComp_U (F₀ := by k_asm) (by with_unfolding_all rfl) (by decide) (by rfl) (by decide) (by rfl) ?_))
  | ((with_reducible show wpAny _ _ (PySem.eval (PySem.Expr.ListComp _ [PySem.Comprehension.mk _ _ [_] _] _ _) _) _ _ _); k_dflt (refine LCt.ListComp_T (F₀ := by k_asm) (by with_unfolding_all rfl) (by decide) (by rfl) (by decide) (by rfl) ?_)))))
local macro_rules | `(tactic| walk_at "CompSrc") => `(tactic| refine unstop ?_)
local macro_rules | `(tactic| walk_at "CompSrcT") => `(tactic| refine unstop ?_)
local macro_rules | `(tactic| walk_at "pyIter ref") => `(tactic| refine unstop ?_)
local macro_rules | `(tactic| walk_at "call ref") => `(tactic| refine unstop ?_)
local macro_rules | `(tactic| walk_at "CompEnd") => `(tactic| refine unstop ?_)
local macro_rules | `(tactic| walk_at "call builtin:min") => `(tactic| refine unstop ?_)
local macro_rules | `(tactic| walk_at "exec For Name Name cons nil") => `(tactic| (k_here; (rename Fr _ _ _ _ => lF'); (with_unfolding_all refine' For_invVF lF' ?k1 ?k2 ?_; (case k1 => exact rfl); (case k2 => exact rfl); k_whole)))
local macro_rules | `(tactic| walk_at "exec For Name Call cons nil") => `(tactic| (k_here; (rename Fr _ _ _ _ => lF'); (with_unfolding_all refine' For_invVF lF' ?k1 ?k2 ?_; (case k1 => exact rfl); (case k2 => exact rfl); k_whole)))
local macro_rules | `(tactic| walk_at "getAttr ref") => `(tactic| refine unstop ?_)
local macro_rules | `(tactic| walk_at "subscriptTail") => `(tactic| refine unstop ?_)
local macro_rules | `(tactic| walk_at "compareOp NotEq ref ref") => `(tactic| refine unstop ?_)
def SpreadAt (cs : List Int) (U : Nat → Prop) (j : Nat) : Prop := ∃ k, k < cs.length ∧ cs.getD k 0 = cs.getD j 0 ∧ U k
theorem fr_var {g h : Heap} {L : Addr} {x z : Str} {v : Option Value} {vz : Value} {stored : List Str} {u m : Str → Option Value} (F : Fr g L h (fun y => if y = x then v else if stored.contains y then u y else m y)) (hz : u z = some vz) (hc : stored.contains z = true) :
    Fr g L h (fun y => if y = x then v else if y = z then some vz else if stored.contains y then u y else m y) := by
  refine fr_eq F fun y => ?_
  by_cases h1 : y = x
  · simp [h1]
  · simp only [if_neg h1]
    by_cases h2 : y = z
    · subst h2; rw [if_pos hc, if_pos rfl, hz]
    · rw [if_neg h2]
section
variable {w : World} {mean : ExcName → Option Value} {mg mb : Str → Option Value} {A : Around} {base : Heap} {outer : List Env} {g : Heap} {env : Env} {L : Addr} {s : Shared} {m : Str → Option Value} {E : Value → Shared → Prop} {Q : Value → Shared → Prop}
theorem ne_nil {l b : Addr} {its : Array Value} (hl : s.heap.IsList l its) (hb : s.heap.IsList b #[]) (hu : A.units < cLine) (h : Q (.bool (its.size != 0)) s) :
    wpAny (model PySem.Challenge.rw_pb0161_01.row.prog w) A (compareOp .NotEq (.ref l) (.ref b)) Q E s := by
  refine cmp_ofNotEq ?_
  by_cases e : its.size = 0
  · have x := PySem.SeqAt.RcNeAt.lists (A := A) (s := s) (e := fun _ => true) hl hb (by simpa using e) hu (fun j h1 h2 => absurd h2 (Nat.not_lt_zero _))
    refine x _ _ _ _ ?_
    have : (!(List.range its.size).all fun _ => true) = (its.size != 0) := by rw [e]; rfl
    rw [this]; exact h
  · have x := PySem.SeqAt.RcNeAt.lists_lengths (A := A) (s := s) hl hb (by simpa using e) hu
    refine x _ _ _ _ ?_
    have : (its.size != 0) = true := by simpa using e
    rw [this] at h; exact h
set_option maxRecDepth 100000 in
set_option maxHeartbeats 8000000 in
theorem spread_call {b bd rl : Addr} {bes : List DictEntry} {bn : Nat} {rows : List Row} {U : Nat → Prop} (C : Cx w mean mg mb A base outer g env L) (F : Fr g L s.heap m) (N : News g L s.heap (rows.map Row.led))
    (hb : s.heap.get? b = some (instObj 105 bd)) (hbd : s.heap.get? bd = some (dictOf bes bn)) (hB : BufEs bes rl) (hbn : bd ∉ rows.map Row.d) (hl : s.heap.IsList rl (rows.map Row.ref).toArray) (hX : XIn s.heap rows) (hok : ∀ r ∈ rows, r.ok) (hnd : (rows.map Row.d).Nodup)
    (hU : UAt rows U) (hC : Contig (rows.map Row.cl)) (hlen : rows.length ≤ 100)
    (hdep : A.depth ≤ 400) (hun : A.units ≤ 1900)
    (h : ∀ rows' h' tk, rows'.map Row.key = rows.map Row.key → (∀ r ∈ rows', r.ok) → UAt rows' (SpreadAt (rows.map Row.cl) U) → News g L h' (rows'.map Row.led) → Fr g L h' m → GSub s.heap h' (rows.map Row.d) → Q .none { s with heap := h', toks := tk }) :
    wpAny (model PySem.Challenge.rw_pb0161_01.row.prog w) A (call (.ref 124) [.ref b]) Q E s := by
  have F₀ := F
  have N₀ := N
  have X₀ := C.X
  revert X₀; k_fill; intro X₀
  refine wpAny_call ?_
  refine' Cx.call C F N ?ho ?hcd ?hroom ?hbind ?hloc ?_ ?c2 ?c3 ?c4 ?c5
  case ho => k_is
  case hcd => k_is
  case hroom => show A.depth < 1000; omega
  case hbind => exact BindsTo.of_eq rfl
  case hloc => exact locs rfl
  case c2 => exact rfl
  case c3 => exact rfl
  case c4 => exact rfl
  case c5 => decide
  intro g' L' h₁ C' F' N' G'
  dsimp only
  clear F N
  rw [led_fst] at G'
  have hb1 : g'.get? b = some (instObj 105 bd) := G' _ _ hb (fun hm => by
    obtain ⟨r, hr, e⟩ := List.mem_map.mp hm
    have := (N₀ _ (List.mem_map_of_mem hr)).1
    rw [Row.led, e, hb] at this; cases this)
  have hbd1 : g'.get? bd = some (dictOf bes bn) := G' _ _ hbd hbn
  have hl1 : g'.IsList rl (rows.map Row.ref).toArray := by
    obtain ⟨o, e, c, n, d⟩ := hl
    refine ⟨o, G' _ _ e (fun hm => ?_), c, n, d⟩
    obtain ⟨r, hr, e2⟩ := List.mem_map.mp hm
    have := (N₀ _ (List.mem_map_of_mem hr)).1
    rw [Row.led, e2, e] at this; cases this; cases d
  have hX1 : XIn g' rows := fun q hq => G' _ _ (hX q hq) (fun hm => by
    obtain ⟨r, hr, e⟩ := List.mem_map.mp hm
    have := (N₀ _ (List.mem_map_of_mem hr)).1
    rw [Row.led, e, hX q hq] at this; cases this)
  have X' := C'.X
  have T' := C'.T
  have hh' := C'.hh
  have fin : ∀ (rows' : List Row) (m' : Str → Option Value) (h' : Heap) (tk : Nat) (news' : List (Addr × Obj)) (fl : Flow), rows'.map Row.key = rows.map Row.key → (∀ r ∈ rows', r.ok) → UAt rows' (SpreadAt (rows.map Row.cl) U) → Fr g' L' h' m' → News g' L' h' news' → (∀ p ∈ rows'.map Row.led, p ∈ news') →
      (fl = .next ∨ fl = .ret .none) → EndB g L m s (rows.map Row.led) g' L' (fun r s' => match r with | .ok (.ret v) => Q v s' | .ok _ => False | .error e => E e s') fl { s with heap := h', toks := tk } := by
    intro rows' m' h' tk news' fl hk ho hU' F' N' hs hfl
    refine ⟨m', F', fun FL G => ?_⟩
    have G2 : GSub s.heap h' (rows.map Row.d) := by rw [led_fst] at G; exact G
    have e := h rows' h' tk hk ho hU' (fun p hp => news_ret F₀ N₀ (by rw [led_fst]; exact G') N' p (hs p hp)) FL G2
    rcases hfl with rfl | rfl <;> exact e
  clear X₀ hb hbd hl hX h
  k_unmd
  k_fold
  k_steps
  (rename Fr _ _ _ _ => F1); (rename News _ _ _ _ => N1)
  refine Stop.mk (ends_call C' F1 (F1.keep _ _ hb1) (F1.keep _ _ hbd1) hB (IsList.keep' hl1 F1.keep) (fun r hr => ⟨F1.keep _ _ (hX1 r hr), (N1 _ (List.mem_map_of_mem hr)).1, hok r hr⟩) hlen (by show A.depth + 1 ≤ 500; omega) (by show A.units + 3 ≤ 2000; omega) ?_)
  intro D ys h2 tk2 hys N2 hD F2 G2
  have N3 : News g' L' h2 ((D, LCg.lst ys) :: rows.map Row.led) := fun p hp => by
    rcases List.mem_cons.mp hp with rfl | hp
    · exact N2 _ (.head _)
    · exact N1.grown (gsub_nil G2) p hp
  clear N2 N1 F1
  k_unmd
  k_steps
  have hcl : (rows.map Row.cl).length = rows.length := List.length_map ..
  have hE : ∀ (i : Nat), i < ys.toArray.size → ∃ k t, ((List.range rows.length).filter (isEnd (rows.map Row.cl)))[i]? = some k ∧ ys.toArray[i]? = some (.int ((k + 1 : Nat) : Int) t) := by
    intro i hi
    rw [List.size_toArray] at hi
    have e1 := hys.length
    unfold endsTo at e1
    rw [List.length_map] at e1
    have hk : i < ((List.range rows.length).filter (isEnd (rows.map Row.cl))).length := by omega
    obtain ⟨t, ht⟩ := hys.get i (((((List.range rows.length).filter (isEnd (rows.map Row.cl)))[i]'hk + 1 : Nat) : Int)) (by
      unfold endsTo; rw [List.getElem?_map, List.getElem?_eq_getElem hk]; rfl)
    exact ⟨_, t, List.getElem?_eq_getElem hk, by simpa using ht⟩
  have hysz : ys.toArray.size = ((List.range rows.length).filter (isEnd (rows.map Row.cl))).length := by
    have e1 := hys.length
    unfold endsTo at e1
    rw [List.length_map] at e1
    rw [List.size_toArray, e1]
  refine Stop.mk (loop_listM ["begin", "stretch", "info"] hh' F2 (news := rows.map Row.led) (fun p hp => N3 p (.tail _ hp)) ⟨_, (N3 _ (.head _)).1, rfl, _, rfl⟩
    (fun i u news => ∃ (b : Nat) (tb : Tok) (rows' : List Row), u (Str.ofString "begin") = some (.int (b : Int) tb) ∧ b ≤ rows.length ∧ ((List.range b).filter (isEnd (rows.map Row.cl))).length = i ∧ (b = 0 ∨ isEnd (rows.map Row.cl) (b - 1) = true) ∧
      rows'.map Row.key = rows.map Row.key ∧ (∀ r ∈ rows', r.ok) ∧ UAt rows' (fun j => U j ∨ (j < b ∧ SpreadAt (rows.map Row.cl) U j)) ∧ news = rows'.map Row.led)
    ⟨0, _, rows, rfl, Nat.zero_le _, rfl, .inl rfl, rfl, hok, fun j hj => by rw [hU j hj]; exact ⟨.inl, fun q => q.resolve_right (by rintro ⟨a, _⟩; omega)⟩, rfl⟩ ?_ ?_)
  · rintro i v u news₁ h5 tk5 own hi5 hv ⟨b', tb, rows', hub, hbn', hcnt, hbe, hk, ho, hu, rfl⟩ hoff hown hst F N
    obtain ⟨k, t, hk1, hk2⟩ := hE i hi5
    rw [hk2] at hv
    obtain rfl := Option.some.inj hv
    obtain ⟨e1, e2, e3, e4, e5⟩ := next_end (isEnd (rows.map Row.cl)) hk1 hcnt
    have hlen' : rows'.length ≤ 100 := by rw [key_len hk]; exact hlen
    have hl2 : g'.IsList rl (rows'.map Row.ref).toArray := by rw [key_ref hk]; exact hl1
    clear F2 N3
    have F3 := fr_var F hub (by decide)
    have hdh : ∀ j (hj : j < rows'.length), h5.get? (rows'[j]).d = some (dictOf (rows'[j]).es (rows'[j]).n) := fun j hj => (N (Row.led rows'[j]) (List.mem_append_right _ (List.mem_map_of_mem (List.getElem_mem hj)))).1
    clear F
    k_unmd
    k_fold
    k_steps
    (rename Fr _ _ _ _ => F4)
    refine Stop.mk (get_row X' F4 (F4.keep _ _ hb1) (F4.keep _ _ hbd1) hB ?_)
    k_unmd
    k_steps
    (rename Fr _ _ _ _ => F4)
    refine Stop.mk (slice_refs (rows := rows') (lo := b') (hi := k + 1) (by omega) (by rw [key_len hk]; omega) hlen' F4 N hl2 ?_ (by with_unfolding_all rfl))
    intro Ds h6 F6 N6 l6
    k_unmd
    k_steps
    (rename Fr _ _ _ _ => F5); (rename News _ _ _ _ => N5)
    generalize hcutd : (rows'.drop b').take (k + 1 - b') = cut at N5 N6 ⊢
    have hcl2 : cut.length = k + 1 - b' := by rw [← hcutd, List.length_take, List.length_drop, key_len hk]; omega
    have hsl : ∀ i (hi' : i < k + 1 - b'), cut[i]? = some (rows'[b' + i]'(by rw [key_len hk]; omega)) := by
      intro i hi'
      rw [← hcutd]
      simp [List.getElem?_take, hi', List.getElem?_eq_getElem (by rw [key_len hk]; omega : b' + i < rows'.length)]
    have hslr : ∀ i (hi' : i < k + 1 - b'), (cut.map Row.ref).toArray[i]? = some (.ref (rows'[b' + i]'(by rw [key_len hk]; omega)).x) := by
      intro i hi'
      simp [hsl i hi', Row.ref]
    refine Stop.mk (LCt.CompSrcT.ledger hh' F5 N5 (.head _) (by rw [sizeLine_eq, List.size_toArray, List.length_map]; omega) (fun g0 => compRestT_inv _ (fun i ys news => ys = ((cut.take i).filter (·.u)).map Row.ref ∧ news = (Ds, W.listOf (cut.map Row.ref).toArray 0) :: (own ++ rows'.map Row.led)) ?_ ?_ _ 0 [] _ (Nat.zero_add _) ⟨rfl, rfl⟩))
    · rintro i2 ys2 news2 hi2 ⟨rfl, rfl⟩ v I oI C oC D' m₂ h tk E' hv hC hx F N off ne
      clear F5 N5
      rw [List.size_toArray, List.length_map, hcl2] at hi2
      rw [hslr i2 hi2] at hv
      obtain rfl := Option.some.inj hv
      have hj : b' + i2 < rows'.length := by rw [key_len hk]; omega
      have r1 := xin_key hk hX1 _ (List.getElem_mem hj)
      have r2 : h.get? (rows'[b' + i2]).d = some (dictOf (rows'[b' + i2]).es (rows'[b' + i2]).n) := (N (Row.led rows'[b' + i2]) (by simp only [List.mem_cons, List.mem_append]; exact .inr (.inr (.inr (.inr (.inr (List.mem_map_of_mem (List.getElem_mem hj)))))))).1
      have r3 := ho _ (List.getElem_mem hj)
      have et : ((cut.take (i2 + 1)).filter (·.u)).map Row.ref = ((cut.take i2).filter (·.u)).map Row.ref ++ (if (rows'[b' + i2]).u = true then [Row.ref rows'[b' + i2]] else []) := by
        rw [List.take_add_one, hsl i2 hi2, Option.toList_some, List.filter_append, List.map_append]
        congr 1
        by_cases q : (rows'[b' + i2]).u = true <;> simp [q]
      k_unmd
      k_fold
      k_steps
      refine Stop.mk (get_unsafe X' F (F.keep _ _ r1) r2 r3 ?_)
      k_unmd
      k_steps
      · rename (rows'[b' + i2]).u = true => hut
        rw [if_pos hut] at et
        exact Stop.mk (LCg.CompEnd.intro F N _ (fun p hp => hp) off (Or.inr ⟨_, .head _, rfl, _, rfl⟩) ⟨et.symm, rfl⟩)
      · rename (rows'[b' + i2]).u = false => huf
        rw [if_neg (by rw [huf]; decide), List.append_nil] at et
        exact Stop.mk (LCg.CompEnd.intro F N _ (fun p hp => hp) off (Or.inr ⟨_, .head _, rfl, _, rfl⟩) ⟨et.symm, rfl⟩)
    · rintro ys2 news2 ⟨rfl, rfl⟩ D2 h7 tk7 F N o1
      clear F5 N5
      rw [List.size_toArray, List.length_map, hcl2, List.take_of_length_le (by omega)] at N
      k_unmd
      k_steps
      (rename Fr _ _ _ _ => F8); (rename News _ _ _ _ => N8)
      refine Stop.mk (ne_nil ⟨_, (N8 _ (.tail _ (.head _))).1, rfl, _, rfl⟩ ⟨_, (N8 _ (.head _)).1, rfl, _, rfl⟩ (by show A.units + 3 < 9900; omega) ?_)
      rw [List.size_toArray, List.length_map]
      have hkl : k < (rows.map Row.cl).length := by omega
      have hmem : ∀ j (a : b' ≤ j) (c : j ≤ k), (rows'[j]'(by rw [key_len hk]; omega)) ∈ cut := by
        intro j a c
        have := hsl (j - b') (by omega)
        have e : b' + (j - b') = j := by omega
        simp only [e] at this
        exact List.mem_of_getElem? this
      have hdD : ∀ j (hj : j < rows'.length), (rows'[j]).d ≠ D := by
        intro j hj e
        obtain ⟨o, eo, _, n, d⟩ := hst
        have := hdh j hj
        rw [e, eo] at this; cases this; cases d
      have hdDs : ∀ j (hj : j < rows'.length), (rows'[j]).d ≠ Ds := by
        intro j hj e
        have x1 := (N8 _ (.tail _ (.tail _ (.head _)))).1
        have x2 := (N8 (Row.led rows'[j]) (.tail _ (.tail _ (.tail _ (List.mem_append_right _ (List.mem_map_of_mem (List.getElem_mem hj))))))).1
        simp only [Row.led, e] at x2
        rw [x1] at x2
        have x3 := congrArg Obj.data (Option.some.inj x2)
        cases x3
      have hnot : ∀ y : Str, (["begin", "stretch", "info"] : List Str).contains y = false → y ≠ Str.ofString "begin" ∧ y ≠ Str.ofString "stretch" ∧ y ≠ Str.ofString "info" := by
        intro y hy
        refine ⟨?_, ?_, ?_⟩ <;> (rintro rfl; exact absurd hy (by decide))
      k_unmd
      k_steps
      · rename (_ != _) = true => hsome0
        have hsome : ∃ j, ∃ (a : b' ≤ j) (c : j ≤ k), (rows'[j]'(by rw [key_len hk]; omega)).u = true := by
          have : (cut.filter (·.u)).length ≠ 0 := by simpa using hsome0
          obtain ⟨r, hr⟩ := List.exists_mem_of_length_pos (Nat.pos_of_ne_zero this)
          obtain ⟨hr1, hr2⟩ := List.mem_filter.mp hr
          obtain ⟨i3, hi3, e⟩ := List.getElem_of_mem hr1
          have := hsl i3 (by omega)
          rw [List.getElem?_eq_getElem hi3, e] at this
          have e2 := Option.some.inj this
          exact ⟨b' + i3, by omega, by omega, by rw [← e2]; exact hr2⟩
        (rename Fr _ _ _ _ => F9); (rename News _ _ _ _ => N9)
        refine Stop.mk (loop_listM [] hh' F9 (news := own ++ rows'.map Row.led) (fun p hp => N9 p (.tail _ (.tail _ (.tail _ hp)))) ⟨_, (N9 _ (.tail _ (.tail _ (.head _)))).1, rfl, _, rfl⟩
          (fun i _ news => ∃ rows'', rows''.map Row.key = rows'.map Row.key ∧ (∀ r ∈ rows'', r.ok) ∧ UAt rows'' (fun j => (U j ∨ (j < b' ∧ SpreadAt (rows.map Row.cl) U j)) ∨ (b' ≤ j ∧ j < b' + i)) ∧ news = own ++ rows''.map Row.led)
          ⟨rows', rfl, ho, fun j hj => by rw [hu j hj]; exact ⟨.inl, fun q => q.resolve_right (by rintro ⟨a, c⟩; omega)⟩, rfl⟩ ?_ ?_)
        · rintro i3 v3 u3 news3 h9 tk9 own3 hi3 hv3 ⟨rows'', hk3, ho3, hu3, rfl⟩ hoff3 hown3 hst3 F N
          clear F9 N9
          rw [List.size_toArray, List.length_map, hcl2] at hi3
          rw [hslr i3 hi3] at hv3
          obtain rfl := Option.some.inj hv3
          have hj : b' + i3 < rows'.length := by rw [key_len hk]; omega
          have hj3 : b' + i3 < rows''.length := by rw [key_len hk3]; exact hj
          have hkey := key_at hk3 hj hj3
          have kx : (rows''[b' + i3]).x = (rows'[b' + i3]).x := congrArg (·.1) hkey
          have kd : (rows''[b' + i3]).d = (rows'[b' + i3]).d := congrArg (·.2.1) hkey
          have r1 := xin_key (hk3.trans hk) hX1 _ (List.getElem_mem hj3)
          have r3 := ho3 _ (List.getElem_mem hj3)
          have hap := d_apart hj3 (((key_d hk3).trans (key_d hk)).symm ▸ hnd)
          have hnI := hoff3 (Row.led rows''[b' + i3]) (List.mem_append_right _ (List.mem_map_of_mem (List.getElem_mem hj3)))
          have hnI1 := hoff (Row.led rows'[b' + i3]) (List.mem_map_of_mem (List.getElem_mem hj))
          have N5 : News g' L' h9 ((own3 ++ (own ++ (rows''.take (b' + i3)).map Row.led)) ++ ((rows''[b' + i3]).d, dictOf (rows''[b' + i3]).es (rows''[b' + i3]).n) :: (rows''.drop (b' + i3 + 1)).map Row.led) := by
            rw [List.append_assoc, List.append_assoc, ← mark_split hj3]; exact N
          rw [← kx] at F
          k_unmd
          k_fold
          k_steps
          refine set_unsafe X' F (F.keep _ _ r1) N5 (fun p hp => ?_) hap.2 r3 ?_
          · rcases List.mem_append.mp hp with hp | hp
            · rcases hown3 p hp with e | e
              · rw [e]; exact Ne.symm hnI
              · rw [e, kd]; exact Ne.symm (hdDs _ hj)
            · rcases List.mem_append.mp hp with hp | hp
              · rcases hown p hp with e | e
                · rw [e, kd]; exact Ne.symm hnI1
                · rw [e, kd]; exact Ne.symm (hdD _ hj)
              · exact hap.1 p hp
          · intro hA esA FA NA iA
            rw [List.append_assoc, List.append_assoc, ← mark_split' hj3] at NA
            k_unmd
            k_steps
            refine ⟨hA, _, _, _, rfl, FA, NA, ?_, fun y h1 h2 => by simp [h1], _, mark_key hj3 esA hk3, mark_ok hj3 esA ho3 iA, mark_u hj3 esA hu3 (.inr ⟨by omega, by omega⟩) ?_, rfl⟩
            · intro p hp
              rcases List.mem_append.mp hp with hp | hp
              · exact hoff3 p (List.mem_append_left _ hp)
              · obtain ⟨r, hr, rfl⟩ := List.mem_map.mp hp
                rcases List.mem_or_eq_of_mem_set hr with hr | rfl
                · exact hoff3 _ (List.mem_append_right _ (List.mem_map_of_mem hr))
                · exact hnI
            · intro i4 hne
              refine or_congr Iff.rfl ⟨?_, ?_⟩
              · rintro ⟨a, c⟩; exact ⟨a, by omega⟩
              · rintro ⟨a, c⟩; exact ⟨a, by omega⟩
        · rintro h9 tk9 u3 news3 F N ⟨rows'', hk3, ho3, hu3, rfl⟩
          rw [List.size_toArray, List.length_map, hcl2] at hu3
          clear F9 N9
          k_unmd
          k_steps
          (rename Fr _ _ _ _ => FB); (rename News _ _ _ _ => NB)
          refine ⟨_, _, _, rows''.map Row.led, rfl, FB, NB, ?_, fun y h1 h2 => ?_, k + 1, t, rows'', rfl, by omega, e5, .inr e3, hk3.trans hk, ho3, fun j hj => ?_, rfl⟩
          · intro p hp
            obtain ⟨r, hr, rfl⟩ := List.mem_map.mp hp
            obtain ⟨j, hj, rfl⟩ := List.getElem_of_mem hr
            have hj1 : j < rows'.length := by rw [← key_len hk3]; exact hj
            have kd : (rows''[j]).d = (rows'[j]).d := congrArg (·.2.1) (key_at hk3 hj1 hj)
            have := hoff (Row.led rows'[j]) (List.mem_map_of_mem (List.getElem_mem hj1))
            simp only [Row.led, kd]
            exact this
          · obtain ⟨q1, q2, q3⟩ := hnot y h2
            simp [h1, h2, q1, q2, q3]
          · rw [hu3 j hj]
            constructor
            · rintro ((q | ⟨q, q'⟩) | ⟨q, q'⟩)
              · exact .inl q
              · exact .inr ⟨by omega, q'⟩
              · obtain ⟨j0, a, c, d⟩ := hsome
                rw [hu j0 _] at d
                have d' := d.resolve_right (by rintro ⟨z, _⟩; omega)
                have c1 := group_const hkl e4 j0 a c
                have c2 := group_const hkl e4 j q (by omega)
                exact .inr ⟨by omega, j0, by omega, c1.trans c2.symm, d'⟩
            · rintro (q | ⟨q, q'⟩)
              · exact .inl (.inl q)
              · by_cases z : j < b'
                · exact .inl (.inr ⟨z, q'⟩)
                · exact .inr ⟨by omega, by omega⟩
      · rename (_ != _) = false => hnone0
        have hnone : ∀ j (a : b' ≤ j) (c : j ≤ k), (rows'[j]'(by rw [key_len hk]; omega)).u = false := by
          intro j a c
          have e0 : cut.filter (·.u) = [] := by simpa using hnone0
          have := List.filter_eq_nil_iff.mp e0 _ (hmem j a c)
          simpa using this
        (rename Fr _ _ _ _ => FB); (rename News _ _ _ _ => NB)
        refine ⟨_, _, _, rows'.map Row.led, rfl, FB, fun p hp => NB p (.tail _ (.tail _ (.tail _ hp))), hoff, fun y h1 h2 => ?_, k + 1, t, rows', rfl, by omega, e5, .inr e3, hk, ho, fun j hj => ?_, rfl⟩
        · obtain ⟨q1, q2, q3⟩ := hnot y h2
          simp [h1, h2, q1, q2, q3]
        · by_cases z : b' ≤ j ∧ j ≤ k
          · have n1 := hnone j z.1 z.2
            have n2 : ¬ (U j ∨ (j < b' ∧ SpreadAt (rows.map Row.cl) U j)) := fun q => by have z2 := (hu j hj).mpr q; rw [n1] at z2; cases z2
            rw [n1]
            refine ⟨fun q => (by cases q), ?_⟩
            rintro (q | ⟨q, k', q1, q2, q3⟩)
            · exact absurd (.inl q) n2
            · obtain ⟨p1, p2⟩ := group_closed hC hkl e3 hbe z.1 z.2 q1 q2
              have n3 := hnone k' p1 p2
              have n4 := (hu k' (by rw [key_len hk]; omega)).mpr (.inl q3)
              rw [n3] at n4; cases n4
          · rw [hu j hj]
            refine or_congr Iff.rfl ⟨?_, ?_⟩
            · rintro ⟨q, q'⟩; exact ⟨by omega, q'⟩
            · rintro ⟨q, q'⟩; exact ⟨by omega, q'⟩
  · rintro h5 tk5 u news₁ F N ⟨b', tb, rows', hub, hbn', hcnt, hbe, hk, ho, hu, rfl⟩
    rw [hysz] at hcnt
    have hb5 := all_ends (cs := rows.map Row.cl) (by rw [hcl]; exact hbn') (by rw [hcl]; exact hcnt)
    clear F2 N3
    k_unmd
    k_steps
    refine fin rows' _ _ _ _ _ hk ho (fun j hj => ?_) F N (fun p hp => hp) (.inl rfl)
    have hj2 : j < rows.length := by rw [← key_len hk]; exact hj
    rw [hu j hj]
    constructor
    · rintro (q | ⟨_, q⟩)
      · exact ⟨j, by omega, rfl, q⟩
      · exact q
    · intro q
      exact .inr ⟨by omega, q⟩
end
end Mine
namespace Mine
local macro_rules | `(tactic| walk_at "pad MHung 0") => `(tactic| skip)
local macro_rules | `(tactic| walk_at "pad MHung 1") => `(tactic| skip)
local macro_rules | `(tactic| units_room) => `(tactic| ((try simp only [units_deeper, units_in1]); (have hcL := cLine_is); omega))
local macro_rules | `(tactic| walk_at "eval ListComp") => `(tactic| (k_here; (first
  | ((with_reducible show wpAny _ _ (PySem.eval (PySem.Expr.ListComp _ [PySem.Comprehension.mk _ _ [] _] _ _) _) _ _ _); k_dflt (refine LCg.ListComp_U (F₀ := by k_asm) (by with_unfolding_all rfl) (by decide) (by rfl) (by decide) (by rfl) ?_))
  | ((with_reducible show wpAny _ _ (PySem.eval (PySem.Expr.ListComp _ [PySem.Comprehension.mk _ _ [_] _] _ _) _) _ _ _); k_dflt (refine LCt.ListComp_T (F₀ := by k_asm) (by with_unfolding_all rfl) (by decide) (by rfl) (by decide) (by rfl) ?_)))))
local macro_rules | `(tactic| walk_at "CompSrc") => `(tactic| refine unstop ?_)
local macro_rules | `(tactic| walk_at "CompSrcT") => `(tactic| refine unstop ?_)
local macro_rules | `(tactic| walk_at "pyIter ref") => `(tactic| refine unstop ?_)
local macro_rules | `(tactic| walk_at "call ref") => `(tactic| refine unstop ?_)
local macro_rules | `(tactic| walk_at "CompEnd") => `(tactic| refine unstop ?_)
local macro_rules | `(tactic| walk_at "call builtin:min") => `(tactic| refine unstop ?_)
local macro_rules | `(tactic| walk_at "exec For Name Name cons nil") => `(tactic| (k_here; (rename Fr _ _ _ _ => lF'); (with_unfolding_all refine' For_invVF lF' ?k1 ?k2 ?_; (case k1 => exact rfl); (case k2 => exact rfl); k_whole)))
local macro_rules | `(tactic| walk_at "exec For Name Call cons nil") => `(tactic| (k_here; (rename Fr _ _ _ _ => lF'); (with_unfolding_all refine' For_invVF lF' ?k1 ?k2 ?_; (case k1 => exact rfl); (case k2 => exact rfl); k_whole)))
local macro_rules | `(tactic| walk_at "exec For Tuple Name cons nil") => `(tactic| (k_here; (rename Fr _ _ _ _ => lF'); (with_unfolding_all refine' For_invTF lF' ?_ ?hs; (case hs => (intro _; rfl)); k_whole)))
local macro_rules | `(tactic| walk_at "getAttr ref") => `(tactic| refine unstop ?_)
local macro_rules | `(tactic| walk_at "getMethod ref") => `(tactic| refine unstop ?_)
local macro_rules | `(tactic| walk_at "compareOp NotEq ref ref") => `(tactic| refine unstop ?_)
def Row.inst (r : Row) : Addr × Obj := (r.x, instObj 52 r.d)
/-- a list of pairs -/
def PartsAt (h : Heap) (its : Array Value) (parts : List (Nat × Nat)) : Prop := its.size = parts.length ∧ ∀ (i b m : Nat), parts[i]? = some (b, m) → ∃ (t : Addr) (tb tm : Tok), its[i]? = some (Value.ref t) ∧ IsTup h t #[Value.int (b : Int) tb, Value.int (m : Int) tm]
theorem PartsAt.keep {h h' : Heap} {its : Array Value} {parts : List (Nat × Nat)} (P : PartsAt h its parts) (k : ∀ b o, h.get? b = some o → h'.get? b = some o) : PartsAt h' its parts :=
  ⟨P.1, fun i b m e => by obtain ⟨t, tb, tm, e1, o, e2, r⟩ := P.2 i b m e; exact ⟨t, tb, tm, e1, o, k _ _ e2, r⟩⟩
def HungAt (cs : List Int) (parts : List (Nat × Nat)) (j : Nat) : Prop := SpreadAt cs (fun k => ∃ p ∈ parts, HangAt cs p.1 (p.1 + p.2) k) j
theorem lt_news {g h : Heap} {L : Addr} {news : List (Addr × Obj)} (N : News g L h news) : ∀ p ∈ news, p.1 < h.objs.size := fun p hp => Heap.lt_size (N p hp).1
section
variable {w : World} {mean : ExcName → Option Value} {mg mb : Str → Option Value} {A : Around} {base : Heap} {outer : List Env} {g : Heap} {env : Env} {L : Addr} {s : Shared} {m : Str → Option Value} {E : Value → Shared → Prop} {Q : Value → Shared → Prop}
set_option maxRecDepth 100000 in
set_option maxHeartbeats 8000000 in
theorem hung_call {cl pr : Addr} {vs : List Value} {cs : List Int} {its : Array Value} {parts : List (Nat × Nat)} (C : Cx w mean mg mb A base outer g env L) (F : Fr g L s.heap m)
    (hl : s.heap.IsList cl vs.toArray) (hi : IntsAre vs cs) (hlen : cs.length ≤ 10) (hC : Contig cs) (hpr : s.heap.IsList pr its) (hP : PartsAt s.heap its parts) (hPl : parts.length ≤ 100) (hPb : ∀ p ∈ parts, p.1 + p.2 ≤ cs.length)
    (hdep : A.depth ≤ 350) (hun : A.units ≤ 1800)
    (h : ∀ D (bs : List Bool) h' tk, bs.length = cs.length → (∀ j (hj : j < bs.length), bs[j] = true ↔ HungAt cs parts j) → News g L h' [(D, LCg.lst (bs.map Value.bool))] → s.heap.get? D = none → Fr g L h' m → GSub s.heap h' [] → Q (.ref D) { s with heap := h', toks := tk }) :
    wpAny (model PySem.Challenge.rw_pb0161_01.row.prog w) A (call (.ref 148) [.ref cl, .ref pr]) Q E s := by
  have N : News g L s.heap [] := News.nil
  have F₀ := F
  have N₀ := N
  have X₀ := C.X
  revert X₀; k_fill; intro X₀
  refine wpAny_call ?_
  refine' Cx.callC C F N ?ho ?hcd ?hroom ?hbind ?hkind ?hnd ?_ ?c2 ?c3 ?c4
  case ho => k_is
  case hcd => k_is
  case hroom => show A.depth < 1000; omega
  case hbind => exact BindsTo.of_eq rfl
  case hkind => exact rfl
  case hnd => decide +kernel
  case c2 => exact rfl
  case c3 => exact rfl
  case c4 => exact rfl
  intro g' L' h₁ tk₁ cells₁ C' F' N' Y' l1' G'
  try dsimp only
  clear F N
  have k0 := gsub_nil G'
  have hl1 := IsList.keep' hl k0
  have hpr1 := IsList.keep' hpr k0
  have hP1 := hP.keep k0
  have X' := C'.X
  have T' := C'.T
  have hh' := C'.hh
  have fin : ∀ (D : Addr) (bs : List Bool) (m' : Str → Option Value) (h' : Heap) (tk : Nat) (news' : List (Addr × Obj)), bs.length = cs.length → (∀ j (hj : j < bs.length), bs[j] = true ↔ HungAt cs parts j) → Fr g' L' h' m' → News g' L' h' news' → (D, LCg.lst (bs.map Value.bool)) ∈ news' →
      EndB g L m s [] g' L' (fun r s' => match r with | .ok (.ret v) => Q v s' | .ok _ => False | .error e => E e s') (.ret (.ref D)) { s with heap := h', toks := tk } := by
    intro D bs m' h' tk news' hb1 hb2 F' N' hm
    refine ⟨m', F', fun FL G => h D bs h' tk hb1 hb2 (fun p hp => news_ret F₀ N₀ G' N' p ?_) (fresh_of G' N' _ hm (by simp)) FL G⟩
    rw [List.mem_singleton.mp hp]; exact hm
  clear X₀ hl hpr h
  k_cells Y'
  try simp only [List.cons_append, List.nil_append] at N'
  k_unmd
  k_fold
  k_steps
  (rename Fr _ _ _ _ => F2); (rename News _ _ _ _ => N2)
  rename IsRange _ _ _ _ _ _ _ _ => hr
  rename Obj => oc
  refine Stop.mk (LCg.CompSrc.range hh' F2 N2 hr (small_one (by decide) (by decide) (by omega) (by omega)) (by rw [rangeSize_nat]; simp) (by rw [sizeLine_eq]; omega) (fun g0 => compRest_inv cs.length
    (fun i ys news => ∃ rows : List Row, rows.length = i ∧ ys = rows.map Row.ref ∧ (∀ r ∈ rows, r.ok) ∧ rows.map Row.cl = cs.take i ∧ rows.map Row.gl = (List.range i).map (fun j : Nat => 5 + (j : Int)) ∧ (∀ r ∈ rows, r.u = false) ∧ (rows.map Row.d).Nodup ∧ news = (L' + 1, oc) :: (rows.map Row.led ++ rows.map Row.inst))
    ?_ ?_ _ 0 [] _ (Nat.zero_add _) ⟨[], rfl, rfl, by simp, by simp, by simp, by simp, by simp, rfl⟩))
  · rintro i ys news hi3 ⟨rows, hrl, rfl, hok, hcl, hgl, hu, hnd, rfl⟩ v I oI C oC D m₂ h tk E' ⟨t, rfl⟩ hC hx F N off ne
    clear F2 N2 hr
    k_unmd
    k_fold
    k_steps
    rename_i tc
    refine Stop.mk (info_new C' F (by show A.depth + 1 ≤ 500; omega) (by show A.units + 3 ≤ 2000; omega) ?_)
    intro x dx es n h7 tk7 hes N7 hxd F7 G7
    have N8 : News g' L' h7 ((x, instObj 52 dx) :: (dx, dictOf es n) :: (I, oI) :: (C, oC) :: (D, LCg.lst (rows.map Row.ref)) :: (L' + 1, oc) :: (rows.map Row.led ++ rows.map Row.inst)) := fun p hp => by
      rcases List.mem_cons.mp hp with rfl | hp
      · exact N7 _ (.head _)
      · rcases List.mem_cons.mp hp with rfl | hp
        · exact N7 _ (.tail _ (.head _))
        · exact N.grown (gsub_nil G7) p hp
    have hlt := lt_news N
    dsimp only at hxd
    have hnew : ∀ p ∈ (I, oI) :: (C, oC) :: (D, LCg.lst (rows.map Row.ref)) :: (L' + 1, oc) :: (rows.map Row.led ++ rows.map Row.inst), p.1 ≠ x ∧ p.1 ≠ dx := fun p hp => ⟨Nat.ne_of_lt (Nat.lt_of_lt_of_le (hlt p hp) hxd.1), Nat.ne_of_lt (Nat.lt_of_lt_of_le (hlt p hp) hxd.2)⟩
    k_unmd
    k_steps
    refine Stop.mk (LCg.CompEnd.intro F7 N8 ((L' + 1, oc) :: ((rows ++ [Row.mk x dx es n (5 + (0 + (i : Int))) (cs.getD (0 + (i : Int)).toNat 0) false]).map Row.led ++ (rows ++ [Row.mk x dx es n (5 + (0 + (i : Int))) (cs.getD (0 + (i : Int)).toNat 0) false]).map Row.inst)) ?_ ?_ trivial ⟨rows ++ [Row.mk x dx es n (5 + (0 + (i : Int))) (cs.getD (0 + (i : Int)).toNat 0) false], ?_, ?_, ?_, ?_, ?_, ?_, ?_, rfl⟩)
    · intro p hp
      simp only [List.map_append, List.map_cons, List.map_nil, List.mem_cons, List.mem_append, List.not_mem_nil, or_false, Row.led, Row.inst] at hp ⊢
      rcases hp with h | h | h | h | (h | h) | h | h
      · exact .inr (.inr (.inl h))
      · exact .inr (.inr (.inr (.inl h)))
      · exact .inr (.inr (.inr (.inr (.inl h))))
      · exact .inr (.inr (.inr (.inr (.inr (.inl h)))))
      · exact .inr (.inr (.inr (.inr (.inr (.inr (.inl h))))))
      · exact .inr (.inl h)
      · exact .inr (.inr (.inr (.inr (.inr (.inr (.inr h))))))
      · exact .inl h
    · refine LCg.Off3.of fun p hp => ?_
      have o := off.mem
      have nI := hnew _ (.head _)
      have nC := hnew _ (.tail _ (.head _))
      have nD := hnew _ (.tail _ (.tail _ (.head _)))
      simp only [List.map_append, List.map_cons, List.map_nil, List.mem_cons, List.mem_append, List.not_mem_nil, or_false] at hp
      rcases hp with h | (h | h) | h | h
      · exact o p (by rw [h]; exact .head _)
      · exact o p (.tail _ (List.mem_append_left _ h))
      · rw [h]; exact ⟨Ne.symm nI.2, Ne.symm nC.2, Ne.symm nD.2⟩
      · exact o p (.tail _ (List.mem_append_right _ h))
      · rw [h]; exact ⟨Ne.symm nI.1, Ne.symm nC.1, Ne.symm nD.1⟩
    · simp [hrl]
    · simp [Row.ref]
    · intro r hr
      rcases List.mem_append.mp hr with hr | hr
      · exact hok r hr
      · rw [List.mem_singleton.mp hr]; exact hes
    · rw [List.map_append, hcl, List.take_add_one]
      congr 1
      have : (0 + (i : Int)).toNat = i := by omega
      simp [this, List.getElem?_eq_getElem hi3]
    · rw [List.map_append, hgl, List.range_succ, List.map_append]
      simp
    · intro r hr
      rcases List.mem_append.mp hr with hr | hr
      · exact hu r hr
      · rw [List.mem_singleton.mp hr]
    · rw [List.map_append, List.nodup_append]
      refine ⟨hnd, by simp, ?_⟩
      intro a ha b hb
      simp only [List.map_cons, List.map_nil, List.mem_singleton] at hb
      obtain ⟨r, hr, rfl⟩ := List.mem_map.mp ha
      rw [hb]
      exact (hnew (Row.led r) (.tail _ (.tail _ (.tail _ (.tail _ (List.mem_append_left _ (List.mem_map_of_mem hr))))))).2
  · rintro ys news ⟨rows, hrl, rfl, hok, hcl, hgl, hu, hnd, rfl⟩ D h tk F N o1
    clear F2 N2 hr
    k_unmd
    k_steps
    rw [List.take_length] at hcl
    have hlenr : rows.length ≤ 100 := by omega
    refine Stop.mk (buffer_new C' F (by show A.depth + 1 ≤ 500; omega) (by show A.units + 3 ≤ 2000; omega) ?_)
    intro b bd bes bn h7 tk7 hB N7 hxd F7 G7
    have hlt := lt_news N
    dsimp only at hxd
    have N8 : News g' L' h7 (((b, instObj 105 bd) :: (bd, dictOf bes bn) :: (D, LCg.lst (rows.map Row.ref)) :: (L' + 1, oc) :: rows.map Row.inst) ++ rows.map Row.led) := fun p hp => by
      rcases List.mem_append.mp hp with hp | hp
      · rcases List.mem_cons.mp hp with rfl | hp
        · exact N7 _ (.head _)
        · rcases List.mem_cons.mp hp with rfl | hp
          · exact N7 _ (.tail _ (.head _))
          · refine N.grown (gsub_nil G7) p ?_
            rcases List.mem_cons.mp hp with rfl | hp
            · exact .head _
            · rcases List.mem_cons.mp hp with rfl | hp
              · exact .tail _ (.head _)
              · exact .tail _ (.tail _ (List.mem_append_right _ hp))
      · exact N.grown (gsub_nil G7) p (.tail _ (.tail _ (List.mem_append_left _ hp)))
    have hKd : ∀ p ∈ ((b, instObj 105 bd) :: (bd, dictOf bes bn) :: (D, LCg.lst (rows.map Row.ref)) :: (L' + 1, oc) :: rows.map Row.inst), p.1 ∉ rows.map Row.d := by
      intro p hp hm
      obtain ⟨r, hr, e⟩ := List.mem_map.mp hm
      have z := (N8 (Row.led r) (List.mem_append_right _ (List.mem_map_of_mem hr))).1
      have y := (N8 p (List.mem_append_left _ hp)).1
      have x := hlt (Row.led r) (.tail _ (.tail _ (List.mem_append_left _ (List.mem_map_of_mem hr))))
      simp only [Row.led] at z x
      rw [← e, z] at y
      rcases List.mem_cons.mp hp with rfl | hp
      · cases y
      · rcases List.mem_cons.mp hp with rfl | hp
        · dsimp only at e; rw [e] at x; exact absurd hxd.2 (Nat.not_le.mpr x)
        · rcases List.mem_cons.mp hp with rfl | hp
          · have y2 := congrArg Obj.data (Option.some.inj y); cases y2
          · rcases List.mem_cons.mp hp with rfl | hp
            · rename oc.data = _ => hcd
              have y2 := congrArg Obj.data (Option.some.inj y); rw [hcd] at y2; cases y2
            · obtain ⟨q, hq, rfl⟩ := List.mem_map.mp hp
              cases y
    clear F N hlt
    generalize hK : ((b, instObj 105 bd) :: (bd, dictOf bes bn) :: (D, LCg.lst (rows.map Row.ref)) :: (L' + 1, oc) :: rows.map Row.inst) = K at N8 hKd
    have hKb : (b, instObj 105 bd) ∈ K := hK ▸ .head _
    have hKbd : (bd, dictOf bes bn) ∈ K := hK ▸ .tail _ (.head _)
    have hKD : (D, LCg.lst (rows.map Row.ref)) ∈ K := hK ▸ .tail _ (.tail _ (.head _))
    have hKc : (L' + 1, oc) ∈ K := hK ▸ .tail _ (.tail _ (.tail _ (.head _)))
    have hKi : ∀ r ∈ rows, (r.x, instObj 52 r.d) ∈ K := fun r hr => hK ▸ .tail _ (.tail _ (.tail _ (.tail _ (List.mem_map_of_mem (f := Row.inst) hr))))
    have hlD : ∀ h' : Heap, h'.get? D = some (LCg.lst (rows.map Row.ref)) → ∀ r' : List Row, r'.map Row.key = rows.map Row.key → h'.IsList D (r'.map Row.ref).toArray := fun h' e r' hk => ⟨_, e, rfl, _, by rw [key_ref hk]⟩
    clear N7
    k_unmd
    k_steps
    (rename Fr _ _ _ _ => F9); (rename News _ _ _ _ => N9)
    try clear N8
    refine Stop.mk (loop_listT ["begun", "many"] hh' F9 N9 (IsList.keep' hpr1 F9.keep)
      (fun i news => ∃ rows', rows'.map Row.key = rows.map Row.key ∧ (∀ r ∈ rows', r.ok) ∧ UAt rows' (fun j => ∃ p ∈ parts.take i, HangAt cs p.1 (p.1 + p.2) j) ∧ news = K ++ rows'.map Row.led)
      ⟨rows, rfl, hok, fun j hj => by simp [hu _ (List.getElem_mem hj)], rfl⟩ ?_ ?_)
    · rintro i v u news₁ s₁ own hi5 hv ⟨rows', hk, ho, hU, rfl⟩ hoff hown hst F N
      rw [hP1.1] at hi5
      obtain ⟨bg, mn, hp⟩ : ∃ bg mn, parts[i] = (bg, mn) := ⟨_, _, rfl⟩
      obtain ⟨t, tb, tm, e1, to, te, tr⟩ := hP1.2 i bg mn (by rw [List.getElem?_eq_getElem hi5, hp])
      rw [e1] at hv
      obtain rfl := Option.some.inj hv
      have hpb : bg + mn ≤ cs.length := hPb (bg, mn) (hp ▸ List.getElem_mem hi5)
      clear F9 N9
      refine unpackN_ F N ⟨to, F.keep _ _ te, tr⟩ hh' (by rfl) (by rfl) ?_
      intro h6 F6 N6
      have hdl : ∀ p ∈ own, p.1 ∉ rows'.map Row.d := by
        intro p hp hm
        obtain ⟨r, hr, e⟩ := List.mem_map.mp hm
        rcases hown p hp with q | q
        · exact hoff (Row.led r) (List.mem_append_right _ (List.mem_map_of_mem hr)) (by rw [Row.led, e, q])
        · obtain ⟨o, eo, _⟩ := hpr1
          have z := (N (Row.led r) (List.mem_append_right _ (List.mem_append_right _ (List.mem_map_of_mem hr)))).2.2
          simp only [Row.led, e, q] at z
          rw [eo] at z; cases z
      clear F N
      k_unmd
      k_fold
      k_steps
      try dsimp only
      rw [← Int.natCast_add]
      (rename Fr _ _ _ _ => FA); (rename News _ _ _ _ => NA)
      have inK : ∀ p ∈ K, p ∈ own ++ (K ++ rows'.map Row.led) := fun p hp => List.mem_append_right _ (List.mem_append_left _ hp)
      refine Stop.mk (hang_call (lo := bg) (hi := bg + mn) C' FA (fun p hp => NA p (List.mem_append_right _ (List.mem_append_right _ hp))) (NA _ (inK _ hKb)).1 (NA _ (inK _ hKbd)).1 hB (by rw [key_d hk]; exact hKd _ hKbd)
        (hlD _ (NA _ (inK _ hKD)).1 _ hk) (xin_key hk (fun r hr => (NA _ (inK _ (hKi r hr))).1)) ho ((key_d hk).symm ▸ hnd) hU (Nat.le_add_right _ _) (by rw [key_len hk, hrl]; exact hpb) (by rw [key_len hk]; exact hlenr) (by show A.depth + 1 ≤ 500; omega) (by show A.units + 3 ≤ 2000; omega) ?_)
      intro rows'' hB2 tkB hk2 ho2 hU2 NB FB GB
      have NC : News g' L' hB2 (own ++ (K ++ rows''.map Row.led)) := fun p hp => by
        rcases List.mem_append.mp hp with hp | hp
        · exact ⟨GB _ _ (NA p (List.mem_append_left _ hp)).1 (hdl p hp), (NA p (List.mem_append_left _ hp)).2⟩
        · rcases List.mem_append.mp hp with hp | hp
          · exact ⟨GB _ _ (NA p (inK p hp)).1 (by rw [key_d hk]; exact hKd p hp), (NA p (inK p hp)).2⟩
          · exact NB p hp
      k_unmd
      k_steps
      refine ⟨rfl, hB2, _, _, K ++ rows''.map Row.led, rfl, FB, NC, ?_, fun y hy => ?_, rows'', hk2.trans hk, ho2, fun j hj => ?_, rfl⟩
      · intro p hp
        rcases List.mem_append.mp hp with hp | hp
        · exact hoff p (List.mem_append_left _ hp)
        · obtain ⟨r, hr, rfl⟩ := List.mem_map.mp hp
          obtain ⟨j, hj, rfl⟩ := List.getElem_of_mem hr
          have hj1 : j < rows'.length := by rw [← key_len hk2]; exact hj
          have kd : (rows''[j]).d = (rows'[j]).d := congrArg (·.2.1) (key_at hk2 hj1 hj)
          have := hoff (Row.led rows'[j]) (List.mem_append_right _ (List.mem_map_of_mem (List.getElem_mem hj1)))
          simp only [Row.led, kd]
          exact this
      · have q1 : y ≠ Str.ofString "begun" := by rintro rfl; exact absurd hy (by decide)
        have q2 : y ≠ Str.ofString "many" := by rintro rfl; exact absurd hy (by decide)
        simp [hy, q1, q2]
      · rw [hU2 j hj, List.take_add_one, List.getElem?_eq_getElem hi5, hp, (key_cl hk).trans hcl]
        simp only [Option.toList_some, List.mem_append, List.mem_singleton]
        constructor
        · rintro (⟨p, p1, p2⟩ | q)
          · exact ⟨p, .inl p1, p2⟩
          · exact ⟨_, .inr rfl, q⟩
        · rintro ⟨p, p1 | rfl, p2⟩
          · exact .inl ⟨p, p1, p2⟩
          · exact .inr p2
    · rintro h9 tk9 u news₁ F N ⟨rows', hk, ho, hU, rfl⟩
      rw [hP1.1, List.take_length] at hU
      clear F9 N9
      k_unmd
      k_steps
      have inK : ∀ p ∈ K, p ∈ K ++ rows'.map Row.led := fun p hp => List.mem_append_left _ hp
      have hkc : rows'.map Row.cl = cs := (key_cl hk).trans hcl
      refine Stop.mk (spread_call C' F (fun p hp => N p (List.mem_append_right _ hp)) (N _ (inK _ hKb)).1 (N _ (inK _ hKbd)).1 hB (by rw [key_d hk]; exact hKd _ hKbd)
        (hlD _ (N _ (inK _ hKD)).1 _ hk) (xin_key hk (fun r hr => (N _ (inK _ (hKi r hr))).1)) ho ((key_d hk).symm ▸ hnd) hU (by rw [hkc]; exact hC) (by rw [key_len hk]; exact hlenr) (by show A.depth + 1 ≤ 400; omega) (by show A.units + 3 ≤ 1900; omega) ?_)
      intro rows'' hB2 tkB hk2 ho2 hU2 NB FB GB
      have NC : News g' L' hB2 (K ++ rows''.map Row.led) := fun p hp => by
        rcases List.mem_append.mp hp with hp | hp
        · exact ⟨GB _ _ (N p (inK p hp)).1 (by rw [key_d hk]; exact hKd p hp), (N p (inK p hp)).2⟩
        · exact NB p hp
      rw [hkc] at hU2
      clear F N NB
      k_unmd
      k_steps
      have hk3 : rows''.map Row.key = rows.map Row.key := hk2.trans hk
      have inK2 : ∀ p ∈ K, p ∈ K ++ rows''.map Row.led := fun p hp => List.mem_append_left _ hp
      have hl3 : ∀ h' : Heap, (∀ b o, hB2.get? b = some o → h'.get? b = some o) → h'.IsList D (rows''.map Row.ref).toArray := fun h' k => hlD _ (k _ _ (NC _ (inK2 _ hKD)).1) _ hk3
      have hR3 : ∀ h' : Heap, (∀ b o, hB2.get? b = some o → h'.get? b = some o) → RowsIn h' rows'' := fun h' k r hr => ⟨k _ _ (xin_key hk3 (fun r hr => (NC _ (inK2 _ (hKi r hr))).1) r hr), k _ _ (NC (Row.led r) (List.mem_append_right _ (List.mem_map_of_mem hr))).1, ho2 r hr⟩
      have hkc3 : rows''.map Row.cl = cs := (key_cl hk3).trans hcl
      have hkg3 : rows''.map Row.gl = (List.range cs.length).map (fun j : Nat => 5 + (j : Int)) := (key_gl hk3).trans hgl
      have hlen3 : rows''.length = cs.length := (key_len hk3).trans hrl
      refine Stop.mk (meth_clusters X' FB (NC _ (inK2 _ hKb)).1 (NC _ (inK2 _ hKbd)).1 hB ?_)
      k_unmd
      k_steps
      refine Stop.mk (clusters_call C' FB (NC _ (inK2 _ hKb)).1 (NC _ (inK2 _ hKbd)).1 hB (hl3 _ fun _ _ e => e) (hR3 _ fun _ _ e => e) (by omega) (by show A.depth + 1 ≤ 500; omega) (by show A.units + 3 ≤ 2000; omega) ?_)
      intro D2 ys2 hC2 tkC hys2 NC2 hDn FC GC
      rw [hkc3] at hys2
      have ND : News g' L' hC2 ((D2, LCg.lst ys2) :: (L' + 1, oc) :: (K ++ rows''.map Row.led)) := fun p hp => by
        rcases List.mem_cons.mp hp with rfl | hp
        · exact NC2 _ (.head _)
        · refine NC.grown (gsub_nil GC) p ?_
          rcases List.mem_cons.mp hp with rfl | hp
          · exact inK2 _ hKc
          · exact hp
      clear FB NC2
      k_unmd
      k_steps
      refine Stop.mk (PySem.W.ke_ne_ints (ys := vs) ⟨_, (ND _ (.head _)).1, rfl, _, rfl⟩ (IsList.keep' hl1 FC.keep) hys2 hi (by show A.units + 3 + 64 < 9900; omega) ?_)
      rw [show (!decide (cs = cs)) = false by simp]
      k_unmd
      k_steps
      refine Stop.mk (meth_glyphs X' FC (ND _ (.tail _ (.tail _ (inK2 _ hKb)))).1 (ND _ (.tail _ (.tail _ (inK2 _ hKbd)))).1 hB ?_)
      k_unmd
      k_steps
      refine Stop.mk (glyphs_call C' FC (ND _ (.tail _ (.tail _ (inK2 _ hKb)))).1 (ND _ (.tail _ (.tail _ (inK2 _ hKbd)))).1 hB (hl3 _ (gsub_nil GC)) (hR3 _ (gsub_nil GC)) (by omega) (by show A.depth + 1 ≤ 500; omega) (by show A.units + 3 ≤ 2000; omega) ?_)
      intro D3 ys3 hE2 tkE hys3 NE2 hDn3 FE GE
      rw [hkg3] at hys3
      have NF : News g' L' hE2 ((D3, LCg.lst ys3) :: (L' + 1, oc) :: (K ++ rows''.map Row.led)) := fun p hp => by
        rcases List.mem_cons.mp hp with rfl | hp
        · exact NE2 _ (.head _)
        · exact ND.grown (gsub_nil GE) p (.tail _ hp)
      have GF := gsub_trans GC GE
      clear FC NE2 ND
      k_unmd
      k_steps
      (rename Fr _ _ _ _ => FG); (rename News _ _ _ _ => NG)
      rename IsRange _ _ _ _ _ _ _ _ => hr2
      rename ∀ (b : Addr) (o : Obj), hE2.get? b = some o → Heap.get? _ b = some o => kG
      refine Stop.mk (LCg.CompSrc.range hh' FG NG hr2 (small_one (by decide) (by decide) (by omega) (by omega)) (by rw [rangeSize_nat]; simp) (by rw [sizeLine_eq]; omega) (fun g0 => compRest_inv cs.length
        (fun i ys news => IntsAre ys ((List.range i).map (fun j : Nat => 5 + (j : Int))) ∧ news = (D3, LCg.lst ys3) :: (L' + 1, oc) :: (K ++ rows''.map Row.led))
        ?_ ?_ _ 0 [] _ (Nat.zero_add _) ⟨.nil, rfl⟩))
      · rintro i ys news hi3 ⟨hys, rfl⟩ v I oI C oC D m₂ h tk E' ⟨t, rfl⟩ hC hx F N off ne
        clear FG NG hr2
        k_unmd
        k_fold
        k_steps
        refine Stop.mk (LCg.CompEnd.intro F N _ (fun p hp => hp) off trivial ⟨?_, rfl⟩)
        rw [List.range_succ, List.map_append]
        have e : (5 + (0 + (i : Int))) = 5 + (i : Int) := by omega
        rw [e]
        exact hys.append (.cons _ _ .nil)
      · rintro ys news ⟨hys, rfl⟩ D4 h tk F N o1
        clear FG NG hr2
        k_unmd
        k_steps
        have mK : ∀ p ∈ K, p ∈ (D4, LCg.lst ys) :: (D3, LCg.lst ys3) :: (L' + 1, oc) :: (K ++ rows''.map Row.led) := fun p hp => .tail _ (.tail _ (.tail _ (inK2 p hp)))
        refine Stop.mk (PySem.W.ke_ne_ints ⟨_, (N _ (.tail _ (.head _))).1, rfl, _, rfl⟩ ⟨_, (N _ (.head _)).1, rfl, _, rfl⟩ hys3 hys (by show A.units + 3 + 64 < 9900; omega) ?_)
        rw [show (!decide ((List.range cs.length).map (fun j : Nat => 5 + (j : Int)) = (List.range cs.length).map (fun j : Nat => 5 + (j : Int)))) = false by simp]
        k_unmd
        k_steps
        refine Stop.mk (get_row X' F (N _ (mK _ hKb)).1 (N _ (mK _ hKbd)).1 hB ?_)
        k_unmd
        k_steps
        have hcs : (rows.map Row.ref).toArray.size = rows''.length := by rw [List.size_toArray, List.length_map, hlen3, hrl]
        refine Stop.mk (LCg.CompSrc.ledger hh' F N (mK _ hKD) (by rw [sizeLine_eq, hcs]; omega) (fun g1 => compRest_inv _
          (fun i ys2 news => ys2 = (rows''.take i).map (fun r : Row => Value.bool r.u) ∧ news = (D4, LCg.lst ys) :: (D3, LCg.lst ys3) :: (L' + 1, oc) :: (K ++ rows''.map Row.led))
          ?_ ?_ _ 0 [] _ (Nat.zero_add _) ⟨rfl, rfl⟩))
        · rintro i ys2 news hi3 ⟨rfl, rfl⟩ v I oI C oC D m₂ h tk E' hv hC hx F N off ne
          rw [hcs] at hi3
          have hv' : v = .ref (rows''[i]).x := by
            rw [← key_ref hk3] at hv
            have : (rows''.map Row.ref)[i]? = some v := by simpa using hv
            rw [List.getElem?_map, List.getElem?_eq_getElem hi3] at this
            exact (Option.some.inj this).symm
          subst hv'
          have mK2 : ∀ p ∈ K ++ rows''.map Row.led, (h.get? p.1 = some p.2) := fun p hp => (N p (.tail _ (.tail _ (.tail _ (.tail _ (.tail _ (.tail _ hp))))))).1
          have r1 := xin_key (h := h) hk3 (fun r hr => mK2 _ (inK2 _ (hKi r hr))) _ (List.getElem_mem hi3)
          have r2 := mK2 (Row.led rows''[i]) (List.mem_append_right _ (List.mem_map_of_mem (List.getElem_mem hi3)))
          k_unmd
          k_fold
          k_steps
          refine Stop.mk (get_unsafe X' F r1 r2 (ho2 _ (List.getElem_mem hi3)) ?_)
          k_unmd
          k_steps
          refine Stop.mk (LCg.CompEnd.intro F N _ (fun p hp => hp) off (Or.inr ⟨_, mK _ hKD, rfl, _, rfl⟩) ⟨?_, rfl⟩)
          rw [List.take_add_one, List.getElem?_eq_getElem hi3, Option.toList_some, List.map_append]
          rfl
        · rintro ys2 news ⟨rfl, rfl⟩ D5 h tk F N o1
          rw [hcs, List.take_length] at N
          k_unmd
          k_steps
          (try dsimp only)
          (try k_unmd); (try k_unfold); (try k_unmd); (try k_unfold)
          refine fin D5 (rows''.map (·.u)) _ _ _ _ (by rw [List.length_map, hlen3]) (fun j hj => ?_) F N ?_
          · rw [List.getElem_map]
            exact hU2 j (by simpa using hj)
          · rw [List.map_map]; exact .head _
end
end Mine
namespace Mine
section
open PyProof.V PySem.Spec PySem.SeqAt
variable {prog : Program} {w : World} {A : Around} {E : Value → Shared → Prop} {s : Shared} {g : Heap} {L : Addr} {m : Str → Option Value} {env : Env}
theorem loop_rangeO {Q : Flow → Shared → Prop} {x : Str} {body : List Stmt} {r : Addr} {a b : Int} {t u v : Tok} {n : Nat} {news : List (Addr × Obj)} (stored : List Str) (hh : A.handled = none) (F : Fr g env.locals s.heap m) (N : News g env.locals s.heap news) (hr : IsRange s.heap r a b 1 t u v)
    (hsm : Builtin.Range.small a b 1 = true) (hn : Builtin.Range.rangeSize a b 1 = ((n : Nat) : Int))
    (J : Nat → (Str → Option Value) → List (Addr × Obj) → Prop) (hJ : J 0 m news)
    (step : ∀ i t u news₁ h tk own, i < n → J i u news₁ → (∀ p ∈ news₁, p.1 ≠ s.heap.objs.size) → (∀ p ∈ own, p.1 = s.heap.objs.size) → (∃ o, (s.heap.objs.size, o) ∈ own) → Fr g env.locals h (fun y => if y = x then some (.int (a + (i : Int)) t) else if stored.contains y then u y else m y) → News g env.locals h (own ++ news₁) →
      wpAny (model prog w) A (execs body env) (TurnE s g env.locals s.heap.objs.size own x stored m (J (i + 1)) Q) E { s with heap := h, toks := tk })
    (done : ∀ h tk u news', Fr g env.locals h (fun y => if y = x then u y else if stored.contains y then u y else m y) → News g env.locals h news' → J n u news' → Q .next { s with heap := h, toks := tk }) :
    wpAny (model prog w) A (pyIter (.ref r)) (fun it s₂ => LoopAtV prog w A g env x body Q E it s₂) E s := by
  refine wpAny_pyIter_range hr hsm ?_
  refine ⟨s.heap.objs.size, [s.heap.objs.size], [s.heap.objs.size], n, _, _, m, news, fun i m₁ news₁ => (∀ y, y ≠ x → stored.contains y = false → m₁ y = m y) ∧ J i m₁ news₁, rfl, LCg.range_walks hh a n, ?_, ?_, ?_, by show IsRangeIter _ _ _ _ _; rw [hn]; simpa using Heap.get?_push_size _ rfl, F.keeps fun _ _ e => Heap.get?_push_of_some _ e, N.grown fun _ _ e => Heap.get?_push_of_some _ e, ⟨fun _ _ _ => rfl, hJ⟩, ?_, ?_⟩
  · intro hm
    exact absurd F.ns.lt ((List.mem_singleton.mp hm) ▸ Nat.lt_irrefl _)
  · intro b hb; rw [List.mem_singleton.mp hb]; exact next_is_new F
  · intro p hp hm; exact Nat.ne_of_lt (Heap.lt_size (N p hp).1) (List.mem_singleton.mp hm)
  · rintro i v m₁ news₁ s₁ own ⟨h, tk, rfl⟩ hi ⟨t', rfl⟩ ⟨hm, hJi⟩ hoff hown _ hcov hst F₁ N₁
    have hI : ∃ o, (s.heap.objs.size, o) ∈ own := by
      have z : (h.get? s.heap.objs.size).isSome = true := by
        have z' : IsRangeIter h s.heap.objs.size _ _ _ := hst
        unfold IsRangeIter at z'
        rw [z']; rfl
      obtain ⟨o, ho⟩ := Option.isSome_iff_exists.mp z
      exact ⟨o, hcov _ (List.mem_singleton.mpr rfl) (next_is_new F) o ho⟩
    refine wpAny_mono (step i t' m₁ news₁ h tk own hi hJi (fun p hp e => hoff p hp (List.mem_singleton.mpr e)) (fun p hp => List.mem_singleton.mp (hown p hp)) hI (fr_eq F₁ (pick_m hm)) N₁) (fun f s₂ q => ?_) fun _ _ q => q
    have conv : (∃ h' tk' m₂ news₂, s₂ = { s with heap := h', toks := tk' } ∧ Fr g env.locals h' m₂ ∧ News g env.locals h' (own ++ news₂) ∧ (∀ p ∈ news₂, p.1 ≠ s.heap.objs.size) ∧ (∀ y, y ≠ x → stored.contains y = false → m₂ y = m y) ∧ J (i + 1) m₂ news₂) →
          LoopStepU g env.locals [s.heap.objs.size] own (fun m₁ news₁ => (∀ y, y ≠ x → stored.contains y = false → m₁ y = m y) ∧ J (i + 1) m₁ news₁) { s with heap := h, toks := tk } .next s₂ := by
        rintro ⟨h', tk', m₂, news₂, e, F', N', o', j'⟩
        exact ⟨rfl, h', tk', m₂, news₂, e, F', N', fun p hp hm => o' p hp (List.mem_singleton.mp hm), j'⟩
    cases f with
    | ret v => exact q
    | brk => exact q
    | cont => exact conv q
    | next => exact conv q
  · intro h' tk m' news' F' N' _ ⟨hm, j⟩
    exact done h' tk m' news' (fr_eq F' (pick_m' hm)) N' j
theorem loop_listTO {Q : Flow → Shared → Prop} {target : Expr} {body : List Stmt} {ax : Addr} {its : Array Value} {news : List (Addr × Obj)} (stored : List Str) (hh : A.handled = none) (F : Fr g env.locals s.heap m) (N : News g env.locals s.heap news) (hl : s.heap.IsList ax its)
    (J : Nat → List (Addr × Obj) → Prop) (hJ : J 0 news)
    (step : ∀ i v (u : Str → Option Value) news₁ (s₁ : Shared) own, i < its.size → its[i]? = some v → J i news₁ → (∀ p ∈ news₁, p.1 ≠ s.heap.objs.size) → (∀ p ∈ own, p.1 = s.heap.objs.size ∨ p.1 = ax) → (∃ o, (s.heap.objs.size, o) ∈ own) → s₁.heap.IsList ax its → Fr g env.locals s₁.heap (fun y => if stored.contains y then u y else m y) → News g env.locals s₁.heap (own ++ news₁) →
      wpAny (model prog w) A (assign target env v) (fun _ s₃ => wpAny (model prog w) A (execs body env) (TurnT s₁ g env.locals s.heap.objs.size own stored m (J (i + 1))) E s₃) E s₁)
    (done : ∀ h tk (u : Str → Option Value) news', Fr g env.locals h (fun y => if stored.contains y then u y else m y) → News g env.locals h news' → J its.size news' → Q .next { s with heap := h, toks := tk }) :
    wpAny (model prog w) A (pyIter (.ref ax)) (fun it s₂ => LoopAtT prog w A g env target body Q E it s₂) E s := by
  have hlt : ax < s.heap.objs.size := by obtain ⟨_, e, _⟩ := hl; exact Heap.lt_size e
  have pm : ∀ m₁ : Str → Option Value, (∀ y, stored.contains y = false → m₁ y = m y) → ∀ y, m₁ y = if stored.contains y then m₁ y else m y := by
    intro m₁ hm y
    cases h2 : stored.contains y with
    | true => simp
    | false => simp only [Bool.false_eq_true, if_false]; exact hm y h2
  refine wpAny_pyIter_list hl ?_
  have up : ∀ b o, s.heap.get? b = some o → (s.heap.push { cls := .type "list_iterator", data := .fields #[.ref ax, .int 0 0] }).get? b = some o := fun b o e => Heap.get?_push_of_some _ e
  refine ⟨s.heap.objs.size, [s.heap.objs.size, ax], [s.heap.objs.size], its.size, _, _, m, news, fun i m₁ n₁ => (∀ y, stored.contains y = false → m₁ y = m y) ∧ J i n₁, rfl, Walks.list hh s.heap.objs.size ax (Nat.ne_of_lt hlt) its, ?_, ?_, ?_, ⟨⟨_, Heap.get?_push_size _ rfl, rfl, rfl⟩, hl.push _⟩, F.keeps up, N.grown up, fun i s' v Q' st hQ' => letGo_listiter st.1 hQ', ⟨fun _ _ => rfl, hJ⟩, ?_, ?_⟩
  · intro hm
    have hL := F.ns.lt
    rcases List.mem_cons.mp hm with e | hm
    · exact absurd hL (by rw [e]; exact Nat.lt_irrefl _)
    · obtain ⟨o1, e1, c1, n1, d1⟩ := hl
      obtain ⟨o2, es, ep, e2, d2, _⟩ := F.ns
      rw [List.mem_singleton.mp hm, e1] at e2
      cases e2
      rw [d1] at d2; cases d2
  · intro b hb; rw [List.mem_singleton.mp hb]; exact next_is_new F
  · intro p hp hm; exact Nat.ne_of_lt (Heap.lt_size (N p hp).1) (List.mem_singleton.mp hm)
  · rintro i v m₁ news₁ s₁ own hi hP ⟨hm, hJi⟩ hoff hown _ hcov hst F₁ N₁
    have hI : ∃ o, (s.heap.objs.size, o) ∈ own := by
      obtain ⟨o, ho, _⟩ := hst.1
      exact ⟨o, hcov _ (.head _) (next_is_new F) o ho⟩
    refine wpAny_mono (step i v m₁ news₁ s₁ own hi hP hJi (fun p hp e => hoff p hp (List.mem_singleton.mpr e)) (fun p hp => ?_) hI hst.2 (fr_eq F₁ (pm _ hm)) N₁) (fun _ s₃ q => ?_) fun _ _ q => q
    · rcases List.mem_cons.mp (hown p hp) with e | e
      · exact .inl e
      · exact .inr (List.mem_singleton.mp e)
    · refine wpAny_mono q (fun f s₂ q => ?_) fun _ _ q => q
      obtain ⟨rfl, h', tk', m₂, news₂, e, F', N', o', hm', j'⟩ := q
      exact ⟨rfl, h', tk', m₂, news₂, e, F', N', fun p hp hm => o' p hp (List.mem_singleton.mp hm), hm', j'⟩
  · intro h' tk m' news' F' N' _ ⟨hm, j⟩
    exact done h' tk m' news' (fr_eq F' (pm _ hm)) N' j
/-! lists of bools, compared -/
theorem boolsAre_map : ∀ bs : List Bool, LSm.BoolsAre (bs.map Value.bool) bs
  | [] => .nil
  | b :: r => .cons b (boolsAre_map r)
theorem readsAll_of_bools {h : Heap} : ∀ {vs : List Value} {ns : List Bool}, LSm.BoolsAre vs ns → ReadsAll h vs (ns.map PyData.bool) []
  | _, _, .nil => .nil
  | _, _, .cons k r => by
    have := ReadsAll.cons (Reads.bool (h := h) k) (readsAll_of_bools (h := h) r)
    simpa using this
theorem reads_of_bools {h : Heap} {a : Addr} {vs : List Value} {ns : List Bool} (hl : h.IsList a vs.toArray) (hi : LSm.BoolsAre vs ns) : Reads h (.ref a) (.list (ns.map PyData.bool)) [a] := by
  obtain ⟨o, ho, hc, n, hd⟩ := hl
  exact Reads.list ho hc hd (by simpa using readsAll_of_bools hi)
theorem canLayAll0_bools : ∀ ns : List Bool, PyData.canLayAll0 (ns.map PyData.bool) = true
  | [] => by simp [PyData.canLayAll0]
  | n :: r => by simp [PyData.canLayAll0, PyData.canLay0, canLayAll0_bools r]
theorem depthAll_bools : ∀ ns : List Bool, PyData.depthAll (ns.map PyData.bool) ≤ 1
  | [] => by simp [PyData.depthAll]
  | n :: r => by
    have := depthAll_bools r
    simp only [List.map_cons, PyData.depthAll, PyData.depth]
    omega
theorem shaped_bools (ns : List Bool) : shaped (.list (ns.map PyData.bool)) = true := by
  have h1 := depthAll_bools ns
  have h2 : PyData.depth (.list (ns.map PyData.bool)) ≤ 64 := by simp only [PyData.depth]; omega
  show (PyData.canLay0 (.list (ns.map PyData.bool)) && decide (PyData.depth (.list (ns.map PyData.bool)) ≤ 64)) = true
  rw [Bool.and_eq_true]
  exact ⟨by simp only [PyData.canLay0]; exact canLayAll0_bools ns, decide_eq_true h2⟩
theorem noMix_bools : ∀ ns ms : List Bool, noMixAll (ns.map PyData.bool) (ms.map PyData.bool) = true
  | [], [] => by simp [noMixAll]
  | [], _ :: _ => by simp [noMixAll]
  | _ :: _, [] => by simp [noMixAll]
  | _ :: r, _ :: q => by simp [noMixAll, noMix, noMix_bools r q]
theorem same_bools : ∀ ns ms : List Bool, PySem.Spec.sameAll (ns.map PyData.bool) (ms.map PyData.bool) = decide (ns = ms)
  | [], [] => by simp [PySem.Spec.sameAll]
  | [], _ :: _ => by simp [PySem.Spec.sameAll]
  | _ :: _, [] => by simp [PySem.Spec.sameAll]
  | n :: r, k :: q => by
    simp only [List.map_cons, PySem.Spec.sameAll, PySem.Spec.same, same_bools r q]
    by_cases h : n = k <;> simp [h]
theorem eq_bools {a b : Addr} {vs us : List Value} {ns ms : List Bool} {Q : Value → Shared → Prop} (hl : s.heap.IsList a vs.toArray) (hi : LSm.BoolsAre vs ns) (hl' : s.heap.IsList b us.toArray) (hi' : LSm.BoolsAre us ms) (hu : A.units + 64 < cLine)
    (h : Q (.bool (decide (ns = ms))) s) : wpAny (model prog w) A (compareOp .Eq (.ref a) (.ref b)) Q E s :=
  eq_dataH_same (reads_of_bools hl hi) (reads_of_bools hl' hi') (shaped_bools ns) (shaped_bools ms) hu (by simp only [noMix]; exact noMix_bools ns ms) (by simp only [PySem.Spec.same]; rw [same_bools]; exact h)
theorem ne_bools {a b : Addr} {vs us : List Value} {ns ms : List Bool} {Q : Value → Shared → Prop} (hl : s.heap.IsList a vs.toArray) (hi : LSm.BoolsAre vs ns) (hl' : s.heap.IsList b us.toArray) (hi' : LSm.BoolsAre us ms) (hu : A.units + 64 < cLine)
    (h : Q (.bool (!decide (ns = ms))) s) : wpAny (model prog w) A (compareOp .NotEq (.ref a) (.ref b)) Q E s :=
  ne_dataH_same (reads_of_bools hl hi) (reads_of_bools hl' hi') (shaped_bools ns) (shaped_bools ms) hu (by simp only [noMix]; exact noMix_bools ns ms) (by simp only [PySem.Spec.same]; rw [same_bools]; exact h)
end
/-- the pairs that the law has made, in the ledger -/
def TupsAt (tl : List (Addr × Obj)) (its : List Value) (parts : List (Nat × Nat)) : Prop := its.length = parts.length ∧ ∀ (i b m : Nat), parts[i]? = some (b, m) → ∃ (t : Addr) (tb tm : Tok), its[i]? = some (Value.ref t) ∧ (t, ({ cls := .type "tuple", data := .seq #[Value.int (b : Int) tb, Value.int (m : Int) tm] } : Obj)) ∈ tl
theorem TupsAt.more {tl tl' : List (Addr × Obj)} {its : List Value} {parts : List (Nat × Nat)} {t : Addr} {b m : Nat} {tb tm : Tok} (T : TupsAt tl its parts) (hs : ∀ p ∈ tl, p ∈ tl')
    (ht : (t, ({ cls := .type "tuple", data := .seq #[Value.int (b : Int) tb, Value.int (m : Int) tm] } : Obj)) ∈ tl') : TupsAt tl' (its ++ [.ref t]) (parts ++ [(b, m)]) := by
  refine ⟨by rw [List.length_append, List.length_append, T.1]; rfl, fun i b' m' e => ?_⟩
  by_cases c : i < parts.length
  · rw [List.getElem?_append_left c] at e
    obtain ⟨t', tb', tm', e1, e2⟩ := T.2 i b' m' e
    exact ⟨t', tb', tm', by rw [List.getElem?_append_left (by rw [T.1]; exact c)]; exact e1, hs _ e2⟩
  · rw [List.getElem?_append_right (by omega)] at e
    have c2 : i - parts.length = 0 := by
      rcases Nat.eq_zero_or_pos (i - parts.length) with h | h
      · exact h
      · rw [List.getElem?_eq_none (by show 1 ≤ _; omega)] at e; cases e
    rw [c2] at e
    cases e
    refine ⟨t, tb, tm, ?_, ht⟩
    rw [List.getElem?_append_right (by rw [T.1]; omega), T.1, c2]; rfl
theorem TupsAt.parts {g h : Heap} {L : Addr} {news tl : List (Addr × Obj)} {its : List Value} {parts : List (Nat × Nat)} (T : TupsAt tl its parts) (N : News g L h news) (hs : ∀ p ∈ tl, p ∈ news) : PartsAt h its.toArray parts :=
  ⟨by rw [List.size_toArray]; exact T.1, fun i b m e => by
    obtain ⟨t, tb, tm, e1, e2⟩ := T.2 i b m e
    exact ⟨t, tb, tm, by simpa using e1, _, (N _ (hs _ e2)).1, rfl, _, rfl⟩⟩
theorem TupsAt.rev {tl : List (Addr × Obj)} {its : List Value} {parts : List (Nat × Nat)} (T : TupsAt tl its parts) : TupsAt tl its.reverse parts.reverse := by
  refine ⟨by rw [List.length_reverse, List.length_reverse]; exact T.1, fun i b m e => ?_⟩
  have hi : i < parts.length := by
    have := (List.getElem?_eq_some_iff.mp e).1
    rwa [List.length_reverse] at this
  rw [List.getElem?_reverse hi] at e
  obtain ⟨t, tb, tm, e1, e2⟩ := T.2 _ b m e
  exact ⟨t, tb, tm, by rw [List.getElem?_reverse (by rw [T.1]; exact hi), T.1]; exact e1, e2⟩
/-! the plain law -/
theorem contig_of_mono {cs : List Int} (h : cs.Pairwise (· ≤ ·) ∨ cs.Pairwise (· ≥ ·)) : Contig cs := by
  intro i j k hij hjk hk e
  have gd : ∀ a (ha : a < cs.length), cs.getD a 0 = cs[a] := fun a ha => by rw [List.getD_eq_getElem?_getD, List.getElem?_eq_getElem ha]; rfl
  rw [gd i (by omega), gd k hk] at e
  rw [gd i (by omega), gd j (by omega)]
  by_cases c1 : i = j
  · subst c1; rfl
  by_cases c2 : j = k
  · subst c2; exact e.symm
  rcases h with h | h
  · have h1 := List.pairwise_iff_getElem.mp h i j (by omega) (by omega) (by omega)
    have h2 := List.pairwise_iff_getElem.mp h j k (by omega) (by omega) (by omega)
    omega
  · have h1 := List.pairwise_iff_getElem.mp h i j (by omega) (by omega) (by omega)
    have h2 := List.pairwise_iff_getElem.mp h j k (by omega) (by omega) (by omega)
    simp only [ge_iff_le] at h1 h2
    omega
/-- the marked values of some stretches -/
def MarkedBy (cs : List Int) (parts : List (Nat × Nat)) (x : Int) : Prop := ∃ p ∈ parts, ∃ k, HangAt cs p.1 (p.1 + p.2) k ∧ cs.getD k 0 = x
theorem hung_iff {cs : List Int} {parts : List (Nat × Nat)} {us : List Int} (hb : ∀ p ∈ parts, p.1 + p.2 ≤ cs.length) (hu : ∀ x, x ∈ us ↔ MarkedBy cs parts x) (j : Nat) : HungAt cs parts j ↔ cs.getD j 0 ∈ us := by
  rw [hu]
  constructor
  · rintro ⟨k, hk, e, p, hp, hh⟩
    exact ⟨p, hp, k, hh, e⟩
  · rintro ⟨p, hp, k, hh, e⟩
    refine ⟨k, ?_, e, p, hp, hh⟩
    have := hb p hp
    have := hh.2.1
    omega
theorem hung_rev {cs : List Int} {parts : List (Nat × Nat)} (j : Nat) : HungAt cs parts.reverse j ↔ HungAt cs parts j := by
  unfold HungAt
  simp only [List.mem_reverse]
theorem hung_nil {cs : List Int} (j : Nat) : ¬ HungAt cs [] j := by
  rintro ⟨k, hk, e, p, hp, hh⟩
  cases hp
theorem hung_lone {cs : List Int} {b : Nat} (j : Nat) : ¬ HungAt cs [(b, 1)] j := by
  rintro ⟨k, hk, e, p, hp, h1, h2, k2, h3, h4, h5⟩
  rw [List.mem_singleton] at hp
  subst hp
  simp only at h1 h2 h3 h4
  have : k = b := by omega
  have : k2 = b := by omega
  subst k2; subst k
  exact absurd h5 (Int.lt_irrefl _)
theorem due_eq {cs us : List Int} {parts : List (Nat × Nat)} {bs : List Bool} (hb : ∀ p ∈ parts, p.1 + p.2 ≤ cs.length) (hu : ∀ x, x ∈ us ↔ MarkedBy cs parts x) (hl : bs.length = cs.length)
    (h : ∀ j (hj : j < bs.length), bs[j] = true ↔ HungAt cs parts j) : bs = cs.map fun c => us.any (· == c) := by
  refine List.ext_getElem (by rw [List.length_map]; exact hl) fun j h1 h2 => ?_
  have e := (h j h1).trans (hung_iff hb hu j)
  rw [List.getElem_map]
  have hj : j < cs.length := by omega
  rw [List.getD_eq_getElem?_getD, List.getElem?_eq_getElem hj, Option.getD_some] at e
  rw [Bool.eq_iff_iff, e, List.any_eq_true]
  simp
theorem false_eq {cs : List Int} {parts : List (Nat × Nat)} {bs : List Bool} (hn : ∀ j, ¬ HungAt cs parts j) (hl : bs.length = cs.length) (h : ∀ j (hj : j < bs.length), bs[j] = true ↔ HungAt cs parts j) :
    bs = List.replicate cs.length false := by
  refine List.ext_getElem (by rw [List.length_replicate]; exact hl) fun j h1 h2 => ?_
  rw [List.getElem_replicate]
  have := hn j
  rw [← h j h1] at this
  simpa using this
theorem rep_flat (k : Nat) : (List.replicate k [false]).flatten = List.replicate k false := by
  induction k with
  | zero => rfl
  | succ k ih => rw [List.replicate_succ, List.flatten_cons, ih]; rfl
/-- the part of a stretch that is not the least -/
theorem marked_step {cs hs us : List Int} {parts : List (Nat × Nat)} {b m : Nat} (hhs : hs = (cs.drop b).take m) (hb : b + m ≤ cs.length) (hu : ∀ x, x ∈ us ↔ MarkedBy cs parts x) (f : Int → Bool)
    (hf : ∀ x ∈ hs, f x = true ↔ ∃ y ∈ hs, y < x) : ∀ x, x ∈ us ++ hs.filter f ↔ MarkedBy cs (parts ++ [(b, m)]) x := by
  intro x
  have gd : ∀ a (ha : a < cs.length), cs.getD a 0 = cs[a] := fun a ha => by rw [List.getD_eq_getElem?_getD, List.getElem?_eq_getElem ha]; rfl
  have hm : ∀ y, y ∈ hs ↔ ∃ k, b ≤ k ∧ k < b + m ∧ cs.getD k 0 = y := by
    intro y
    subst hhs
    rw [List.mem_iff_getElem]
    constructor
    · rintro ⟨i, hi, e⟩
      rw [List.length_take, List.length_drop] at hi
      refine ⟨b + i, by omega, by omega, ?_⟩
      rw [List.getElem_take, List.getElem_drop] at e
      rw [gd _ (by omega)]; exact e
    · rintro ⟨k, h1, h2, e⟩
      refine ⟨k - b, by rw [List.length_take, List.length_drop]; omega, ?_⟩
      rw [List.getElem_take, List.getElem_drop]
      rw [gd _ (by omega)] at e
      rw [← e]; congr 1; omega
  rw [List.mem_append, hu, List.mem_filter]
  constructor
  · rintro (⟨p, hp, r⟩ | ⟨h1, h2⟩)
    · exact ⟨p, List.mem_append_left _ hp, r⟩
    · obtain ⟨y, hy, hlt⟩ := (hf x h1).mp h2
      obtain ⟨k, k1, k2, rfl⟩ := (hm x).mp h1
      obtain ⟨k', k3, k4, rfl⟩ := (hm y).mp hy
      exact ⟨(b, m), List.mem_append_right _ (.head _), k, ⟨k1, k2, k', k3, k4, hlt⟩, rfl⟩
  · rintro ⟨p, hp, k, ⟨k1, k2, k', k3, k4, hlt⟩, rfl⟩
    rcases List.mem_append.mp hp with hp | hp
    · exact .inl ⟨p, hp, k, ⟨k1, k2, k', k3, k4, hlt⟩, rfl⟩
    · rw [List.mem_singleton] at hp
      subst hp
      have hx := (hm _).mpr ⟨k, k1, k2, rfl⟩
      exact .inr ⟨hx, (hf _ hx).mpr ⟨_, (hm _).mpr ⟨k', k3, k4, rfl⟩, hlt⟩⟩
theorem ints_pick : ∀ {vs : List Value} {ns : List Int} {i : Nat} {v : Value}, IntsAre vs ns → vs[i]? = some v → ∃ k t, ns[i]? = some k ∧ v = Value.int k t
  | _, _, 0, _, .cons k t _, e => ⟨k, t, rfl, (Option.some.inj e).symm⟩
  | _, _, i + 1, _, .cons _ _ r, e => ints_pick (i := i) r e
  | _, _, _, _, .nil, e => by simp at e
theorem rep_val (k : Nat) : (List.replicate k [Value.bool false]).flatten = (List.replicate k false).map Value.bool := by
  induction k with
  | zero => rfl
  | succ k ih => rw [List.replicate_succ, List.flatten_cons, ih, List.replicate_succ, List.map_cons]; rfl
theorem isl_rep {h : Heap} {a : Addr} {n : Nat} (H : h.IsList a (List.replicate ((n : Nat) : Int).toNat (#[Value.bool false] : Array Value).toList).flatten.toArray) : h.IsList a ((List.replicate n false).map Value.bool).toArray := by
  rw [← rep_val]; exact H
theorem mem_of_le {own news : List (Addr × Obj)} {I : Addr} {P : Addr × Obj → Prop} (h : ∃ o, (I, o) ∈ own) (ha : ∀ p ∈ own, P p) : ∃ o, P (I, o) := let ⟨o, ho⟩ := h; ⟨o, ha _ ho⟩
end Mine
namespace Mine
local macro_rules | `(tactic| walk_at "pad MLaw 0") => `(tactic| skip)
local macro_rules | `(tactic| walk_at "pad MLaw 1") => `(tactic| skip)
local macro_rules | `(tactic| walk_at "pad MLaw 2") => `(tactic| skip)
local macro_rules | `(tactic| units_room) => `(tactic| ((try simp only [units_deeper, units_in1]); (have hcL := cLine_is); omega))
local macro_rules | `(tactic| walk_at "eval ListComp") => `(tactic| (k_here; (first
  | ((with_reducible show wpAny _ _ (PySem.eval (PySem.Expr.ListComp _ [PySem.Comprehension.mk _ _ [] _] _ _) _) _ _ _); k_dflt (refine LCg.ListComp_U (F₀ := by k_asm) (by with_unfolding_all rfl) (by decide) (by rfl) (by decide) (by rfl) ?_))
  | ((with_reducible show wpAny _ _ (PySem.eval (PySem.Expr.ListComp _ [PySem.Comprehension.mk _ _ [_] _] _ _) _) _ _ _); k_dflt (refine LCt.ListComp_T (F₀ := by k_asm) (by with_unfolding_all rfl) (by decide) (by rfl) (by decide) (by rfl) ?_)))))
local macro_rules | `(tactic| walk_at "CompSrc") => `(tactic| refine unstop ?_)
local macro_rules | `(tactic| walk_at "CompSrcT") => `(tactic| refine unstop ?_)
local macro_rules | `(tactic| walk_at "pyIter ref") => `(tactic| refine unstop ?_)
local macro_rules | `(tactic| walk_at "call ref") => `(tactic| refine unstop ?_)
local macro_rules | `(tactic| walk_at "CompEnd") => `(tactic| refine unstop ?_)
local macro_rules | `(tactic| walk_at "call builtin:min") => `(tactic| refine unstop ?_)
local macro_rules | `(tactic| walk_at "exec For Name Name cons nil") => `(tactic| (k_here; (rename Fr _ _ _ _ => lF'); (with_unfolding_all refine' For_invVF lF' ?k1 ?k2 ?_; (case k1 => exact rfl); (case k2 => exact rfl); k_whole)))
local macro_rules | `(tactic| walk_at "exec For Name Call cons nil") => `(tactic| (k_here; (rename Fr _ _ _ _ => lF'); (with_unfolding_all refine' For_invVF lF' ?k1 ?k2 ?_; (case k1 => exact rfl); (case k2 => exact rfl); k_whole)))
local macro_rules | `(tactic| walk_at "exec For Tuple Name cons nil") => `(tactic| (k_here; (rename Fr _ _ _ _ => lF'); (with_unfolding_all refine' For_invTF lF' ?_ ?hs; (case hs => (intro _; rfl)); k_whole)))
local macro_rules | `(tactic| walk_at "compareOp NotEq ref ref") => `(tactic| refine unstop ?_)
local macro_rules | `(tactic| walk_at "compareOp Eq ref ref") => `(tactic| refine unstop ?_)
local macro_rules | `(tactic| walk_at "call builtin:list.append") => `(tactic| (k_here; k_dflt (refine' append_K ?k1 ?k2 ?k3 ?_ ?z; (case k1 => k_asm); (case k2 => k_asm); (case k3 => k_upd); (case z => (rw [List.size_toArray, sizeLine_eq]; omega))); intro h' F' N'))
section
variable {w : World} {mean : ExcName → Option Value} {mg mb : Str → Option Value} {A : Around} {base : Heap} {outer : List Env} {g : Heap} {env : Env} {L : Addr} {s : Shared} {m : Str → Option Value} {E : Value → Shared → Prop} {Q : Value → Shared → Prop}
theorem use_cx {α : Type} {t : Sem α} {Q : α → Shared → Prop} {E : Value → Shared → Prop} (hB : Below callerA base [] g) (X : (hd.heap_39 w.params).In g) (T : Top hd.view_39 (looseW hd.view_39 []) mean mg mb g) (hf : env.frame = some L) (hke : env.scope.kind = .function)
    (h : Cx w mean mg mb (callerA.deeper env) base [] g env L → wpAny (model PySem.Challenge.rw_pb0161_01.row.prog w) (callerA.deeper env) t Q (fun _ _ => False) s) : wpAny (model PySem.Challenge.rw_pb0161_01.row.prog w) (callerA.deeper env) t Q E s :=
  wpAny_noRaise (h ⟨⟨_, hB⟩, X, T, rfl, hf, hke, rfl⟩)
end
theorem news_draw {g h h' : Heap} {L pen cells : Addr} {op oc op' oc' : Obj} {rest : List (Addr × Obj)} (N : News g L h ((pen, op) :: (cells, oc) :: rest)) (N2 : News g L h' [(pen, op'), (cells, oc')]) (G : GSub h h' [pen, cells])
    (ha : ∀ p ∈ rest, p.1 ≠ pen ∧ p.1 ≠ cells) : News g L h' ((pen, op') :: (cells, oc') :: rest) := fun p hp => by
  rcases List.mem_cons.mp hp with rfl | hp
  · exact N2 _ (.head _)
  · rcases List.mem_cons.mp hp with rfl | hp
    · exact N2 _ (.tail _ (.head _))
    · have z := N p (.tail _ (.tail _ hp))
      exact ⟨G _ _ z.1 (by simp only [List.mem_cons, List.not_mem_nil, or_false, not_or]; exact ha p hp), z.2⟩
theorem news_two {g h : Heap} {L : Addr} {a b : Addr × Obj} {rest : List (Addr × Obj)} (N : News g L h (a :: b :: rest)) : News g L h [a, b] := fun p hp => N p (by
  rcases List.mem_cons.mp hp with rfl | hp
  · exact .head _
  · rw [List.mem_singleton.mp hp]; exact .tail _ (.head _))
theorem pen_apart {g h : Heap} {L pen cells a : Addr} {op oc o : Obj} {v : Option Value} (N : News g L h [(pen, op), (cells, oc)]) (ho : h.get? a = some o) (hd : o.data = .cell v) (P : PenObjs cells op oc) : (@Ne Nat pen a) ∧ (@Ne Nat cells a) := by
  obtain ⟨p, c, t1, t2, n1, xs, ns, n2, rfl, rfl, _, _⟩ := P
  have z1 := (N _ (.head _)).1
  have z2 := (N _ (.tail _ (.head _))).1
  refine ⟨fun e => ?_, fun e => ?_⟩
  · have e' : pen = a := e
    dsimp only at z1
    rw [e', ho] at z1
    have := congrArg Obj.data (Option.some.inj z1)
    rw [hd] at this; cases this
  · have e' : cells = a := e
    dsimp only at z2
    rw [e', ho] at z2
    have := congrArg Obj.data (Option.some.inj z2)
    rw [hd] at this; cases this
theorem news_two_mem {a b : Addr × Obj} {rest : List (Addr × Obj)} {p : Addr × Obj} (h : p ∈ [a, b]) : p ∈ a :: b :: rest := by
  rcases List.mem_cons.mp h with rfl | h
  · exact .head _
  · rw [List.mem_singleton.mp h]; exact .tail _ (.head _)
theorem news_head {g h : Heap} {L a : Addr} {o : Obj} {rest : List (Addr × Obj)} (N : News g L h ((a, o) :: rest)) : ∃ o', o' = o ∧ News g L h ((a, o') :: rest) := ⟨o, rfl, N⟩
theorem news_cons {g h : Heap} {L : Addr} {a : Addr × Obj} {rest : List (Addr × Obj)} (N1 : News g L h [a]) (N2 : News g L h rest) : News g L h (a :: rest) := fun p hp => by
  rcases List.mem_cons.mp hp with rfl | hp
  · exact N1 _ (.head _)
  · exact N2 _ hp
theorem fr_var0 {g h : Heap} {L : Addr} {z : Str} {vz : Value} {stored : List Str} {u m : Str → Option Value} (F : Fr g L h (fun y => if stored.contains y then u y else m y)) (hz : u z = some vz) (hc : stored.contains z = true) :
    Fr g L h (fun y => if y = z then some vz else if stored.contains y then u y else m y) := by
  refine fr_eq F fun y => ?_
  by_cases h2 : y = z
  · subst h2; rw [if_pos hc, if_pos rfl, hz]
  · rw [if_neg h2]
theorem draw_led {g h h' : Heap} {L pen cells : Addr} {op' oc' : Obj} {news news' : List (Addr × Obj)} (N : News g L h news) (N2 : News g L h' [(pen, op'), (cells, oc')]) (G : GSub h h' [pen, cells])
    (hs : ∀ p ∈ news', p = (pen, op') ∨ p = (cells, oc') ∨ (p ∈ news ∧ p.1 ≠ pen ∧ p.1 ≠ cells)) : News g L h' news' := fun p hp => by
  rcases hs p hp with rfl | rfl | ⟨hm, h1, h2⟩
  · exact N2 _ (.head _)
  · exact N2 _ (.tail _ (.head _))
  · have z := N p hm
    exact ⟨G _ _ z.1 (by simp only [List.mem_cons, List.not_mem_nil, or_false, not_or]; exact ⟨h1, h2⟩), z.2⟩
/-- the end of a statement that others follow -/
def Mid (s : Shared) (g : Heap) (L : Addr) (m : Str → Option Value) (stored : List Str) (P : (Str → Option Value) → Heap → Prop) (f : Flow) (s' : Shared) : Prop :=
  f = .next ∧ ∃ h' tk' u, s' = { s with heap := h', toks := tk' } ∧ Fr g L h' u ∧ (∀ y, stored.contains y = false → u y = m y) ∧ P u h'
theorem seq_mid {prog : Program} {w : World} {A : Around} {E : Value → Shared → Prop} {Q : Flow → Shared → Prop} {s : Shared} {g : Heap} {L : Addr} {m : Str → Option Value} {env : Env} {st : Stmt} {rest : List Stmt} (stored : List Str) (_F : Fr g L s.heap m) (P : (Str → Option Value) → Heap → Prop)
    (h1 : wpAny (model prog w) A (exec st env) (Mid s g L m stored P) E s)
    (h2 : ∀ h' tk' (u : Str → Option Value), Fr g L h' (fun y => if stored.contains y then u y else m y) → P u h' → wpAny (model prog w) A (execs rest env) Q E { s with heap := h', toks := tk' }) :
    wpAny (model prog w) A (execs (st :: rest) env) Q E s := by
  refine wpAny_execs_cons (wpAny_mono h1 (fun f s' q => ?_) fun _ _ q => q)
  obtain ⟨rfl, h', tk', u, rfl, F', hm, p⟩ := q
  refine h2 h' tk' u (fr_eq F' fun y => ?_) p
  cases h : stored.contains y with
  | true => simp
  | false => simp only [Bool.false_eq_true, if_false]; exact hm y h
set_option maxRecDepth 100000 in
set_option maxHeartbeats 8000000 in
theorem law_walk : PySem.Challenge.rw_pb0161_01.Holds := hd (by
  k_go0
  rename Fr _ _ _ _ => F0
  rename News _ _ _ _ => N0
  rename Below _ _ _ _ => B0
  rename Top _ _ _ _ _ _ => T0
  rename Frag.In _ _ => X0
  rename IntsAre _ _ => hI
  rename Heap.IsList _ _ _ => hL
  rename ¬ _ => hcond
  rename CellsAre _ _ _ => hcells
  clear hcells
  rename_i h1 tk1 oH oU hdH hdU
  rename Shared => s1
  rename List Int => ns
  rename List Value => vs
  refine use_cx B0 X0 T0 rfl rfl (fun C0 => ?_)
  k_unmd
  k_fold
  k_steps
  refine Stop.mk (pen_call C0 F0 hL hI (by omega) (Nat.le_of_ble_eq_true rfl) (Nat.le_of_ble_eq_true rfl) ?_)
  intro pen cells h2 tk2 op oc P N2 F2 G2
  have G2' := gsub_nil G2
  have N3 : News s1.heap s1.heap.objs.size h2 [(pen, op), (cells, oc), (s1.heap.objs.size + 1 + 1, oH), (s1.heap.objs.size + 1, oU)] := fun p hp => by
    rcases List.mem_cons.mp hp with rfl | hp
    · exact N2 _ (.head _)
    · rcases List.mem_cons.mp hp with rfl | hp
      · exact N2 _ (.tail _ (.head _))
      · exact N0.grown G2' p hp
  have hpc := pen_ne N2 P
  have hap1 := pen_apart N2 (N3 _ (.tail _ (.tail _ (.head _)))).1 hdH P
  have hap2 := pen_apart N2 (N3 _ (.tail _ (.tail _ (.tail _ (.head _))))).1 hdU P
  clear N0 F0 N2 G2
  k_unmd
  k_steps
  (rename Fr _ _ _ _ => F1); (rename News _ _ _ _ => N1)
  rename_i hA5 tkA clA hA4 hl1 DA hA3 hl2 hA2 hA1 hA0
  try clear N3
  try clear F2
  dsimp only at hap1 hap2
  have hh0 := C0.hh
  have hHU : @Ne Nat (s1.heap.objs.size + 1 + 1) (s1.heap.objs.size + 1) := Nat.succ_ne_self _
  refine Stop.mk (draw_call C0 F1 (fun p hp => N1 p (.tail _ (.tail _ (news_two_mem hp)))) P (Nat.le_of_ble_eq_true rfl) (Nat.le_of_ble_eq_true rfl) (by decide) (by decide) ?_)
  intro d td h3 tk3 op3 oc3 hd0 hd1 P3 N3 F3 G3
  have N4 : News s1.heap s1.heap.objs.size h3 ((pen, op3) :: (cells, oc3) :: [(clA, W.listOf #[] 0), ((s1.heap.objs.size + 1 + 1), oH), ((s1.heap.objs.size + 1), oU)]) :=
    news_draw (op := op) (oc := oc) (fun p hp => N1 p (by
      simp only [List.mem_cons, List.not_mem_nil, or_false] at hp ⊢
      rcases hp with h | h | h | h | h <;> simp [h])) N3 G3 (by
      intro p hp
      simp only [List.mem_cons, List.not_mem_nil, or_false] at hp
      rcases hp with rfl | rfl | rfl
      · exact ⟨Nat.ne_of_gt hl1.1, Nat.ne_of_gt hl1.2.1⟩
      · exact ⟨Ne.symm hap1.1, Ne.symm hap1.2⟩
      · exact ⟨Ne.symm hap2.1, Ne.symm hap2.2⟩)
  clear F1 N1 N3 G3
  k_unmd
  k_steps
  rename IsRange _ _ _ _ _ _ _ _ => hr
  (rename Fr _ _ _ _ => F5); (rename News _ _ _ _ => N5)
  refine Stop.mk (loop_rangeM ["here"] hh0 F5 (news := [(clA, W.listOf #[] 0), (pen, op3), (cells, oc3), ((s1.heap.objs.size + 1 + 1), oH), ((s1.heap.objs.size + 1), oU)]) (fun p hp => N5 p (by
      simp only [List.mem_cons, List.not_mem_nil, or_false] at hp ⊢
      rcases hp with h | h | h | h | h <;> simp [h])) hr (small_one (by decide) (by decide) (by omega) (by omega)) (by rw [rangeSize_nat])
    (fun i u news => ∃ (op oc : Obj) (ys : List Value) (cs : List Int) (k : Nat) (hv : Int) (th : Tok), PenObjs cells op oc ∧ u (Str.ofString "here") = some (.int hv th) ∧ IntsAre ys cs ∧ cs.length = i ∧ cs.Pairwise (· ≤ ·) ∧ (∀ c ∈ cs, c ≤ hv) ∧
      news = [(clA, W.listOf ys.toArray k), (pen, op), (cells, oc), ((s1.heap.objs.size + 1 + 1), oH), ((s1.heap.objs.size + 1), oU)])
    ⟨op3, oc3, [], [], 0, 0, _, P3, rfl, .nil, rfl, .nil, by simp, rfl⟩ ?_ ?_)
  · rintro i t u news₁ h6 tk6 own hi6 ⟨op6, oc6, ys, cs, k6, hv, th, P6, hu6, hys, hcl, hpw, hle, rfl⟩ hoff hown F N
    have hownO : OwnOff own [clA, pen, cells, (s1.heap.objs.size + 1 + 1), (s1.heap.objs.size + 1)] := by
      intro p hp b hb e
      rw [hown p hp] at e
      simp only [List.mem_cons, List.not_mem_nil, or_false] at hb
      rcases hb with rfl | rfl | rfl | rfl | rfl
      · exact hoff _ (.head _) e.symm
      · exact hoff _ (.tail _ (.head _)) e.symm
      · exact hoff _ (.tail _ (.tail _ (.head _))) e.symm
      · exact hoff _ (.tail _ (.tail _ (.tail _ (.head _)))) e.symm
      · exact hoff _ (.tail _ (.tail _ (.tail _ (.tail _ (.head _))))) e.symm
    have NN : News s1.heap s1.heap.objs.size h6 ((clA, W.listOf ys.toArray k6) :: (pen, op6) :: (cells, oc6) :: ((s1.heap.objs.size + 1 + 1), oH) :: ((s1.heap.objs.size + 1), oU) :: own) := fun p hp => N p (by
      simp only [List.mem_cons, List.mem_append, List.not_mem_nil, or_false] at hp ⊢
      rcases hp with h | h | h | h | h | h <;> simp [h])
    have FF := fr_var F hu6 (by decide)
    have hyl := hys.length
    clear F N F5 N5 hr
    try clear F3
    try clear N4
    k_unmd
    k_fold
    k_steps
    (rename Fr _ _ _ _ => F7); (rename News _ _ _ _ => N7)
    rename_i hX1 sm hX2 ls
    refine Stop.mk (pick_call C0 F7 (fun p hp => N7 p (.tail _ (.tail _ (news_two_mem hp)))) P6 ⟨_, (N7 _ (.head _)).1, rfl, _, rfl⟩ (.cons _ _ (.cons _ _ (.cons _ _ (.cons _ _ .nil)))) (Nat.ne_of_gt ls.2.1) (Nat.ne_of_gt ls.2.2.1) (Nat.le_of_ble_eq_true rfl) (Nat.le_of_ble_eq_true rfl) ?_)
    intro dp tp h8 tk8 op8 oc8 q0 q1 P8 N8 F8 G8
    have N9 : News s1.heap s1.heap.objs.size h8 ((clA, W.listOf (ys ++ [Value.int hv th]).toArray (k6 + 1)) :: (pen, op8) :: (cells, oc8) :: ((s1.heap.objs.size + 1 + 1), oH) :: ((s1.heap.objs.size + 1), oU) :: own) := by
      have z := news_draw (op := op6) (oc := oc6) (rest := (clA, W.listOf (ys.toArray.push (Value.int hv th)) (k6 + 1)) :: ((s1.heap.objs.size + 1 + 1), oH) :: ((s1.heap.objs.size + 1), oU) :: own) (fun p hp => N7 p (by
        simp only [List.mem_cons] at hp ⊢
        rcases hp with h | h | h | h | h | h <;> simp [h])) N8 G8 (by
        intro p hp
        simp only [List.mem_cons] at hp
        rcases hp with rfl | rfl | rfl | hp
        · exact ⟨Nat.ne_of_gt hl1.1, Nat.ne_of_gt hl1.2.1⟩
        · exact ⟨Ne.symm hap1.1, Ne.symm hap1.2⟩
        · exact ⟨Ne.symm hap2.1, Ne.symm hap2.2⟩
        · exact ⟨hownO p hp pen (by simp), hownO p hp cells (by simp)⟩)
      rw [List.push_toArray] at z
      intro p hp
      refine z p ?_
      simp only [List.mem_cons] at hp ⊢
      rcases hp with h | h | h | h | h | h <;> simp [h]
    clear F7 N7 N8 G8
    k_unmd
    k_steps
    (rename Fr _ _ _ _ => FE); (rename News _ _ _ _ => NE)
    refine ⟨_, _, _, [(clA, W.listOf (ys ++ [Value.int hv th]).toArray (k6 + 1)), (pen, op8), (cells, oc8), ((s1.heap.objs.size + 1 + 1), oH), ((s1.heap.objs.size + 1), oU)], rfl, FE, fun p hp => NE p ?_, fun p hp => ?_, fun y hy1 hy2 => ?_, op8, oc8, ys ++ [Value.int hv th], cs ++ [hv], k6 + 1, hv + dp, _, P8, rfl, hys.append (.cons _ _ .nil), ?_, ?_, ?_, rfl⟩
    · simp only [List.mem_cons, List.mem_append, List.not_mem_nil, or_false] at hp ⊢
      rcases hp with h | h | h | h | h | h <;> simp [h]
    · simp only [List.mem_cons, List.not_mem_nil, or_false] at hp
      rcases hp with rfl | rfl | rfl | rfl | rfl
      · exact hoff (clA, W.listOf ys.toArray k6) (.head _)
      · exact hoff (pen, op6) (.tail _ (.head _))
      · exact hoff (cells, oc6) (.tail _ (.tail _ (.head _)))
      · exact hoff ((s1.heap.objs.size + 1 + 1), oH) (.tail _ (.tail _ (.tail _ (.head _))))
      · exact hoff ((s1.heap.objs.size + 1), oU) (.tail _ (.tail _ (.tail _ (.tail _ (.head _)))))
    · have q1 : y ≠ Str.ofString "here" := by rintro rfl; exact absurd hy2 (by decide)
      simp [hy1, q1]
    · rw [List.length_append, hcl]; rfl
    · rw [List.pairwise_append]
      exact ⟨hpw, List.pairwise_singleton _ _, fun a ha b hb => by rw [List.mem_singleton.mp hb]; exact hle a ha⟩
    · intro c hc
      rcases List.mem_append.mp hc with hc | hc
      · have := hle c hc; omega
      · rw [List.mem_singleton.mp hc]; omega
  · rintro h6 tk6 u news₁ F N ⟨op6, oc6, ys, cs, k6, hv, th, P6, hu6, hys, hcl, hpw, hle, rfl⟩
    have hn1 : 1 ≤ cs.length := by omega
    have hn2 : cs.length ≤ 10 := by omega
    clear hcl hle F5 N5 hr
    try clear F3
    try clear N4
    dsimp only
    refine seq_mid ["clusters"] F (fun u' h' => ∃ (clB : Addr) (ys cs' : _) (k : Nat) (op oc : Obj), u' (Str.ofString "clusters") = some (.ref clB) ∧ PenObjs cells op oc ∧ IntsAre ys cs' ∧ cs'.length = cs.length ∧ (cs'.Pairwise (· ≤ ·) ∨ cs'.Pairwise (· ≥ ·)) ∧
      (@Ne Nat clB pen) ∧ (@Ne Nat clB cells) ∧ (@Ne Nat clB (s1.heap.objs.size + 1 + 1)) ∧ (@Ne Nat clB (s1.heap.objs.size + 1)) ∧ News s1.heap s1.heap.objs.size h' [(clB, W.listOf ys.toArray k), (pen, op), (cells, oc), ((s1.heap.objs.size + 1 + 1), oH), ((s1.heap.objs.size + 1), oU)]) ?_ ?_
    · k_unmd
      k_fold
      k_steps
      refine Stop.mk (draw_call C0 F (fun p hp => N p (.tail _ (news_two_mem hp))) P6 (Nat.le_of_ble_eq_true rfl) (Nat.le_of_ble_eq_true rfl) (by decide) (by decide) ?_)
      intro d8 td8 h8 tk8 op8 oc8 q0 q1 P8 N8 F8 G8
      have N9 : News s1.heap s1.heap.objs.size h8 [(clA, W.listOf ys.toArray k6), (pen, op8), (cells, oc8), ((s1.heap.objs.size + 1 + 1), oH), ((s1.heap.objs.size + 1), oU)] := by
        have z := news_draw (op := op6) (oc := oc6) (rest := [(clA, W.listOf ys.toArray k6), ((s1.heap.objs.size + 1 + 1), oH), ((s1.heap.objs.size + 1), oU)]) (fun p hp => N p (by
          simp only [List.mem_cons, List.not_mem_nil, or_false] at hp ⊢
          rcases hp with h | h | h | h | h <;> simp [h])) N8 G8 (by
          intro p hp
          simp only [List.mem_cons, List.not_mem_nil, or_false] at hp
          rcases hp with rfl | rfl | rfl
          · exact ⟨Nat.ne_of_gt hl1.1, Nat.ne_of_gt hl1.2.1⟩
          · exact ⟨Ne.symm hap1.1, Ne.symm hap1.2⟩
          · exact ⟨Ne.symm hap2.1, Ne.symm hap2.2⟩)
        intro p hp
        refine z p ?_
        simp only [List.mem_cons, List.not_mem_nil, or_false] at hp ⊢
        rcases hp with h | h | h | h | h <;> simp [h]
      clear F N N8 G8
      k_unmd
      k_steps
      · (rename Fr _ _ _ _ => FE); (rename News _ _ _ _ => NE)
        rename IntsAre _ cs.reverse => hys2
        rename_i ws2 _ _ ls _
        refine ⟨rfl, _, _, _, rfl, FE, fun y hy => ?_, _, _, cs.reverse, 0, op8, oc8, rfl, P8, hys2, List.length_reverse .., ?_, Nat.ne_of_gt ls.2.1, Nat.ne_of_gt ls.2.2.1, Nat.ne_of_gt ls.2.2.2.1, Nat.ne_of_gt ls.2.2.2.2, fun p hp => NE p ?_⟩
        · have q1 : y ≠ Str.ofString "clusters" := by rintro rfl; exact absurd hy (by decide)
          simp [q1]
        · exact .inr (by rw [List.pairwise_reverse]; exact hpw.imp fun h => h)
        · simp only [List.mem_cons, List.not_mem_nil, or_false] at hp ⊢
          rcases hp with h | h | h | h | h <;> simp [h]
      · (rename Fr _ _ _ _ => FE); (rename News _ _ _ _ => NE)
        exact ⟨rfl, _, _, _, rfl, FE, fun y hy => rfl, clA, ys, cs, k6, op8, oc8, rfl, P8, hys, rfl, .inl hpw, Nat.ne_of_gt hl1.1, Nat.ne_of_gt hl1.2.1, Nat.ne_of_gt hl1.2.2.1, Nat.ne_of_gt hl1.2.2.2, NE⟩
    · rintro h7 tk7 u7 F7 ⟨clB, ys7, cs7, k7, op7, oc7, hu7, P7, hys7, hl7, hpw7, nb1, nb2, nb3, nb4, N7⟩
      have FF7 := fr_var0 F7 hu7 (by decide)
      clear F N F7 hys hpw
      have hn71 : 1 ≤ cs7.length := by omega
      have hn72 : cs7.length ≤ 10 := by omega
      clear hl7 hn1 hn2
      have hyl7 := hys7.length
      k_unmd
      k_steps
      (rename Fr _ _ _ _ => F8); (rename News _ _ _ _ => N8)
      rename_i prA hq1 Fq Nq lp hq2
      clear Fq Nq
      refine Stop.mk (draw_call C0 F8 (fun p hp => N8 p (.tail _ (.tail _ (news_two_mem hp)))) P7 (Nat.le_of_ble_eq_true rfl) (Nat.le_of_ble_eq_true rfl) (by decide) (by decide) ?_)
      intro dB tdB hB tkB opB ocB qB0 qB1 PB NB2 FB GB
      have NB := draw_led (news' := [(prA, W.listOf #[] 0), (clB, W.listOf ys7.toArray k7), (pen, opB), (cells, ocB), ((s1.heap.objs.size + 1 + 1), oH), ((s1.heap.objs.size + 1), oU)]) N8 NB2 GB (by
        intro p hp
        simp only [List.mem_cons, List.not_mem_nil, or_false] at hp
        rcases hp with rfl | rfl | rfl | rfl | rfl | rfl
        · exact .inr (.inr ⟨.head _, Nat.ne_of_gt lp.2.1, Nat.ne_of_gt lp.2.2.1⟩)
        · exact .inr (.inr ⟨.tail _ (.head _), nb1, nb2⟩)
        · exact .inl rfl
        · exact .inr (.inl rfl)
        · exact .inr (.inr ⟨.tail _ (.tail _ (.tail _ (.tail _ (.head _)))), Ne.symm hap1.1, Ne.symm hap1.2⟩)
        · exact .inr (.inr ⟨.tail _ (.tail _ (.tail _ (.tail _ (.tail _ (.head _))))), Ne.symm hap2.1, Ne.symm hap2.2⟩))
      clear F8 N8 NB2 GB
      try clear N7
      try clear FF7
      have hqB : Stop (0 ≤ dB ∧ dB < 7) := ⟨qB0, qB1⟩
      clear qB0 qB1
      k_unmd
      k_steps
      obtain ⟨qB0, qB1⟩ : 0 ≤ dB ∧ dB < 7 := hqB
      rename IsRange _ _ _ _ _ _ _ _ => hr
      (rename Fr _ _ _ _ => FC); (rename News _ _ _ _ => NC)
      refine Stop.mk (loop_rangeO ["begun"] hh0 FC (news := [(prA, W.listOf #[] 0), (clB, W.listOf ys7.toArray k7), (pen, opB), (cells, ocB), ((s1.heap.objs.size + 1 + 1), oH), ((s1.heap.objs.size + 1), oU)]) NC hr (small_one (by decide) (by decide) (by omega) (by omega)) (by rw [rangeSize_nat])
        (fun i _ news => ∃ (op oc : Obj) (its : List Value) (k : Nat) (tl : List (Addr × Obj)) (parts : List (Nat × Nat)), PenObjs cells op oc ∧ parts.length = i ∧ (∀ p ∈ parts, p.1 + p.2 ≤ cs7.length) ∧ TupsAt tl its parts ∧ OwnOff tl [prA, clB, pen, cells, (s1.heap.objs.size + 1 + 1), (s1.heap.objs.size + 1)] ∧
          news = (prA, W.listOf its.toArray k) :: (clB, W.listOf ys7.toArray k7) :: (pen, op) :: (cells, oc) :: ((s1.heap.objs.size + 1 + 1), oH) :: ((s1.heap.objs.size + 1), oU) :: tl)
        ⟨opB, ocB, [], 0, [], [], PB, rfl, by simp, ⟨rfl, by simp⟩, (fun p hp => nomatch hp), rfl⟩ ?_ ?_)
      · rintro i t u news₁ h9 tk9 own hi9 ⟨op9, oc9, its, k9, tl, parts, P9, hpl, hpb, hT, hTo, rfl⟩ hoff hown hownI F N
        have hownO : OwnOff (tl ++ own) [prA, clB, pen, cells, (s1.heap.objs.size + 1 + 1), (s1.heap.objs.size + 1)] := by
          intro p hp b hb e
          rcases List.mem_append.mp hp with hp | hp
          · exact hTo p hp b hb e
          · rw [hown p hp] at e
            simp only [List.mem_cons, List.not_mem_nil, or_false] at hb
            rcases hb with rfl | rfl | rfl | rfl | rfl | rfl
            · exact hoff _ (.head _) e.symm
            · exact hoff _ (.tail _ (.head _)) e.symm
            · exact hoff _ (.tail _ (.tail _ (.head _))) e.symm
            · exact hoff _ (.tail _ (.tail _ (.tail _ (.head _)))) e.symm
            · exact hoff _ (.tail _ (.tail _ (.tail _ (.tail _ (.head _))))) e.symm
            · exact hoff _ (.tail _ (.tail _ (.tail _ (.tail _ (.tail _ (.head _)))))) e.symm
        generalize hto : tl ++ own = to at hownO
        have NN : News s1.heap s1.heap.objs.size h9 ((prA, W.listOf its.toArray k9) :: (clB, W.listOf ys7.toArray k7) :: (pen, op9) :: (cells, oc9) :: ((s1.heap.objs.size + 1 + 1), oH) :: ((s1.heap.objs.size + 1), oU) :: to) := fun p hp => N p (by
          rw [← hto] at hp
          simp only [List.mem_cons, List.mem_append] at hp ⊢
          rcases hp with h | h | h | h | h | h | h | h <;> simp [h])
        have hitl : its.length ≤ 10 := by rw [hT.1, hpl]; omega
        clear FC NC hr N
        k_unmd
        k_fold
        k_steps
        have lpn : ∀ {x : Int}, x < (cs7.length : Int) → x < 10 := fun h => by omega
        refine Stop.mk (draw_call C0 F (fun p hp => NN p (.tail _ (.tail _ (news_two_mem hp)))) P9 (Nat.le_of_ble_eq_true rfl) (Nat.le_of_ble_eq_true rfl) (by omega) (by omega) ?_)
        intro dX tdX hX tkX opX ocX qX0 qX1 PX NX2 FX GX
        have NX := draw_led (news' := (prA, W.listOf its.toArray k9) :: (clB, W.listOf ys7.toArray k7) :: (pen, opX) :: (cells, ocX) :: ((s1.heap.objs.size + 1 + 1), oH) :: ((s1.heap.objs.size + 1), oU) :: to) NN NX2 GX (by
          intro p hp
          simp only [List.mem_cons] at hp
          rcases hp with rfl | rfl | rfl | rfl | rfl | rfl | hp
          · exact .inr (.inr ⟨.head _, Nat.ne_of_gt lp.2.1, Nat.ne_of_gt lp.2.2.1⟩)
          · exact .inr (.inr ⟨.tail _ (.head _), nb1, nb2⟩)
          · exact .inl rfl
          · exact .inr (.inl rfl)
          · exact .inr (.inr ⟨.tail _ (.tail _ (.tail _ (.tail _ (.head _)))), Ne.symm hap1.1, Ne.symm hap1.2⟩)
          · exact .inr (.inr ⟨.tail _ (.tail _ (.tail _ (.tail _ (.tail _ (.head _))))), Ne.symm hap2.1, Ne.symm hap2.2⟩)
          · exact .inr (.inr ⟨.tail _ (.tail _ (.tail _ (.tail _ (.tail _ (.tail _ hp))))), hownO p hp pen (by simp), hownO p hp cells (by simp)⟩))
        obtain ⟨bg, rfl⟩ := Int.eq_ofNat_of_zero_le qX0
        have hbg : bg < cs7.length := by omega
        clear F NN NX2 GX qX0 qX1
        k_unmd
        k_steps
        (rename Fr _ _ _ _ => FY0); (rename News _ _ _ _ => NY0)
        refine Stop.mk (draw_call C0 FY0 (fun p hp => NY0 p (.tail _ (.tail _ (news_two_mem hp)))) PX (Nat.le_of_ble_eq_true rfl) (Nat.le_of_ble_eq_true rfl) (by decide) (by decide) ?_)
        intro dY tdY hY tkY opY ocY qY0 qY1 PY NY2 FY GY
        have NY := draw_led (news' := (prA, W.listOf its.toArray k9) :: (clB, W.listOf ys7.toArray k7) :: (pen, opY) :: (cells, ocY) :: ((s1.heap.objs.size + 1 + 1), oH) :: ((s1.heap.objs.size + 1), oU) :: to) NY0 NY2 GY (by
          intro p hp
          simp only [List.mem_cons] at hp
          rcases hp with rfl | rfl | rfl | rfl | rfl | rfl | hp
          · exact .inr (.inr ⟨.head _, Nat.ne_of_gt lp.2.1, Nat.ne_of_gt lp.2.2.1⟩)
          · exact .inr (.inr ⟨.tail _ (.head _), nb1, nb2⟩)
          · exact .inl rfl
          · exact .inr (.inl rfl)
          · exact .inr (.inr ⟨.tail _ (.tail _ (.tail _ (.tail _ (.head _)))), Ne.symm hap1.1, Ne.symm hap1.2⟩)
          · exact .inr (.inr ⟨.tail _ (.tail _ (.tail _ (.tail _ (.tail _ (.head _))))), Ne.symm hap2.1, Ne.symm hap2.2⟩)
          · exact .inr (.inr ⟨.tail _ (.tail _ (.tail _ (.tail _ (.tail _ (.tail _ hp))))), hownO p hp pen (by simp), hownO p hp cells (by simp)⟩))
        clear FY0 NY0 NY2 GY
        have hqY : Stop (0 ≤ dY ∧ dY < 5) := ⟨qY0, qY1⟩
        clear qY0 qY1
        k_unmd
        k_steps
        obtain ⟨qY0, qY1⟩ : 0 ≤ dY ∧ dY < 5 := hqY
        refine Stop.mk (min_two_N hh0 FY NY ?_)
        intro hZ tkZ FZ NZ
        obtain ⟨mn, hmn, hmnb⟩ : ∃ mn : Nat, (if (cs7.length : Int) - (bg : Int) < dY then (cs7.length : Int) - (bg : Int) else dY) = (mn : Int) ∧ bg + mn ≤ cs7.length := by
          split
          · exact ⟨cs7.length - bg, by omega, by omega⟩
          · exact ⟨dY.toNat, by omega, by omega⟩
        rw [hmn]
        clear FY NY hmn
        k_unmd
        k_steps
        (rename Fr _ _ _ _ => FE); (rename News _ _ _ _ => NE)
        rename_i tnew _ _ _ lt _
        obtain ⟨tO, htO, NE⟩ := news_head NE
        have ltall := lt.2.2.2.2.2.2
        have hallt : ∀ p ∈ to, p.1 < tnew := kst_ltOf ltall
        refine ⟨_, _, _, (prA, W.listOf (its ++ [Value.ref tnew]).toArray (k9 + 1)) :: (clB, W.listOf ys7.toArray k7) :: (pen, opY) :: (cells, ocY) :: ((s1.heap.objs.size + 1 + 1), oH) :: ((s1.heap.objs.size + 1), oU) :: (tnew, tO) :: tl, rfl, FE, fun p hp => NE p ?_, fun p hp => ?_, fun y hy1 hy2 => ?_,
          opY, ocY, its ++ [Value.ref tnew], k9 + 1, (tnew, tO) :: tl, parts ++ [(bg, mn)], PY, by rw [List.length_append, hpl]; rfl, ?_, hT.more (tb := tdX) (fun p hp => .tail _ hp) (by rw [htO]; exact .head _), ?_, rfl⟩
        · simp only [← hto, List.mem_cons, List.mem_append] at hp ⊢
          rw [List.push_toArray]
          rcases hp with h | h | h | h | h | h | h | h | h <;> simp [h]
        · simp only [List.mem_cons] at hp
          rcases hp with rfl | rfl | rfl | rfl | rfl | rfl | rfl | hp
          · exact hoff (prA, W.listOf its.toArray k9) (.head _)
          · exact hoff _ (.tail _ (.head _))
          · exact hoff (pen, op9) (.tail _ (.tail _ (.head _)))
          · exact hoff (cells, oc9) (.tail _ (.tail _ (.tail _ (.head _))))
          · exact hoff ((s1.heap.objs.size + 1 + 1), oH) (.tail _ (.tail _ (.tail _ (.tail _ (.head _)))))
          · exact hoff ((s1.heap.objs.size + 1), oU) (.tail _ (.tail _ (.tail _ (.tail _ (.tail _ (.head _))))))
          · obtain ⟨oI, hoI⟩ := hownI
            have := hallt (_, oI) (by rw [← hto]; exact List.mem_append_right _ hoI)
            exact Nat.ne_of_gt this
          · exact hoff _ (.tail _ (.tail _ (.tail _ (.tail _ (.tail _ (.tail _ hp))))))
        · have q1 : y ≠ Str.ofString "begun" := by rintro rfl; exact absurd hy2 (by decide)
          simp [hy1, q1]
        · intro p hp
          rcases List.mem_append.mp hp with hp | hp
          · exact hpb p hp
          · rw [List.mem_singleton.mp hp]; exact hmnb
        · intro p hp b hb
          rcases List.mem_cons.mp hp with rfl | hp
          · simp only [List.mem_cons, List.not_mem_nil, or_false] at hb
            rcases hb with rfl | rfl | rfl | rfl | rfl | rfl
            · exact Nat.ne_of_gt lt.1
            · exact Nat.ne_of_gt lt.2.1
            · exact Nat.ne_of_gt lt.2.2.1
            · exact Nat.ne_of_gt lt.2.2.2.1
            · exact Nat.ne_of_gt lt.2.2.2.2.1
            · exact Nat.ne_of_gt lt.2.2.2.2.2.1
          · exact hTo p hp b hb
      · rintro h9 tk9 u news₁ F N ⟨op9, oc9, its, k9, tl, parts, P9, hpl, hpb, hT, hTo, rfl⟩
        have hitl : its.length ≤ 6 := by rw [hT.1, hpl]; omega
        clear FC NC hr
        k_unmd
        k_steps
        (rename Fr _ _ _ _ => FD); (rename News _ _ _ _ => ND)
        rename_i un0 _ _ _ lu _ oU1 hdU1
        have hb1 := lu.2.2.2.2.1
        have hb2 := lu.2.2.2.2.2.1
        refine Stop.mk (loop_listTO ["begun", "many"] hh0 FD ND ⟨_, (ND _ (.tail _ (.head _))).1, rfl, _, rfl⟩
          (fun i news => ∃ (unA : Addr) (oH' oU' : Obj) (uv : List Value) (us : List Int) (ku : Nat), oU'.data = .cell (some (.ref unA)) ∧ (∃ v, oH'.data = .cell v) ∧ IntsAre uv us ∧ us.length ≤ 10 * i ∧ (∀ x, x ∈ us ↔ MarkedBy cs7 (parts.take i) x) ∧ (@Ne Nat unA (s1.heap.objs.size + 1 + 1)) ∧ (@Ne Nat unA (s1.heap.objs.size + 1)) ∧
            news = (unA, W.listOf uv.toArray ku) :: (prA, W.listOf its.toArray k9) :: (clB, W.listOf ys7.toArray k7) :: (pen, op9) :: (cells, oc9) :: ((s1.heap.objs.size + 1 + 1), oH') :: ((s1.heap.objs.size + 1), oU') :: tl)
          ⟨un0, oH, oU1, [], [], 0, hdU1, ⟨_, hdH⟩, .nil, by simp, by simp [MarkedBy], Nat.ne_of_gt hb1, Nat.ne_of_gt hb2, rfl⟩ ?_ ?_)
        · rintro i v u' news₁ s₂ own hi5 hv ⟨unA, oH2, oU2, uv, us, ku, hdU2, ⟨vH, hdH2⟩, hus, hul, hmk, hu1, hu2, rfl⟩ hoff hown hownI hst FE NE
          rw [List.size_toArray] at hi5
          have hi6 : i < parts.length := by rw [← hT.1]; exact hi5
          obtain ⟨bg, mn, hp⟩ : ∃ bg mn, parts[i] = (bg, mn) := ⟨_, _, rfl⟩
          obtain ⟨t, tb, tm, e1, e2⟩ := hT.2 i bg mn (by rw [List.getElem?_eq_getElem hi6, hp])
          have hv2 : its[i]? = some v := by simpa using hv
          rw [e1] at hv2
          obtain rfl := Option.some.inj hv2
          have hpb1 : bg + mn ≤ cs7.length := hpb (bg, mn) (hp ▸ List.getElem_mem hi6)
          have hownO : OwnOff (tl ++ own) [(s1.heap.objs.size + 1 + 1), (s1.heap.objs.size + 1)] := by
            intro p hp b hb e
            rcases List.mem_append.mp hp with hp | hp
            · refine hTo p hp b ?_ e
              simp only [List.mem_cons, List.not_mem_nil, or_false] at hb ⊢
              rcases hb with h | h <;> simp [h]
            · simp only [List.mem_cons, List.not_mem_nil, or_false] at hb
              rcases hown p hp with q | q
              · rw [q] at e
                rcases hb with rfl | rfl
                · exact hoff ((s1.heap.objs.size + 1 + 1), oH2) (.tail _ (.tail _ (.tail _ (.tail _ (.tail _ (.head _)))))) e.symm
                · exact hoff ((s1.heap.objs.size + 1), oU2) (.tail _ (.tail _ (.tail _ (.tail _ (.tail _ (.tail _ (.head _))))))) e.symm
              · rw [q] at e
                rcases hb with rfl | rfl
                · exact absurd e (Nat.ne_of_gt lp.2.2.2.1)
                · exact absurd e (Nat.ne_of_gt lp.2.2.2.2)
          generalize hto : tl ++ own = to at hownO
          have NN : News s1.heap s1.heap.objs.size s₂.heap ((unA, W.listOf uv.toArray ku) :: (prA, W.listOf its.toArray k9) :: (clB, W.listOf ys7.toArray k7) :: (pen, op9) :: (cells, oc9) :: ((s1.heap.objs.size + 1 + 1), oH2) :: ((s1.heap.objs.size + 1), oU2) :: to) := fun p hp => NE p (by
            rw [← hto] at hp
            simp only [List.mem_cons, List.mem_append] at hp ⊢
            rcases hp with h | h | h | h | h | h | h | h | h <;> simp [h])
          have htup : IsTup s₂.heap t #[Value.int (bg : Int) tb, Value.int (mn : Int) tm] := ⟨_, (NE _ (List.mem_append_right _ (.tail _ (.tail _ (.tail _ (.tail _ (.tail _ (.tail _ (.tail _ e2))))))))).1, rfl, _, rfl⟩
          clear NE FD ND
          refine unpackN_ FE NN htup hh0 (by rfl) (by rfl) ?_
          intro h6 FF NF
          clear FE NN
          k_unmd
          k_fold
          k_steps
          (rename Fr _ _ _ _ => FG); (rename News _ _ _ _ => NG)
          rename_i _ _ he wsH _ hIH hCH hLH lh _ oH3 hdH3
          obtain ⟨hs, hhs⟩ : ∃ hs, hs = (cs7.drop bg).take mn := ⟨_, rfl⟩
          have ehs : List.take (min ((bg : Int) + (mn : Int)).toNat cs7.length - ((bg : Int)).toNat) (List.drop ((bg : Int)).toNat cs7) = hs := by
            rw [hhs, show ((bg : Int)).toNat = bg by omega, show min ((bg : Int) + (mn : Int)).toNat cs7.length - bg = mn by omega]
          rw [ehs] at hIH
          clear hCH hLH ehs
          have hsl : hs.length = mn := by rw [hhs, List.length_take, List.length_drop]; omega
          have hwl := hIH.length
          refine Stop.mk (LCt.CompSrcT.ledger hh0 FG NG (.head _) (by rw [sizeLine_eq, List.size_toArray]; omega) (fun g0 => compRestT_inv _ (fun i2 ys news => IntsAre ys ((hs.take i2).filter (fun x => hs.any (fun y => decide (y < x)))) ∧ news = _) ?_ ?_ _ 0 [] _ (Nat.zero_add _) ⟨.nil, rfl⟩))
          · rintro i2 ys2 news2 hi2 ⟨hys2, rfl⟩ v I oI C oC D' m₂ h tk E' hv hC hx FI NI off ne
            clear FG NG
            rw [List.size_toArray] at hi2
            obtain ⟨vx, tx, hvx, rfl⟩ := ints_pick hIH (show wsH[i2]? = some v by simpa using hv)
            have hvm : vx ∈ hs := List.mem_of_getElem? hvx
            k_unmd
            k_fold
            k_steps
            refine Stop.mk (kso_min FI NI ⟨_, (NI _ (.tail _ (.tail _ (.tail _ (.head _))))).1, rfl, _, rfl⟩ hIH (List.length_pos_of_mem hvm) hh0 ?_)
            intro h8 M tM tk8 F8 N8 hM1 hM2
            have hfx : hs.any (fun y => decide (y < vx)) = decide (¬ vx = M) := by
              rw [Bool.eq_iff_iff, List.any_eq_true, decide_eq_true_eq]
              constructor
              · rintro ⟨y, hy, hlt⟩ rfl
                have := hM2 y hy
                exact absurd (of_decide_eq_true hlt) (by omega)
              · intro hne
                have := hM2 vx hvm
                exact ⟨M, hM1, decide_eq_true (by omega)⟩
            have et : (hs.take (i2 + 1)).filter (fun x => hs.any (fun y => decide (y < x))) = (hs.take i2).filter (fun x => hs.any (fun y => decide (y < x))) ++ (if vx = M then [] else [vx]) := by
              rw [List.take_add_one, hvx, Option.toList_some, List.filter_append]
              congr 1
              rw [List.filter_cons, List.filter_nil, hfx]
              by_cases q : vx = M <;> simp [q]
            clear FI NI hM2
            k_unmd
            k_steps
            · rename ¬ vx = M => hne
              rw [if_neg hne] at et
              exact Stop.mk (LCg.CompEnd.intro F8 N8 _ (fun p hp => hp) off (Or.inr ⟨_, .head _, rfl, _, rfl⟩) ⟨et ▸ hys2.append (.cons _ _ .nil), rfl⟩)
            · rename vx = M => heq
              rw [if_pos heq, List.append_nil] at et
              exact Stop.mk (LCg.CompEnd.intro F8 N8 _ (fun p hp => hp) off (Or.inr ⟨_, .head _, rfl, _, rfl⟩) ⟨et ▸ hys2, rfl⟩)
          · rintro ys2 news2 ⟨hys2, rfl⟩ D2 h7 tk7 FI NI o1
            clear FG NG
            rw [List.size_toArray, List.take_of_length_le (by omega)] at hys2
            have hfl : (hs.filter (fun x => hs.any (fun y => decide (y < x)))).length ≤ 10 := Nat.le_trans (List.length_filter_le _ _) (by omega)
            k_unmd
            refine kmk_add_ints FI NI ⟨_, (NI _ (.tail _ (.tail _ (.head _)))).1, rfl, _, rfl⟩ ⟨_, (NI _ (.head _)).1, rfl, _, rfl⟩ hus hys2 ?_ (by rw [sizeLine_eq]; omega)
            intro D3 us3 h8 FJ NJ l3 hus3
            have hl3 : (s1.heap.objs.size + 1 + 1) < D3 := l3 ((s1.heap.objs.size + 1 + 1), oH3) (.tail _ (.tail _ (.tail _ (.tail _ (.tail _ (.tail _ (.tail _ (.head _))))))))
            have hl4 : (s1.heap.objs.size + 1) < D3 := l3 ((s1.heap.objs.size + 1), oU2) (.tail _ (.tail _ (.tail _ (.tail _ (.tail _ (.tail _ (.tail _ (.tail _ (.head _)))))))))
            have hD2 : @Ne Nat D2 (s1.heap.objs.size + 1) := Ne.symm o1.2.2.2.2.2.2.2.1
            have hhe : (s1.heap.objs.size + 1) < he := lh.2.2.2.2.2.2.1
            clear FI NI
            k_unmd
            k_steps
            (rename Fr _ _ _ _ => FK); (rename News _ _ _ _ => NK)
            rename_i oU4 hdU4
            obtain ⟨oI, hoI⟩ := hownI
            have hD3I := l3 (_, oI) (.tail _ (.tail _ (.tail _ (.tail _ (.tail _ (.tail _ (.tail _ (.tail _ (.tail _ (by rw [← hto]; exact List.mem_append_right _ hoI))))))))))
            refine ⟨rfl, _, _, _, (D3, W.listOf us3.toArray 0) :: (prA, W.listOf its.toArray k9) :: (clB, W.listOf ys7.toArray k7) :: (pen, op9) :: (cells, oc9) :: ((s1.heap.objs.size + 1 + 1), oH3) :: ((s1.heap.objs.size + 1), oU4) :: tl, rfl, FK, fun p hp => NK p ?_, fun p hp => ?_, fun y hy => ?_,
              D3, oH3, oU4, us3, _, 0, hdU4, ⟨_, hdH3⟩, hus3, ?_, ?_, Nat.ne_of_gt hl3, Nat.ne_of_gt hl4, rfl⟩
            · simp only [← hto, List.mem_cons, List.mem_append] at hp ⊢
              rcases hp with h | h | h | h | h | h | h | h | h <;> simp [h]
            · simp only [List.mem_cons] at hp
              rcases hp with rfl | rfl | rfl | rfl | rfl | rfl | rfl | hp
              · exact Nat.ne_of_gt hD3I
              · exact hoff (prA, W.listOf its.toArray k9) (.tail _ (.head _))
              · exact hoff (clB, W.listOf ys7.toArray k7) (.tail _ (.tail _ (.head _)))
              · exact hoff (pen, op9) (.tail _ (.tail _ (.tail _ (.head _))))
              · exact hoff (cells, oc9) (.tail _ (.tail _ (.tail _ (.tail _ (.head _)))))
              · exact hoff ((s1.heap.objs.size + 1 + 1), oH2) (.tail _ (.tail _ (.tail _ (.tail _ (.tail _ (.head _))))))
              · exact hoff ((s1.heap.objs.size + 1), oU2) (.tail _ (.tail _ (.tail _ (.tail _ (.tail _ (.tail _ (.head _)))))))
              · exact hoff _ (.tail _ (.tail _ (.tail _ (.tail _ (.tail _ (.tail _ (.tail _ hp)))))))
            · have q1 : y ≠ Str.ofString "begun" := by rintro rfl; exact absurd hy (by decide)
              have q2 : y ≠ Str.ofString "many" := by rintro rfl; exact absurd hy (by decide)
              simp [hy, q1, q2]
            · rw [List.length_append]; omega
            · rw [List.take_add_one, List.getElem?_eq_getElem hi6, hp, Option.toList_some]
              refine marked_step hhs hpb1 hmk _ fun x hx => ?_
              rw [List.any_eq_true]
              exact ⟨fun ⟨y, h1, h2⟩ => ⟨y, h1, of_decide_eq_true h2⟩, fun ⟨y, h1, h2⟩ => ⟨y, h1, decide_eq_true h2⟩⟩
        · rintro h9 tk9 u' news₁ FE NE ⟨unA, oH2, oU2, uv, us, ku, hdU2, ⟨vH, hdH2⟩, hus, hul, hmk, hu1, hu2, rfl⟩
          clear FD ND
          rw [List.size_toArray] at hul hmk
          rw [hT.1, List.take_of_length_le (Nat.le_refl _)] at hmk
          dsimp only
          k_unmd
          k_steps
          (rename Fr _ _ _ _ => FL); (rename News _ _ _ _ => NL)
          refine Stop.mk (LCg.CompSrc.ledger hh0 FL NL (.tail _ (.tail _ (.head _))) (by rw [sizeLine_eq, List.size_toArray]; omega) (fun g0 => compRest_inv _ (fun i2 ys news => ys = (cs7.take i2).map (fun c => Value.bool (us.any (· == c))) ∧ news = _) ?_ ?_ _ 0 [] _ (Nat.zero_add _) ⟨rfl, rfl⟩))
          · rintro i2 ys2 news2 hi2 ⟨rfl, rfl⟩ v I oI C oC D' m₂ h tk E' hv hC hx FI NI off ne
            clear FL NL
            rw [List.size_toArray] at hi2
            obtain ⟨vx, tx, hvx, rfl⟩ := ints_pick hys7 (show ys7[i2]? = some v by simpa using hv)
            have et : (cs7.take (i2 + 1)).map (fun c => Value.bool (us.any (· == c))) = (cs7.take i2).map (fun c => Value.bool (us.any (· == c))) ++ [Value.bool (us.any (· == vx))] := by
              rw [List.take_add_one, hvx, Option.toList_some, List.map_append]; rfl
            k_unmd
            k_fold
            k_steps
            exact Stop.mk (LCg.CompEnd.intro FI NI _ (fun p hp => hp) off (Or.inr ⟨_, .tail _ (.tail _ (.head _)), rfl, _, rfl⟩) ⟨et.symm, rfl⟩)
          · rintro ys2 news2 ⟨rfl, rfl⟩ D2 h7 tk7 FI NI o1
            clear FL NL
            have ets : cs7.take ys7.toArray.size = cs7 := List.take_of_length_le (by rw [List.size_toArray]; omega)
            rw [ets] at NI
            obtain ⟨due, hdue⟩ : ∃ due : List Bool, due = cs7.map (fun c => us.any (· == c)) := ⟨_, rfl⟩
            have hdm : cs7.map (fun c => Value.bool (us.any (· == c))) = due.map Value.bool := by rw [hdue, List.map_map]; rfl
            rw [hdm] at NI
            dsimp only
            refine seq_mid ["lone"] FI (fun u1 h' => ∃ (loA tA : Addr) (b kk : Nat) (t1 t2 : Tok), u1 (Str.ofString "lone") = some (.ref loA) ∧ b + 1 ≤ cs7.length ∧
              News s1.heap s1.heap.objs.size h' ((loA, W.listOf [Value.ref tA].toArray kk) :: (tA, { cls := .type "tuple", data := .seq #[Value.int (b : Int) t1, Value.int 1 t2] }) :: (D2, LCg.lst (due.map Value.bool)) :: (unA, W.listOf uv.toArray ku) :: (prA, W.listOf its.toArray k9) :: (clB, W.listOf ys7.toArray k7) :: (pen, op9) :: (cells, oc9) :: ((s1.heap.objs.size + 1 + 1), oH2) :: ((s1.heap.objs.size + 1), oU2) :: tl)) ?_ ?_
            · k_unmd
              k_steps
              · (rename Fr _ _ _ _ => FM); (rename News _ _ _ _ => NM)
                rename_i hcc tA _ _ loA _ _ _ _ _
                refine ⟨rfl, _, _, _, rfl, FM, fun y hy => ?_, loA, tA, 1, 0, _, _, rfl, by omega, NM⟩
                have q1 : y ≠ Str.ofString "lone" := by rintro rfl; exact absurd hy (by decide)
                simp [q1]
              · (rename Fr _ _ _ _ => FM); (rename News _ _ _ _ => NM)
                rename_i hcc tA _ _ loA _ _ _ _ _
                refine ⟨rfl, _, _, _, rfl, FM, fun y hy => ?_, loA, tA, 0, 0, _, _, rfl, by omega, NM⟩
                have q1 : y ≠ Str.ofString "lone" := by rintro rfl; exact absurd hy (by decide)
                simp [q1]
            · rintro hA tkA' u1 FM ⟨loA, tA, bL, kk, t1, t2, hu1, hbL, NM⟩
              have FM1 := fr_var0 FM hu1 (by decide)
              clear FI NI FM
              have hCo := contig_of_mono hpw7
              have hpl2 : parts.length ≤ 100 := by rw [hpl]; omega
              k_unmd
              k_steps
              (rename Fr _ _ _ _ => FN); (rename News _ _ _ _ => NN)
              refine Stop.mk (hung_call C0 FN ⟨_, (NN _ (.tail _ (.tail _ (.tail _ (.tail _ (.tail _ (.head _))))))).1, rfl, _, rfl⟩ hys7 hn72 hCo ⟨_, (NN _ (.tail _ (.tail _ (.tail _ (.tail _ (.head _)))))).1, rfl, _, rfl⟩
                (hT.parts NN (fun p hp => .tail _ (.tail _ (.tail _ (.tail _ (.tail _ (.tail _ (.tail _ (.tail _ (.tail _ (.tail _ hp))))))))))) hpl2 hpb (Nat.le_of_ble_eq_true rfl) (Nat.le_of_ble_eq_true rfl) ?_)
              intro R1 bs1 hR1 tkR1 b1l b1 NR1 _ FR1 GR1
              obtain rfl : bs1 = due := (due_eq hpb hmk b1l b1).trans hdue.symm
              have NP := news_cons NR1 (NN.grown (gsub_nil GR1))
              clear NR1 NN FN GR1 b1
              k_unmd
              k_steps
              (rename Fr _ _ _ _ => FO); (rename News _ _ _ _ => NO)
              refine Stop.mk (ne_bools ⟨_, (NO _ (.head _)).1, rfl, _, rfl⟩ (boolsAre_map _) ⟨_, (NO _ (.tail _ (.tail _ (.tail _ (.head _))))).1, rfl, _, rfl⟩ (boolsAre_map _) (by units_room) ?_)
              rw [decide_eq_true rfl, Bool.not_true]
              k_unmd
              k_steps
              (rename Fr _ _ _ _ => FQ); (rename News _ _ _ _ => NQ)
              rw [krv_pick] at NQ
              refine Stop.mk (hung_call (its := its.reverse.toArray) C0 FQ ⟨_, (NQ _ (.tail _ (.tail _ (.tail _ (.tail _ (.tail _ (.tail _ (.tail _ (.head _))))))))).1, rfl, _, rfl⟩ hys7 hn72 hCo ⟨_, (NQ _ (.head _)).1, rfl, _, rfl⟩
                (hT.rev.parts NQ (fun p hp => (.tail _ (.tail _ (.tail _ (.tail _ (.tail _ (.tail _ (.tail _ (.tail _ (.tail _ (.tail _ (.tail _ (.tail _ hp)))))))))))))) (by rw [List.length_reverse]; exact hpl2) (fun p hp => hpb p (List.mem_reverse.mp hp)) (Nat.le_of_ble_eq_true rfl) (Nat.le_of_ble_eq_true rfl) ?_)
              intro R2 bs2 hR2 tkR2 b2l b2 NR2 _ FR2 GR2
              have be2 : bs2 = bs1 := (due_eq hpb hmk b2l (fun j hj => (b2 j hj).trans (hung_rev j))).trans hdue.symm
              rw [be2] at NR2
              have NS := news_cons NR2 (NQ.grown (gsub_nil GR2))
              clear NR2 NQ FQ GR2 b2 b2l be2
              k_unmd
              k_steps
              (rename Fr _ _ _ _ => FT); (rename News _ _ _ _ => NT)
              refine Stop.mk (ne_bools ⟨_, (NT _ (.head _)).1, rfl, _, rfl⟩ (boolsAre_map _) ⟨_, (NT _ (.tail _ (.tail _ (.tail _ (.tail _ (.tail _ (.head _))))))).1, rfl, _, rfl⟩ (boolsAre_map _) (by units_room) ?_)
              rw [decide_eq_true rfl, Bool.not_true]
              k_unmd
              k_steps
              (rename Fr _ _ _ _ => FV); (rename News _ _ _ _ => NV)
              refine Stop.mk (hung_call (parts := []) (its := #[]) C0 FV ⟨_, (NV _ (.tail _ (.tail _ (.tail _ (.tail _ (.tail _ (.tail _ (.tail _ (.tail _ (.tail _ (.head _))))))))))).1, rfl, _, rfl⟩ hys7 hn72 hCo ⟨_, (NV _ (.head _)).1, rfl, _, rfl⟩
                ⟨rfl, fun i b m e => nomatch e⟩ (Nat.zero_le _) (fun p hp => nomatch hp) (Nat.le_of_ble_eq_true rfl) (Nat.le_of_ble_eq_true rfl) ?_)
              intro R3 bs3 hR3 tkR3 b3l b3 NR3 _ FR3 GR3
              have be3 : bs3 = List.replicate cs7.length false := false_eq (fun j => hung_nil j) b3l b3
              rw [be3] at NR3
              have NW := news_cons NR3 (NV.grown (gsub_nil GR3))
              clear NR3 NV FV GR3 b3 b3l be3
              k_unmd
              k_steps
              (rename Fr _ _ _ _ => FX); (rename News _ _ _ _ => NX)
              rename Heap.IsList _ _ _ => hM
              refine Stop.mk (ne_bools ⟨_, (NX _ (.tail _ (.head _))).1, rfl, _, rfl⟩ (boolsAre_map _) (isl_rep hM) (boolsAre_map _) (by units_room) ?_)
              rw [decide_eq_true rfl, Bool.not_true]
              clear hM
              k_unmd
              k_steps
              (rename Fr _ _ _ _ => FY); (rename News _ _ _ _ => NY)
              refine Stop.mk (hung_call (parts := [(bL, 1)]) (its := [Value.ref tA].toArray) C0 FY ⟨_, (NY _ (.tail _ (.tail _ (.tail _ (.tail _ (.tail _ (.tail _ (.tail _ (.tail _ (.tail _ (.tail _ (.tail _ (.head _))))))))))))).1, rfl, _, rfl⟩ hys7 hn72 hCo ⟨_, (NY _ (.tail _ (.tail _ (.tail _ (.tail _ (.tail _ (.tail _ (.head _)))))))).1, rfl, _, rfl⟩
                (TupsAt.parts (TupsAt.more (tl := []) (its := []) (parts := []) ⟨rfl, fun i b m e => nomatch e⟩ (fun p hp => nomatch hp) (.head [])) NY (fun p hp => by rw [List.mem_singleton.mp hp]; exact (.tail _ (.tail _ (.tail _ (.tail _ (.tail _ (.tail _ (.tail _ (.head _)))))))))) (Nat.le_of_ble_eq_true rfl)
                (fun p hp => by rw [List.mem_singleton.mp hp]; exact hbL) (Nat.le_of_ble_eq_true rfl) (Nat.le_of_ble_eq_true rfl) ?_)
              intro R4 bs4 hR4 tkR4 b4l b4 NR4 _ FR4 GR4
              have be4 : bs4 = List.replicate cs7.length false := false_eq (fun j => hung_lone j) b4l b4
              rw [be4] at NR4
              have NZ := news_cons NR4 (NY.grown (gsub_nil GR4))
              clear NR4 NY FY GR4 b4 b4l be4
              k_unmd
              k_steps
              (rename Fr _ _ _ _ => FX); (rename News _ _ _ _ => NX)
              rename Heap.IsList _ _ _ => hM
              refine Stop.mk (eq_bools ⟨_, (NX _ (.tail _ (.head _))).1, rfl, _, rfl⟩ (boolsAre_map _) (isl_rep hM) (boolsAre_map _) (by units_room) ?_)
              rw [decide_eq_true rfl]
              clear hM
              k_unmd
              k_steps)
end Mine
theorem PySem.Challenge.cw_pb0161_01_holds : PySem.Challenge.rw_pb0161_01.Holds :=
  Mine.law_walk
