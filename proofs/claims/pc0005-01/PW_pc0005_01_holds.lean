import PyProof.Rows.All
import Wide.All
import OpenK.AllK
import Wide.FinOn
import Lean
import PySem.Challenge.RW_pc0005_01
open PySem PySem.W PyProof.Rows PySem.Calls
set_option Elab.async false
set_option maxRecDepth 100000
set_option linter.unusedSectionVars false
set_option linter.unusedSimpArgs false
namespace Mine
set_option synthInstance.maxSize 1 in
set_option maxHeartbeats 8000000 in
open_top hd for PySem.Challenge.rw_pc0005_01
theorem top_off : True := by
  w_top off
  exact True.intro

/-- what stands at every heap of the call -/
structure Cx (w : World) (mean : ExcName → Option Value) (mg mb : Str → Option Value) (h : Heap) : Prop where
  X : (Mine.hd.heap_39 w.params).In h
  T : Top Mine.hd.view_39 (looseW Mine.hd.view_39 [Str.ofString "BasicError"]) mean mg mb h

theorem Cx.keeps {w : World} {mean : ExcName → Option Value} {mg mb : Str → Option Value} {h h' : Heap} (c : Cx w mean mg mb h)
    (k : ∀ b o, h.get? b = some o → h'.get? b = some o) : Cx w mean mg mb h' := ⟨c.X.keeps k, c.T.keeps k⟩

/-- room for n calls below -/
structure Rm (A : Around) (n : Nat) : Prop where
  d : A.depth + n < recursionLimit
  u : A.units + 40 * n + 40 < cLine
  h : A.handled = none
theorem Rm.deep {A : Around} {n m : Nat} {env : Env} (r : Rm A n) (h : m + 1 ≤ n) : Rm (A.deeper env) m :=
  ⟨by show A.depth + 1 + m < _; have := r.d; omega, by show A.units + 3 + 40 * m + 40 < _; have := r.u; omega, r.h⟩
theorem Rm.held {A : Around} (r : Rm A 4) : A.depth + 3 < recursionLimit ∧ A.units + 200 < cLine := ⟨by have := r.d; omega, by have := r.u; omega⟩

section
variable {prog : Program} {w : World} {A : Around} {s : Shared} {K : Frag} {mean : ExcName → Option Value} {mg mb : Str → Option Value}
  {R : Result → Shared → Prop} {p : Program} {loose : List Str}
  {name qual : Str} {params : Arguments} {body : List Stmt} {scope : Scope} {dV kV doc pm cdv ct oc : Value} {an od : Option Addr} {osl : Array (Option Value)} {f : Addr} {args : Args} {binds : List (Str × Value)}
/-- a def is entered; all that the caller has is its base -/
theorem enter_pure (X : K.In s.heap) (T : Top p loose mean mg mb s.heap)
    (ho : K.lookup f = some ⟨oc, od, .func (fnOf name qual params body scope dV kV doc pm an cdv ct), osl⟩) (hcd : codeIn K cdv qual = true) (hroom : A.depth < recursionLimit)
    (hbind : BindsTo s (fnOf name qual params body scope dV kV doc pm an cdv ct) args binds) (hloc : ∀ y ∈ binds, scope.names.lookup y.1 = some .local)
    (h : ∀ L h₁, Fr s.heap L h₁ (fun y => binds.reverse.lookup y) → News s.heap L h₁ [] →
      wpAny (model prog w) (A.deeper (envX qual scope L f cdv [])) (execs body (envX qual scope L f cdv []))
        (fun fl s' => R (.ok (.ret (match fl with | .ret v => v | _ => .none))) s')
        (fun e s' => wpAny (model prog w) (A.deeper (envX qual scope L f cdv [])) (leaving (envX qual scope L f cdv []) e) (fun _ s'' => R (.error e) s'') (fun e' s'' => R (.error e') s'') s')
        { s with heap := h₁, toks := s.toks + binds.length })
    (hco : scope.isCoroutine = false) (hgen : scope.isGenerator = false) (hk : scope.kind = .function)
    (hcell : ∀ x ∈ scope.names, x.2 ≠ .cell) : codeAny (model prog w) A (.call (.ref f) args) R s := by
  refine codeAny_call_def (fd := fnOf name qual params body scope dV kV doc pm an cdv ct) (body := body) (binds := binds) hroom (X _ _ ho) rfl T.nolimit (codeRec_of X hcd) rfl hbind hcell hloc (fun h₁ hns hk₁ => ?_) hco hgen hk
  exact h s.heap.objs.size h₁ ⟨hns, hk₁, Nat.le_refl _⟩ News.nil

/-- a def that never raises is entered -/
theorem enter0 (X : K.In s.heap) (T : Top p loose mean mg mb s.heap)
    (ho : K.lookup f = some ⟨oc, od, .func (fnOf name qual params body scope dV kV doc pm an cdv ct), osl⟩) (hcd : codeIn K cdv qual = true) (hroom : A.depth < recursionLimit)
    (hbind : BindsTo s (fnOf name qual params body scope dV kV doc pm an cdv ct) args binds) (hloc : ∀ y ∈ binds, scope.names.lookup y.1 = some .local)
    (h : ∀ L h₁, Fr s.heap L h₁ (fun y => binds.reverse.lookup y) → News s.heap L h₁ [] →
      wpAny (model prog w) (A.deeper (envX qual scope L f cdv [])) (execs body (envX qual scope L f cdv []))
        (fun fl s' => R (.ok (.ret (match fl with | .ret v => v | _ => .none))) s') (fun _ _ => False)
        { s with heap := h₁, toks := s.toks + binds.length })
    (hco : scope.isCoroutine = false) (hgen : scope.isGenerator = false) (hk : scope.kind = .function)
    (hcell : ∀ x ∈ scope.names, x.2 ≠ .cell) : codeAny (model prog w) A (.call (.ref f) args) R s :=
  enter_pure X T ho hcd hroom hbind hloc (fun L h₁ F N => wpAny_mono (h L h₁ F N) (fun _ _ x => x) (fun _ _ x => x.elim)) hco hgen hk hcell
end


theorem lk1 {a : Str} {v : Value} : (fun y => [(a, v)].reverse.lookup y) = fun y => if y = a then some v else none := by
  funext y
  show List.lookup y [(a, v)] = _
  by_cases h : y = a
  · subst h; simp [List.lookup]
  · have : (y == a) = false := by simpa using h
    simp [List.lookup, this, h]
theorem lk2 {a b : Str} {v u : Value} : (fun y => [(a, v), (b, u)].reverse.lookup y) = fun y => if y = b then some u else if y = a then some v else none := by
  funext y
  show List.lookup y [(b, u), (a, v)] = _
  by_cases h : y = b
  · subst h; simp [List.lookup]
  · have e : (y == b) = false := by simpa using h
    by_cases h2 : y = a
    · subst h2; simp [List.lookup, e, h]
    · have e2 : (y == a) = false := by simpa using h2
      simp [List.lookup, e, e2, h, h2]
theorem lk3 {a b c : Str} {v u z : Value} : (fun y => [(a, v), (b, u), (c, z)].reverse.lookup y) = fun y => if y = c then some z else if y = b then some u else if y = a then some v else none := by
  funext y
  show List.lookup y [(c, z), (b, u), (a, v)] = _
  by_cases h0 : y = c
  · subst h0; simp [List.lookup]
  · have e0 : (y == c) = false := by simpa using h0
    by_cases h : y = b
    · subst h; simp [List.lookup, e0, h0]
    · have e : (y == b) = false := by simpa using h
      by_cases h2 : y = a
      · subst h2; simp [List.lookup, e, h, e0, h0]
      · have e2 : (y == a) = false := by simpa using h2
        simp [List.lookup, e, e2, h, h2, e0, h0]

section
variable {prog : Program} {w : World} {A : Around} {E : Value → Shared → Prop} {Q : Flow → Shared → Prop} {s : Shared} {env : Env} {h₀ : Heap} {L : Addr}
/-- a while by an invariant and a measure; what stands behind it is said once -/
theorem While_post {test : Expr} {body : List Stmt} {pos : Pos} {m : Str → Option Value} {news : List (Addr × Obj)} (J : Nat → (Str → Option Value) → List (Addr × Obj) → Prop) (P : Shared → Prop) (n₀ : Nat)
    (F : Fr h₀ L s.heap m) (N : News h₀ L s.heap news) (hJ : J n₀ m news)
    (turn : ∀ n m₁ news₁ h₁ tk₁, Fr h₀ L h₁ m₁ → News h₀ L h₁ news₁ → J n m₁ news₁ →
      wpAny (model prog w) A (isTrue test env (eval test env)) (fun b s₂ =>
        if b = true then wpAny (model prog w) A (execs body env) (WhileStep2 h₀ L s J (fun f s' => f = .next ∧ P s') n) (fun _ _ => False) s₂ else P s₂) (fun _ _ => False) { s with heap := h₁, toks := tk₁ })
    (rest : ∀ s', P s' → Q .next s') :
    wpAny (model prog w) A (exec (.While test body [] pos) env) Q E s := by
  refine wpAny_mono (While_inv2 (Q := fun f s' => f = .next ∧ P s') (E := fun _ _ => False) J F N hJ (fun n m₁ news₁ h₁ tk₁ F₁ N₁ j => ?_) PassesOwn.never) (fun f s' h => ?_) (fun _ _ h => h.elim)
  · refine wpAny_mono (turn n m₁ news₁ h₁ tk₁ F₁ N₁ j) (fun b s₂ p => ?_) fun _ _ h => h
    cases b with
    | true => simpa using p
    | false => simpa using p
  · obtain ⟨rfl, p⟩ := h
    exact rest _ p

theorem While_step {J : Nat → (Str → Option Value) → List (Addr × Obj) → Prop} {n n' : Nat} {h' : Heap} {tk : Nat} {m₂ : Str → Option Value} {news₂ : List (Addr × Obj)}
    (F : Fr h₀ L h' m₂) (N : News h₀ L h' news₂) (hn : n' < n) (j : J n' m₂ news₂) : WhileStep2 h₀ L s J Q n .next { s with heap := h', toks := tk } :=
  ⟨h', tk, m₂, news₂, n', rfl, F, N, hn, j⟩
end


section
variable {prog : Program} {w : World} {A : Around} {E : Value → Shared → Prop} {s : Shared} {env : Env} {h₀ : Heap} {x : Str} {body : List Stmt} {Q : Flow → Shared → Prop}

theorem iter_walk {xv : Value} {l : Addr} {oi : Obj} {n : Nat} {Pv : Nat → Value → Prop} {St : Nat → Heap → Prop} {m₀ : Str → Option Value} {news : List (Addr × Obj)} (J : Nat → (Str → Option Value) → List (Addr × Obj) → Prop)
    (hpy : ∀ Q' : Value → Shared → Prop, Q' (.ref s.heap.objs.size) { s with heap := s.heap.push oi } → wpAny (model prog w) A (pyIter xv) Q' E s)
    (W : Walks prog w A s.heap.objs.size [s.heap.objs.size, l] [s.heap.objs.size] n Pv St) (hst : St 0 (s.heap.push oi)) (hl : l ≠ env.locals) (hnl : ∀ p ∈ news, p.1 ≠ l)
    (F : Fr h₀ env.locals s.heap m₀) (N : News h₀ env.locals s.heap news) (hj : J 0 m₀ news)
    (turn : ∀ i v m₁ news₁ h tk own, i < n → Pv i v → news₁.map (·.1) = news.map (·.1) → OwnOff own (news.map (·.1)) → J i m₁ news₁ → Fr h₀ env.locals h (fun y => if y = x then some v else m₁ y) → News h₀ env.locals h (news₁ ++ own) →
      wpAny (model prog w) A (execs body env) (InvPostN h₀ env.locals (J (i + 1)) own (news.map (·.1)) { s with heap := h, toks := tk } Q) E { s with heap := h, toks := tk })
    (done : ∀ m₁ news₁ h tk, J n m₁ news₁ → Fr h₀ env.locals h m₁ → News h₀ env.locals h news₁ → Q .next { s with heap := h, toks := tk }) :
    wpAny (model prog w) A (pyIter xv) (fun it s₂ => LoopAtV prog w A h₀ env x body Q E it s₂) E s := by
  refine hpy _ ?_
  let J' : Nat → (Str → Option Value) → List (Addr × Obj) → Prop := fun i m₁ news₁ => news₁.map (·.1) = news.map (·.1) ∧ J i m₁ news₁
  refine ⟨_, _, _, n, _, _, m₀, news, J', rfl, W, ?_, ?_, ?_, hst, F.push _, (fun p hp => ⟨Heap.get?_push_of_some _ (N p hp).1, (N p hp).2⟩), ⟨rfl, hj⟩, ?_, ?_⟩
  · intro hm
    rcases List.mem_cons.mp hm with e | hm
    · exact absurd F.ns.lt (e ▸ Nat.lt_irrefl _)
    · exact hl (List.mem_singleton.mp hm).symm
  · intro b hb
    rw [List.mem_singleton.mp hb]
    exact next_is_new F
  · intro p hp hI
    exact absurd (Heap.lt_size (N p hp).1) ((List.mem_singleton.mp hI) ▸ Nat.lt_irrefl _)
  · rintro i v m₁ news₁ s₁ own ⟨hh', tk', rfl⟩ hin hP ⟨hadr, hJ⟩ hoff hown _ _ _ F₁ N₁
    have hsep : OwnOff own (news.map (·.1)) := by
      intro p hp b hb e
      obtain ⟨q, hq, rfl⟩ := List.mem_map.mp hb
      rcases List.mem_cons.mp (hown p hp) with h1 | h1
      · exact absurd (Heap.lt_size (N q hq).1) (by rw [← e, h1]; exact Nat.lt_irrefl _)
      · exact hnl q hq (e.symm.trans (List.mem_singleton.mp h1))
    have N₂ : News h₀ env.locals hh' (news₁ ++ own) := fun p hp => N₁ p ((List.mem_append.mp hp).elim (fun h => List.mem_append.mpr (.inr h)) fun h => List.mem_append.mpr (.inl h))
    refine wpAny_mono (turn i v m₁ news₁ hh' tk' own hin hP hadr hsep hJ F₁ N₂) (fun f s₂ p => ?_) fun _ _ e => e
    have fin : InvEndN h₀ env.locals (J (i + 1)) own (news.map (·.1)) { s with heap := hh', toks := tk' } s₂ → LoopStepU h₀ env.locals [s.heap.objs.size] own (J' (i + 1)) { s with heap := hh', toks := tk' } .next s₂ := by
      rintro ⟨h', tk, m', news', nx, e, F', N', hn, ho, ha, hm⟩
      refine ⟨rfl, h', tk, m', nx, e, F', fun p hp => N' p ((List.mem_append.mp hp).elim (ho p) (hn p)), fun p hp hq => ?_, ha, hm⟩
      have h1 : p.1 ∈ nx.map (·.1) := List.mem_map.mpr ⟨p, hp, rfl⟩
      rw [ha, ← hadr] at h1
      obtain ⟨q, hq1, hq2⟩ := List.mem_map.mp h1
      exact hoff q hq1 (by rw [hq2]; exact hq)
    cases f with
    | ret v => exact .ret p
    | brk => exact .brk p
    | next => exact .next (fin p)
    | cont => exact .cont (fin p)
  · rintro h' tk m' news' F' N' _ ⟨_, hJ⟩
    exact done m' news' h' tk hJ F' N'

/-- what stands where a for's source is told: a list -/
def SrcVals (prog : Program) (w : World) (A : Around) (h₀ : Heap) (env : Env) (x : Str) (body : List Stmt) (P : Shared → Prop) (xv : Value) (s : Shared) : Prop :=
  ∃ (l : Addr) (vs : List Value) (m₀ : Str → Option Value) (news : List (Addr × Obj)) (J : Nat → (Str → Option Value) → List (Addr × Obj) → Prop),
    xv = .ref l ∧ s.heap.IsList l vs.toArray ∧ l ≠ env.locals ∧ (∀ p ∈ news, p.1 ≠ l) ∧ Fr h₀ env.locals s.heap m₀ ∧ News h₀ env.locals s.heap news ∧ J 0 m₀ news ∧
    (∀ i v m₁ news₁ h tk own, vs[i]? = some v → news₁.map (·.1) = news.map (·.1) → OwnOff own (news.map (·.1)) → J i m₁ news₁ → Fr h₀ env.locals h (fun y => if y = x then some v else m₁ y) → News h₀ env.locals h (news₁ ++ own) →
      wpAny (model prog w) A (execs body env) (InvPostN h₀ env.locals (J (i + 1)) own (news.map (·.1)) { s with heap := h, toks := tk } (fun f s' => f = .next ∧ P s')) (fun _ _ => False) { s with heap := h, toks := tk }) ∧
    ∀ m₁ news₁ h tk, J vs.length m₁ news₁ → Fr h₀ env.locals h m₁ → News h₀ env.locals h news₁ → P { s with heap := h, toks := tk }

theorem For_vals {px pos : Pos} {iter : Expr} (P : Shared → Prop) (hh : A.handled = none) (hx : env.kindOf x = some .local)
    (hp : (env.scope.kind == .class || (env.scope.kind == .module && env.locals != env.globals)) = false)
    (h : wpAny (model prog w) A (eval iter env) (SrcVals prog w A h₀ env x body P) (fun _ _ => False) s) (rest : ∀ s', P s' → Q .next s')
    (hs : ∀ x, foldedSetIterable iter env x = pure x := by intro _; rfl) :
    wpAny (model prog w) A (exec (.For (.Name x px) iter body [] pos) env) Q E s := by
  refine wpAny_mono (For_invV (Q := fun f s' => f = .next ∧ P s') (E := fun _ _ => False) h₀ hx hp (wpAny_mono h (fun xv s₁ hv => ?_) fun _ _ e => e) hs PassesOwn.never) (fun f s' h => h.1 ▸ rest _ h.2) (fun _ _ h => h.elim)
  obtain ⟨l, vs, m₀, news, J, rfl, hl, hne, hnl, F, N, hj, turn, done⟩ := hv
  obtain ⟨ol, hol, _⟩ := id hl
  have hlt : l < s₁.heap.objs.size := Heap.lt_size hol
  have W := Walks.list (prog := prog) (w := w) hh s₁.heap.objs.size l (Nat.ne_of_lt hlt) vs.toArray
  rw [List.size_toArray] at W
  refine iter_walk J (fun Q' hq => wpAny_pyIter_list hl hq) W ⟨⟨_, Heap.get?_push_size _ rfl, rfl, rfl⟩, hl.at fun o e => Heap.get?_push_of_some _ e⟩ hne hnl F N hj
    (fun i v m₁ news₁ h tk own hi hv => turn i v m₁ news₁ h tk own (by simpa using hv)) (fun m₁ news₁ h tk j F₁ N₁ => ⟨rfl, done m₁ news₁ h tk j F₁ N₁⟩)
end

section
variable {prog : Program} {w : World} {A : Around} {s : Shared} {K : Frag} {mg mb : Str → Option Value} {mean : ExcName → Option Value}
  {R : Result → Shared → Prop} {p : Program} {loose : List Str}
  {name qual : Str} {params : Arguments} {body : List Stmt} {scope : Scope} {dV kV doc pm cdv ct oc : Value} {an od : Option Addr} {osl : Array (Option Value)} {f : Addr} {args : Args} {binds : List (Str × Value)}
/-- a def with captured names, that never raises, is entered -/
theorem enterC (X : K.In s.heap) (T : Top p loose mean mg mb s.heap)
    (ho : K.lookup f = some ⟨oc, od, .func (fnOf name qual params body scope dV kV doc pm an cdv ct), osl⟩) (hcd : codeIn K cdv qual = true) (hroom : A.depth < recursionLimit)
    (hbind : BindsTo s (fnOf name qual params body scope dV kV doc pm an cdv ct) args binds)
    (hkind : (binds.all fun y => scope.names.lookup y.1 == some .local || scope.names.lookup y.1 == some .cell) = true)
    (hnd : ((cellsFrom 0 scope.names []).map (·.1)).Nodup)
    (h : ∀ L h₁ tk cells, Fr s.heap L h₁ (bindL (envOfC qual scope L f cdv).kindOf binds fun _ => none) → News s.heap L h₁ cells →
      CellsAre (bindC (envOfC qual scope L f cdv).kindOf binds fun _ => none) (cellsFrom (L + 1) scope.names []) cells →
      wpAny (model prog w) (A.deeper (envOfC qual scope L f cdv)) (execs body (envOfC qual scope L f cdv))
        (fun fl s' => R (.ok (.ret (match fl with | .ret v => v | _ => .none))) s') (fun _ _ => False)
        { s with heap := h₁, toks := tk })
    (hco : scope.isCoroutine = false) (hgen : scope.isGenerator = false) (hk : scope.kind = .function) : codeAny (model prog w) A (.call (.ref f) args) R s := by
  refine codeAny_call_function hroom (X _ _ ho) rfl hco hgen rfl (codeRec_of X hcd) (hbind _ _ _ _ ?_)
  refine wpAny_newFunctionEnv_cells hk (kindsX hkind _) fun env' he s' x => ?_
  subst he
  refine ⟨T.nolimit.keeps x.toInCall.keep, codeAny_func ?_⟩
  obtain ⟨h₁, tk, rfl, _⟩ := x.done
  have hk₁ := x.toInCall.keep
  obtain ⟨cells, NC, Y⟩ := Cl.news (h₀ := s.heap) (Nat.le_refl _) fun n c hm => ⟨x.cell n c (lookup_of_mem_nodup (cellsFrom_names scope.names 0 (s.heap.objs.size + 1) [] [] rfl ▸ hnd) hm), x.above n c hm⟩
  exact wpAny_mono (h s.heap.objs.size h₁ tk cells ⟨x.toInCall.ns, hk₁, Nat.le_refl _⟩ NC Y) (fun _ _ y => y) fun _ _ y => y.elim
end

section
variable {prog : Program} {w : World} {A : Around} {E : Value → Shared → Prop} {s : Shared} {h₀ : Heap} {L : Addr} {m : Str → Option Value} {env : Env}

/-- what a turn of a comprehension leaves behind -/
def TurnEnd (h₀ : Heap) (L : Addr) (m : Str → Option Value) (s₁ : Shared) (I : Addr) (oI : Obj) (C : Addr) (oC : Obj) (D : Addr) (oD : Obj) (J : List (Addr × Obj) → Prop) (s₂ : Shared) : Prop :=
  ∃ h' tk nw, s₂ = { s₁ with heap := h', toks := tk } ∧ Fr h₀ L h' m ∧ News h₀ L h' ((I, oI) :: (C, oC) :: (D, oD) :: nw) ∧ LCg.Off3 I C D nw ∧ J nw

def TurnJ (prog : Program) (w : World) (A : Around) (h₀ : Heap) (L : Addr) (m : Str → Option Value) (env : Env) (elt : Expr) (ifs : List Expr) (x : Str) (scope : Scope) (cl : List (Str × Addr)) (s : Shared) (n : Nat) (P : Nat → Value → Prop)
    (J : Nat → List Value → List (Addr × Obj) → Prop) : Prop :=
  ∀ i v ys nw I oI C oC D m₂ h tk (E' : Value → Shared → Prop), i < n → P i v → J i ys nw → LCg.NsObj oC m₂ → m₂ x = some v → Fr h₀ L h m → News h₀ L h ((I, oI) :: (C, oC) :: (D, LCg.lst ys) :: nw) → LCg.Off3 I C D nw →
    ((@Ne Nat I C) ∧ (@Ne Nat I D) ∧ (@Ne Nat C D)) →
    wpAny (model prog w) A (forIn ifs true fun c r => if r = true then do let ok ← isTrue c (compEnvC scope cl C env) (eval c (compEnvC scope cl C env)); pure (ForInStep.yield ok) else pure (ForInStep.yield r))
      (fun ok s₃ => if ok = true then wpAny (model prog w) A (eval elt (compEnvC scope cl C env)) (fun y s₄ => TurnEnd h₀ L m { s with heap := h, toks := tk } I oI C oC D (LCg.lst ys) (J (i + 1) (ys ++ [y])) s₄) E' s₃
        else TurnEnd h₀ L m { s with heap := h, toks := tk } I oI C oC D (LCg.lst ys) (J (i + 1) ys) s₃) E' { s with heap := h, toks := tk }

theorem block_J {elt iter : Expr} {x : Str} {px : Pos} {ifs : List Expr} {scope : Scope} {cl : List (Str × Addr)} {pos : Pos} {s₂ : Shared} {I : Addr} {fp : List Addr} {n : Nat} {P : Nat → Value → Prop} {St : Nat → Heap → Prop} {news : List (Addr × Obj)}
    {RR : Value → Addr → Result → Shared → Prop} (J : Nat → List Value → List (Addr × Obj) → Prop) (src : Addr → Obj)
    (W : Walks prog w A I fp [I] n P St) (hsz : n ≤ sizeLine) (hIo : ∀ i h, St i h → ∃ o, h.get? I = some o)
    (hcell : ∀ y ∈ scope.names, y.2 ≠ .cell) (hkind : scope.kind = .function) (hx : scope.names.lookup x = some .local) (hst : St 0 s₂.heap) (hfp : ∀ b ∈ fp, b < s₂.heap.objs.size)
    (F : Fr h₀ L s₂.heap m) (N : News h₀ L s₂.heap news) (hIL : L ≠ I) (hI₀ : h₀.get? I = none) (off : ∀ p ∈ news, p.1 ≠ I)
    (hJ : J 0 [] news) (hS : ∀ i ys nw, J i ys nw → ∀ b ∈ fp, b ≠ I → h₀.get? b = some (src b) ∨ (b, src b) ∈ nw)
    (R : TurnJ prog w A h₀ L m env elt ifs x scope cl s₂ n P J)
    (hRR : ∀ D C h tk m' ys nw, Fr h₀ L h m → News h₀ L h ((D, LCg.lst ys) :: nw) → (∀ p ∈ nw, p.1 ≠ D) → h.Ns C m' → h₀.get? C = none → h₀.get? D = none → C ≠ L → D ≠ L → C ≠ D → (∀ p ∈ nw, p.1 ≠ C) → J n ys nw →
      RR (.ref D) C (.ok .next) { s₂ with heap := h, toks := tk }) :
    wpAny (model prog w) A (newList []) (fun acc s₃ => wpAny (model prog w) A (newFunctionEnv scope env.globals cl [] env.qual none .none (some env)) (fun cenv s₄ =>
      codeAny (model prog w) A (.compStart (.ListComp elt [⟨.Name x px, iter, ifs, 0⟩] scope pos) 0 (.ref I) acc { cenv with scope := relabel scope env }) (RR acc cenv.locals) s₄) E s₃) E s₂ := by
  refine wpAny_newObj_type (wpAny_newFunctionEnv hcell (by intro y hy; simp at hy) (fun h₁ hns₁ hsb₁ => ?_) hkind)
  dsimp only at hns₁ hsb₁ ⊢
  generalize hH2 : s₂.heap.push { cls := .type "list", dict := none, data := .seq ([] : List Value).toArray } = H2 at hns₁ hsb₁ ⊢
  have hC : H2.objs.size = s₂.heap.objs.size + 1 := by rw [← hH2, Heap.size_push]
  have hDC : s₂.heap.objs.size ≠ H2.objs.size := by rw [hC]; exact Nat.ne_of_lt (Nat.lt_succ_self _)
  have below : ∀ b, b < s₂.heap.objs.size → b ≠ H2.objs.size ∧ b ≠ s₂.heap.objs.size := fun b hb => ⟨by rw [hC]; exact Nat.ne_of_lt (Nat.lt_succ_of_lt hb), Nat.ne_of_lt hb⟩
  have hDf : s₂.heap.objs.size ∉ fp := fun hm => Nat.lt_irrefl _ (hfp _ hm)
  have hCf : H2.objs.size ∉ fp := fun hm => by have := hfp _ hm; rw [hC] at this; exact Nat.lt_irrefl _ (Nat.lt_of_succ_lt this)
  have hIf : I ∈ fp := W.sub I (List.mem_singleton.mpr rfl)
  have hIlt : I < s₂.heap.objs.size := hfp I hIf
  have old : ∀ b o, s₂.heap.get? b = some o → h₁.get? b = some o := fun b o e => hsb₁.extBut b o (below b (Heap.lt_size e)).1 (Heap.get?_push_of_some _ (hH2 ▸ Heap.get?_push_of_some _ e))
  have hacc : h₁.get? s₂.heap.objs.size = some (LCg.lst []) := hsb₁.extBut _ _ hDC (Heap.get?_push_of_some _ (hH2 ▸ Heap.get?_push_size _ rfl))
  have hst₁ : St 0 h₁ := W.frame _ _ _ hst fun b _ o e => old b o e
  have fresh : ∀ a, s₂.heap.objs.size ≤ a → s₂.heap.get? a = none := fun a ha => by
    cases e : s₂.heap.get? a with
    | none => rfl
    | some o' => exact absurd (Heap.lt_size e) (Nat.not_lt.mpr ha)
  have fresh₀ : ∀ a, s₂.heap.objs.size ≤ a → h₀.get? a = none := fun a ha => by
    cases e : h₀.get? a with
    | none => rfl
    | some o' => have := F.keep a o' e; rw [fresh a ha] at this; cases this
  have hD₀ : h₀.get? s₂.heap.objs.size = none := fresh₀ _ (Nat.le_refl _)
  have hC₀ : h₀.get? H2.objs.size = none := fresh₀ _ (by rw [hC]; exact Nat.le_succ _)
  have hLlt : L < s₂.heap.objs.size := F.ns.lt
  have hDL : s₂.heap.objs.size ≠ L := Ne.symm (below L hLlt).2
  have hCL : H2.objs.size ≠ L := Ne.symm (below L hLlt).1
  have hCI : I ≠ H2.objs.size := (below I hIlt).1
  have hDI : I ≠ s₂.heap.objs.size := (below I hIlt).2
  have off₀ : LCg.Off3 I H2.objs.size s₂.heap.objs.size news := LCg.Off3.of fun p hp => ⟨off p hp, (below _ (Heap.lt_size (N p hp).1)).1, (below _ (Heap.lt_size (N p hp).1)).2⟩
  have loop : ∀ s₃ : Shared, s₃ = { s₂ with heap := h₁, toks := s₂.toks + ([] : List (Str × Value)).length } →
      codeAny (model prog w) A (.compLoop (.ListComp elt [⟨.Name x px, iter, ifs, 0⟩] scope pos) 0 (.ref I) (.ref s₂.heap.objs.size) (compEnvC scope cl H2.objs.size env))
        (RR (.ref s₂.heap.objs.size) H2.objs.size) s₃ := by
    rintro s₃ rfl
    refine codeAny_compLoop_tests
      (fun k s' => ∃ h' tk i ys m' nw, s' = { s₂ with heap := h', toks := tk } ∧ i ≤ n ∧ k = n + 1 - i ∧ ys.length ≤ i ∧ St i h' ∧ Fr h₀ L h' m ∧ h'.Ns H2.objs.size m' ∧ News h₀ L h' ((s₂.heap.objs.size, LCg.lst ys) :: nw) ∧
        LCg.Off3 I H2.objs.size s₂.heap.objs.size nw ∧ J i ys nw) ?_ (n + 1)
      ⟨h₁, _, 0, [], _, news, rfl, Nat.zero_le _, rfl, Nat.le_refl _, hst₁, F.keeps old, hns₁, fun p hp => ?_, off₀, hJ⟩
    · rintro k s' ⟨h', tk, i, ys, m', nw, rfl, hi, rfl, hyl, hst', F', hn', N', off', J'⟩
      have off3 := off'.mem
      by_cases hlt : i < n
      · refine W.item i _ _ _ hlt hst' fun v h₂ tk₂ hPv hst₂ hk₂ => ?_
        refine wpAny_assign_Name (wpAny_storeName_local (lookup_relabel_local hx) (hn'.at' fun o e => hk₂ _ o (by simpa using Ne.symm hCI) e) (fun h₃ hn₃ hs₃ => ?_) (by simp [compEnvC, relabel, hkind]))
        have hst₃ : St (i + 1) h₃ := W.frame _ _ _ hst₂ fun b hb o e => hs₃.extBut b o (fun q => hCf (by have q' : b = H2.objs.size := q; rw [← q']; exact hb)) e
        obtain ⟨oI, heI⟩ := hIo _ _ hst₃
        obtain ⟨oC, heC, hoC⟩ := LCg.ns_obj hn₃
        have F₃ : Fr h₀ L h₃ m := (LCg.fr_but F' hk₂ hIL hI₀).change hs₃ hCL hC₀
        have N₂ : News h₀ L h₂ ((s₂.heap.objs.size, LCg.lst ys) :: nw) := LCg.news_but N' hk₂ fun p hp => by
          rcases List.mem_cons.mp hp with rfl | hp
          · exact Ne.symm hDI
          · exact (off3 p hp).1
        have N₃ : News h₀ L h₃ ((I, oI) :: (H2.objs.size, oC) :: (s₂.heap.objs.size, LCg.lst ys) :: nw) := fun p hp => by
          rcases List.mem_cons.mp hp with rfl | hp
          · exact ⟨heI, Ne.symm hIL, hI₀⟩
          · rcases List.mem_cons.mp hp with rfl | hp
            · exact ⟨heC, hCL, hC₀⟩
            · have z := N₂ p hp
              refine ⟨hs₃.extBut _ _ ?_ z.1, z.2⟩
              rcases List.mem_cons.mp hp with rfl | hp
              · exact hDC
              · exact (off3 p hp).2.1
        have fin : ∀ (ys' : List Value) (h₄ : Heap) (tk₄ : Nat) (nw₄ : List (Addr × Obj)), Fr h₀ L h₄ m → News h₀ L h₄ ((I, oI) :: (H2.objs.size, oC) :: (s₂.heap.objs.size, LCg.lst ys) :: nw₄) → LCg.Off3 I H2.objs.size s₂.heap.objs.size nw₄ → J (i + 1) ys' nw₄ → St (i + 1) h₄ := by
          intro ys' h₄ tk₄ nw₄ F₄ N₄ off₄ J₄
          refine W.frame _ _ _ hst₃ fun b hb o e => ?_
          by_cases hbI : b = I
          · rw [hbI] at e ⊢
            rw [heI] at e
            exact (N₄ (I, oI) List.mem_cons_self).1.trans e
          · have q3 : h₃.get? b = some (src b) := by
              rcases hS _ _ _ J' b hb hbI with q | q
              · exact F₃.keep _ _ q
              · exact (N₃ _ (List.mem_cons_of_mem _ (List.mem_cons_of_mem _ (List.mem_cons_of_mem _ q)))).1
            have q4 : h₄.get? b = some (src b) := by
              rcases hS _ _ _ J₄ b hb hbI with q | q
              · exact F₄.keep _ _ q
              · exact (N₄ _ (List.mem_cons_of_mem _ (List.mem_cons_of_mem _ (List.mem_cons_of_mem _ q)))).1
            rw [q3] at e
            exact q4.trans e
        refine wpAny_mono (R i v ys nw I oI H2.objs.size oC s₂.heap.objs.size _ h₃ _ _ hlt hPv J' hoC (by simp) F₃ N₃ off' ⟨hCI, hDI, Ne.symm hDC⟩) (fun ok s₄ h₄ => ?_) fun _ _ e => e
        cases ok with
        | true =>
          simp only [if_true] at h₄ ⊢
          refine wpAny_mono h₄ (fun y s₅ h₅ => ?_) fun _ _ e => e
          obtain ⟨h₄, tk₄, nw₄, rfl, F₄, N₄, off₄, J₄⟩ := h₅
          have zC := (N₄ (H2.objs.size, oC) (List.mem_cons_of_mem _ List.mem_cons_self)).1
          have zD := (N₄ (s₂.heap.objs.size, LCg.lst ys) (List.mem_cons_of_mem _ (List.mem_cons_of_mem _ List.mem_cons_self))).1
          have N₄' : News h₀ L h₄ nw₄ := fun p hp => N₄ p (List.mem_cons_of_mem _ (List.mem_cons_of_mem _ (List.mem_cons_of_mem _ hp)))
          have hst₄ : St (i + 1) h₄ := fin _ _ tk₄ _ F₄ N₄ off₄ J₄
          refine append_at (hsz := by show ys.toArray.size ≤ sizeLine; rw [List.size_toArray]; exact Nat.le_trans hyl (Nat.le_trans hi hsz)) zD fun h₅ hs₅ hD₅ => ?_
          have off4 := off₄.mem
          refine ⟨n + 1 - (i + 1), by omega, h₅, tk₄, i + 1, ys ++ [y], _, nw₄, rfl, hlt, rfl, by rw [List.length_append, List.length_singleton]; exact Nat.succ_le_succ hyl, W.frame _ _ _ hst₄ fun b hb o e => hs₅.extBut b o (fun q => hDf (q ▸ hb)) e, F₄.change hs₅ hDL hD₀,
            (hoC.ns zC).sameBut hs₅ (Ne.symm hDC), fun p hp => ?_, off₄, J₄⟩
          rcases List.mem_cons.mp hp with rfl | hp
          · exact ⟨hD₅.trans (congrArg some (LCg.lst_snoc ys y)), hDL, hD₀⟩
          · exact ⟨hs₅.extBut _ _ (off4 p hp).2.2 (N₄' p hp).1, (N₄' p hp).2⟩
        | false =>
          simp only [Bool.false_eq_true, if_false] at h₄ ⊢
          obtain ⟨h₄, tk₄, nw₄, rfl, F₄, N₄, off₄, J₄⟩ := h₄
          have zC := (N₄ (H2.objs.size, oC) (List.mem_cons_of_mem _ List.mem_cons_self)).1
          exact ⟨n + 1 - (i + 1), by omega, h₄, tk₄, i + 1, ys, _, nw₄, rfl, hlt, rfl, Nat.le_succ_of_le hyl, fin _ _ tk₄ _ F₄ N₄ off₄ J₄, F₄, hoC.ns zC, fun p hp => N₄ p (List.mem_cons_of_mem _ (List.mem_cons_of_mem _ hp)), off₄, J₄⟩
      · obtain rfl : i = n := Nat.le_antisymm hi (Nat.not_lt.mp hlt)
        refine W.done _ _ _ hst' fun h₂ tk₂ hk₂ => ?_
        exact hRR _ _ h₂ tk₂ _ ys nw (LCg.fr_but F' hk₂ hIL hI₀) (LCg.news_but N' hk₂ fun p hp => by
          rcases List.mem_cons.mp hp with rfl | hp
          · exact Ne.symm hDI
          · exact (off3 p hp).1) (fun p hp => (off3 p hp).2.2) (hn'.at' fun o e => hk₂ _ o (by simpa using Ne.symm hCI) e) hC₀ hD₀ hCL hDL (Ne.symm hDC) (fun p hp => (off3 p hp).2.1) J'
    · rcases List.mem_cons.mp hp with rfl | hp
      · exact ⟨hacc, hDL, hD₀⟩
      · exact ⟨old _ _ (N p hp).1, (N p hp).2⟩
  exact codeAny_compStart_list (loop _ rfl) (W.self 0 _ _ _ hst₁ (loop _ rfl))

/-- the source of a comprehension, told with all that follows -/
structure SrcJ (prog : Program) (w : World) (A : Around) (E : Value → Shared → Prop) (h₀ : Heap) (L : Addr) (m : Str → Option Value) (env : Env) (elt : Expr) (ifs : List Expr) (x : Str) (scope : Scope) (cl : List (Str × Addr)) (Fin : Shared → List Value → List (Addr × Obj) → Prop) (xv : Value) (s₁ : Shared) : Prop where
  is : ∃ (oi : Obj) (fpl : List Addr) (n : Nat) (P : Nat → Value → Prop) (St : Nat → Heap → Prop) (J : Nat → List Value → List (Addr × Obj) → Prop) (news : List (Addr × Obj)) (src : Addr → Obj),
    (∀ Q' : Value → Shared → Prop, Q' (.ref s₁.heap.objs.size) { s₁ with heap := s₁.heap.push oi } → wpAny (model prog w) A (pyIter xv) Q' E s₁) ∧
    Walks prog w A s₁.heap.objs.size (s₁.heap.objs.size :: fpl) [s₁.heap.objs.size] n P St ∧ n ≤ sizeLine ∧ (∀ i h, St i h → ∃ o, h.get? s₁.heap.objs.size = some o) ∧ St 0 (s₁.heap.push oi) ∧ (∀ b ∈ fpl, b < s₁.heap.objs.size) ∧
    Fr h₀ L s₁.heap m ∧ News h₀ L s₁.heap news ∧ J 0 [] news ∧ (∀ i ys nw, J i ys nw → ∀ b ∈ fpl, h₀.get? b = some (src b) ∨ (b, src b) ∈ nw) ∧
    (∀ g, TurnJ prog w A h₀ L m env elt ifs x scope cl { s₁ with heap := g } n P J) ∧ (∀ ys nw, J n ys nw → Fin s₁ ys nw)

def FinEJ (h₀ : Heap) (L : Addr) (m : Str → Option Value) (Q : Value → Shared → Prop) (s : Shared) (ys : List Value) (nw : List (Addr × Obj)) : Prop :=
  ∀ D h tk, Fr h₀ L h m → News h₀ L h ((D, LCg.lst ys) :: nw) → (∀ p ∈ nw, p.1 ≠ D) → Q (.ref D) { s with heap := h, toks := tk }
def FinAJ (h₀ : Heap) (L : Addr) (m : Str → Option Value) (y : Str) (Q : Flow → Shared → Prop) (s : Shared) (ys : List Value) (nw : List (Addr × Obj)) : Prop :=
  ∀ D h tk, Fr h₀ L h (fun z => if z = y then some (.ref D) else m z) → News h₀ L h ((D, LCg.lst ys) :: nw) → (∀ p ∈ nw, p.1 ≠ D) → Q .next { s with heap := h, toks := tk }

theorem ListComp_J {elt iter : Expr} {x : Str} {px : Pos} {ifs : List Expr} {scope : Scope} {cl : List (Str × Addr)} {pos : Pos} {Q : Value → Shared → Prop} (h₀ : Heap) (L : Addr) (m : Str → Option Value)
    (hclos : closureFor scope env = pure cl) (hcell : ∀ y ∈ scope.names, y.2 ≠ .cell) (hkind : scope.kind = .function)
    (hnames : ∀ y ∈ scope.names, y.2 = .local → scope.names.lookup y.1 = some .local) (hx : scope.names.lookup x = some .local)
    (h : wpAny (model prog w) A (eval iter env) (SrcJ prog w A E h₀ L m env elt ifs x scope cl (FinEJ h₀ L m Q)) E s)
    (hs : ∀ x, foldedSetIterable iter env x = pure x := by intro _; rfl) :
    wpAny (model prog w) A (eval (.ListComp elt [⟨.Name x px, iter, ifs, 0⟩] scope pos) env) Q E s := by
  rw [eval_ListComp]
  refine wpAny_comprehension_free (use := none) rfl hs hclos hkind hnames (wpAny_mono h (fun xv s₁ h₁ => ?_) fun _ _ e => e)
  obtain ⟨oi, fpl, n, P, St, J, news, src, hpy, W, hsz, hIo, hst, hfp, F, N, hj, hS, turn, fin⟩ := h₁
  refine hpy _ ?_
  have up : ∀ b o, s₁.heap.get? b = some o → (s₁.heap.push oi).get? b = some o := fun b o e => Heap.get?_push_of_some _ e
  refine block_J J src W hsz hIo hcell hkind hx hst (fun b hb => ?_) (F.keeps up) (N.grown up) (Nat.ne_of_lt F.ns.lt) (next_is_new F) (fun p hp => Nat.ne_of_lt (Heap.lt_size (N p hp).1)) hj
    (fun i ys nw j b hb hbI => hS i ys nw j b ((List.mem_cons.mp hb).resolve_left hbI)) (turn _) ?_
  · show b < (s₁.heap.push _).objs.size
    rw [Heap.size_push]
    rcases List.mem_cons.mp hb with rfl | hb
    · exact Nat.lt_succ_self _
    · exact Nat.lt_succ_of_lt (hfp b hb)
  · intro D C h tk m' ys nw F' N' o1 hn hC₀ hD₀ hCL hDL hCD offC j
    refine ⟨m', hn, fun h'' hs'' => fin ys nw j D h'' tk (F'.change hs'' hCL hC₀) (fun p hp => ?_) o1⟩
    refine ⟨hs''.extBut _ _ ?_ (N' p hp).1, (N' p hp).2⟩
    rcases List.mem_cons.mp hp with rfl | hp
    · exact Ne.symm hCD
    · exact offC p hp

theorem Assign_ListComp_J {elt iter : Expr} {x y : Str} {px py : Pos} {ifs : List Expr} {scope : Scope} {cl : List (Str × Addr)} {pos spos : Pos} {Q : Flow → Shared → Prop} (h₀ : Heap) (m : Str → Option Value)
    (hsw : swapsWith (.ListComp elt [⟨.Name x px, iter, ifs, 0⟩] scope pos) (some (.Name y py)) spos.line env = pure true)
    (hclos : closureFor scope env = pure cl) (hcell : ∀ z ∈ scope.names, z.2 ≠ .cell) (hkind : scope.kind = .function)
    (hnames : ∀ z ∈ scope.names, z.2 = .local → scope.names.lookup z.1 = some .local) (hx : scope.names.lookup x = some .local)
    (hy : env.kindOf y = some .local) (hp : (env.scope.kind == .class || (env.scope.kind == .module && env.locals != env.globals)) = false)
    (h : wpAny (model prog w) A (eval iter env) (SrcJ prog w A E h₀ env.locals m env elt ifs x scope cl (FinAJ h₀ env.locals m y Q)) E s)
    (hs : ∀ x, foldedSetIterable iter env x = pure x := by intro _; rfl) :
    wpAny (model prog w) A (exec (.Assign [.Name y py] (.ListComp elt [⟨.Name x px, iter, ifs, 0⟩] scope pos) spos) env) Q E s := by
  rw [exec_Assign_Name_used _ _ _ _ hsw]
  refine wpAny_bind (wpAny_standAt (wpAny_bind ?_))
  show wpAny _ A (do let _ ← comprehension (.ListComp elt [⟨.Name x px, iter, ifs, 0⟩] scope pos) scope env _ (newList []) false (eval iter env) (some (assign (.Name y py) env))) _ _ s
  refine wpAny_bind (wpAny_mono (wpAny_comprehension_free (use := some (assign (.Name y py) env)) (Q := fun _ s' => Q .next s') rfl hs hclos hkind hnames
    (wpAny_mono h (fun xv s₁ h₁ => ?_) fun _ _ e => e)) (fun _ s' hq => wpAny_pure (wpAny_pure hq)) fun _ _ e => e)
  obtain ⟨oi, fpl, n, P, St, J, news, src, hpy, W, hsz, hIo, hst, hfp, F, N, hj, hS, turn, fin⟩ := h₁
  refine hpy _ ?_
  have up : ∀ b o, s₁.heap.get? b = some o → (s₁.heap.push oi).get? b = some o := fun b o e => Heap.get?_push_of_some _ e
  refine block_J J src W hsz hIo hcell hkind hx hst (fun b hb => ?_) (F.keeps up) (N.grown up) (Nat.ne_of_lt F.ns.lt) (next_is_new F) (fun p hp => Nat.ne_of_lt (Heap.lt_size (N p hp).1)) hj
    (fun i ys nw j b hb hbI => hS i ys nw j b ((List.mem_cons.mp hb).resolve_left hbI)) (turn _) ?_
  · show b < (s₁.heap.push _).objs.size
    rw [Heap.size_push]
    rcases List.mem_cons.mp hb with rfl | hb
    · exact Nat.lt_succ_self _
    · exact Nat.lt_succ_of_lt (hfp b hb)
  · intro D C h tk m' ys nw F' N' o1 hn hC₀ hD₀ hCL hDL hCD offC j
    show wpAny _ A (assign (.Name y py) env (.ref D)) _ _ _
    refine wpAny_assign_Name (wpAny_storeName_local hy F'.ns (fun h₂ hn₂ hs₂ => ?_) hp)
    have hL₀ : h₀.get? env.locals = none := Heap.get?_none_of_le F'.above
    have F₂ : Fr h₀ env.locals h₂ (fun z => if z = y then some (.ref D) else m z) := ⟨hn₂, fun b o e => hs₂.extBut b o (fun q => by rw [q, hL₀] at e; cases e) (F'.keep b o e), F'.above⟩
    refine ⟨m', hn.sameBut hs₂ hCL, fun h'' hs'' => fin ys nw j D h'' _ (F₂.change hs'' hCL hC₀) (fun p hp => ?_) o1⟩
    have z : h₂.get? p.1 = some p.2 := hs₂.extBut _ _ (N' p hp).2.1 (N' p hp).1
    refine ⟨hs''.extBut _ _ ?_ z, (N' p hp).2⟩
    rcases List.mem_cons.mp hp with rfl | hp
    · exact Ne.symm hCD
    · exact offC p hp

theorem SrcJ.list {elt : Expr} {x : Str} {ifs : List Expr} {scope : Scope} {cl : List (Str × Addr)} {Fin : Shared → List Value → List (Addr × Obj) → Prop} {l : Addr} {ol : Obj} {vs : List Value} {s₁ : Shared}
    (J : Nat → List Value → List (Addr × Obj) → Prop) {news : List (Addr × Obj)} (hh : A.handled = none) (hl : s₁.heap.IsList l vs.toArray) (hol : s₁.heap.get? l = some ol) (hsz : vs.length ≤ sizeLine)
    (F : Fr h₀ L s₁.heap m) (N : News h₀ L s₁.heap news) (hj : J 0 [] news) (hS : h₀.get? l = some ol ∨ ∀ i ys nw, J i ys nw → (l, ol) ∈ nw)
    (turn : ∀ g, TurnJ prog w A h₀ L m env elt ifs x scope cl { s₁ with heap := g } vs.length (fun i v => vs[i]? = some v) J) (fin : ∀ ys nw, J vs.length ys nw → Fin s₁ ys nw) :
    SrcJ prog w A E h₀ L m env elt ifs x scope cl Fin (.ref l) s₁ := by
  have hlt : l < s₁.heap.objs.size := Heap.lt_size hol
  have W := Walks.list (prog := prog) (w := w) hh s₁.heap.objs.size l (Nat.ne_of_lt hlt) vs.toArray
  rw [List.size_toArray] at W
  refine ⟨_, [l], vs.length, _, _, J, news, fun _ => ol, fun Q' hq => wpAny_pyIter_list hl hq, W, hsz, fun i h st => by obtain ⟨o, e, _⟩ := st.1; exact ⟨o, e⟩, ⟨⟨_, Heap.get?_push_size _ rfl, rfl, rfl⟩, hl.at fun o e => Heap.get?_push_of_some _ e⟩,
    (fun b hb => by rw [List.mem_singleton.mp hb]; exact hlt), F, N, hj, (fun i ys nw j b hb => ?_), (fun g => ?_), fin⟩
  · rw [List.mem_singleton.mp hb]
    rcases hS with h | h
    · exact .inl h
    · exact .inr (h i ys nw j)
  · intro i v ys nw I oI C oC D m₂ h tk E' hi hv
    exact turn g i v ys nw I oI C oC D m₂ h tk E' hi (by simpa using hv)

theorem SrcJ.keys {elt : Expr} {x : Str} {ifs : List Expr} {scope : Scope} {cl : List (Str × Addr)} {Fin : Shared → List Value → List (Addr × Obj) → Prop} {K : Type} [DecidableEq K] {knd : KeyKind prog w K} {d : Addr} {od : Obj} {kvs : List (K × Value)} {s₁ : Shared}
    (J : Nat → List Value → List (Addr × Obj) → Prop) {news : List (Addr × Obj)} (hh : A.handled = none) (hd : od.IsDictOf knd kvs) (lo : (d == sysModules) = false) (hod : s₁.heap.get? d = some od) (hsz : kvs.length ≤ sizeLine)
    (F : Fr h₀ L s₁.heap m) (N : News h₀ L s₁.heap news) (hj : J 0 [] news) (hS : h₀.get? d = some od ∨ ∀ i ys nw, J i ys nw → (d, od) ∈ nw)
    (turn : ∀ g, TurnJ prog w A h₀ L m env elt ifs x scope cl { s₁ with heap := g } kvs.length (fun i v => ∃ k y, kvs[i]? = some (k, y) ∧ knd.is k v = true) J) (fin : ∀ ys nw, J kvs.length ys nw → Fin s₁ ys nw) :
    SrcJ prog w A E h₀ L m env elt ifs x scope cl Fin (.ref d) s₁ := by
  have hlt : d < s₁.heap.objs.size := Heap.lt_size hod
  obtain ⟨es, ep, r⟩ := hd
  have hda : s₁.heap.DictAt knd d kvs ep := ⟨od, es, hod, r⟩
  have W := Walks.dictKeys (prog := prog) (w := w) (knd := knd) hh s₁.heap.objs.size d (Nat.ne_of_lt hlt) kvs ep
  refine ⟨_, [d], kvs.length, _, _, J, news, fun _ => od, fun Q' hq => wpAny_pyIter_dict lo hda hq, W, hsz, fun i h st => by obtain ⟨o, e, _⟩ := st.1; exact ⟨o, e⟩, ⟨⟨_, Heap.get?_push_size _ rfl, rfl, rfl⟩, hda.at' fun o e => Heap.get?_push_of_some _ e⟩,
    (fun b hb => by rw [List.mem_singleton.mp hb]; exact hlt), F, N, hj, (fun i ys nw j b hb => ?_), turn, fin⟩
  rw [List.mem_singleton.mp hb]
  rcases hS with h | h
  · exact .inl h
  · exact .inr (h i ys nw j)
end

section
variable {prog : Program} {w : World} {A : Around} {E : Value → Shared → Prop} {s : Shared} {env : Env} {h₀ : Heap} {x : Str} {body : List Stmt} {Q : Flow → Shared → Prop}
/-- what stands where a for's source is told: a dict's keys -/
def SrcKeys (prog : Program) (w : World) (A : Around) (h₀ : Heap) (env : Env) (x : Str) (body : List Stmt) (P : Shared → Prop) {K : Type} [DecidableEq K] (knd : KeyKind prog w K) (xv : Value) (s : Shared) : Prop :=
  ∃ (d : Addr) (kvs : List (K × Value)) (m₀ : Str → Option Value) (news : List (Addr × Obj)) (J : Nat → (Str → Option Value) → List (Addr × Obj) → Prop),
    xv = .ref d ∧ s.heap.DictOf knd d kvs ∧ (d == sysModules) = false ∧ d ≠ env.locals ∧ (∀ p ∈ news, p.1 ≠ d) ∧ Fr h₀ env.locals s.heap m₀ ∧ News h₀ env.locals s.heap news ∧ J 0 m₀ news ∧
    (∀ i k y v m₁ news₁ h tk own, kvs[i]? = some (k, y) → knd.is k v = true → news₁.map (·.1) = news.map (·.1) → OwnOff own (news.map (·.1)) → J i m₁ news₁ → Fr h₀ env.locals h (fun y => if y = x then some v else m₁ y) → News h₀ env.locals h (news₁ ++ own) →
      wpAny (model prog w) A (execs body env) (InvPostN h₀ env.locals (J (i + 1)) own (news.map (·.1)) { s with heap := h, toks := tk } (fun f s' => f = .next ∧ P s')) (fun _ _ => False) { s with heap := h, toks := tk }) ∧
    ∀ m₁ news₁ h tk, J kvs.length m₁ news₁ → Fr h₀ env.locals h m₁ → News h₀ env.locals h news₁ → P { s with heap := h, toks := tk }

theorem For_keys {px pos : Pos} {iter : Expr} {K : Type} [DecidableEq K] (knd : KeyKind prog w K) (P : Shared → Prop) (hh : A.handled = none) (hx : env.kindOf x = some .local)
    (hp : (env.scope.kind == .class || (env.scope.kind == .module && env.locals != env.globals)) = false)
    (h : wpAny (model prog w) A (eval iter env) (SrcKeys prog w A h₀ env x body P knd) (fun _ _ => False) s) (rest : ∀ s', P s' → Q .next s')
    (hs : ∀ x, foldedSetIterable iter env x = pure x := by intro _; rfl) :
    wpAny (model prog w) A (exec (.For (.Name x px) iter body [] pos) env) Q E s := by
  refine wpAny_mono (For_invV (Q := fun f s' => f = .next ∧ P s') (E := fun _ _ => False) h₀ hx hp (wpAny_mono h (fun xv s₁ hv => ?_) fun _ _ e => e) hs PassesOwn.never) (fun f s' h => h.1 ▸ rest _ h.2) (fun _ _ h => h.elim)
  obtain ⟨d, kvs, m₀, news, J, rfl, hd, lo, hne, hnl, F, N, hj, turn, done⟩ := hv
  obtain ⟨od, es, ep, hod, r⟩ := hd
  have hda : s₁.heap.DictAt knd d kvs ep := ⟨od, es, hod, r⟩
  have hlt : d < s₁.heap.objs.size := Heap.lt_size hod
  have W := Walks.dictKeys (prog := prog) (w := w) (knd := knd) hh s₁.heap.objs.size d (Nat.ne_of_lt hlt) kvs ep
  refine iter_walk J (fun Q' hq => wpAny_pyIter_dict lo hda hq) W ⟨⟨_, Heap.get?_push_size _ rfl, rfl, rfl⟩, hda.at' fun o e => Heap.get?_push_of_some _ e⟩ hne hnl F N hj
    (fun i v m₁ news₁ h tk own hi hv => by obtain ⟨k, y, e1, e2⟩ := hv; exact turn i k y v m₁ news₁ h tk own e1 e2) (fun m₁ news₁ h tk j F₁ N₁ => ⟨rfl, done m₁ news₁ h tk j F₁ N₁⟩)
end
section
variable {prog : Program} {w : World} {A : Around} {E : Value → Shared → Prop} {s : Shared} {env : Env} {h₀ : Heap} {x : Str} {body : List Stmt} {Q : Flow → Shared → Prop}
/-- what stands where a for's source is told: a range from nought -/
def SrcRange (prog : Program) (w : World) (A : Around) (h₀ : Heap) (env : Env) (x : Str) (body : List Stmt) (P : Shared → Prop) (xv : Value) (s : Shared) : Prop :=
  ∃ (r : Addr) (n : Nat) (t u t' : Tok) (m₀ : Str → Option Value) (news : List (Addr × Obj)) (J : Nat → (Str → Option Value) → List (Addr × Obj) → Prop),
    xv = .ref r ∧ IsRange s.heap r 0 n 1 t u t' ∧ n ≤ 1000 ∧ Fr h₀ env.locals s.heap m₀ ∧ News h₀ env.locals s.heap news ∧ J 0 m₀ news ∧
    (∀ i t m₁ news₁ h tk own, i < n → news₁.map (·.1) = news.map (·.1) → OwnOff own (news.map (·.1)) → J i m₁ news₁ → Fr h₀ env.locals h (fun y => if y = x then some (.int (i : Int) t) else m₁ y) → News h₀ env.locals h (news₁ ++ own) →
      wpAny (model prog w) A (execs body env) (InvPostN h₀ env.locals (J (i + 1)) own (news.map (·.1)) { s with heap := h, toks := tk } (fun f s' => f = .next ∧ P s')) (fun _ _ => False) { s with heap := h, toks := tk }) ∧
    ∀ m₁ news₁ h tk, J n m₁ news₁ → Fr h₀ env.locals h m₁ → News h₀ env.locals h news₁ → P { s with heap := h, toks := tk }

theorem For_range {px pos : Pos} {iter : Expr} (P : Shared → Prop) (hh : A.handled = none) (hx : env.kindOf x = some .local)
    (hp : (env.scope.kind == .class || (env.scope.kind == .module && env.locals != env.globals)) = false)
    (h : wpAny (model prog w) A (eval iter env) (SrcRange prog w A h₀ env x body P) (fun _ _ => False) s) (rest : ∀ s', P s' → Q .next s')
    (hs : ∀ x, foldedSetIterable iter env x = pure x := by intro _; rfl) :
    wpAny (model prog w) A (exec (.For (.Name x px) iter body [] pos) env) Q E s := by
  refine wpAny_mono (For_invV (Q := fun f s' => f = .next ∧ P s') (E := fun _ _ => False) h₀ hx hp (wpAny_mono h (fun xv s₁ hv => ?_) fun _ _ e => e) hs PassesOwn.never) (fun f s' h => h.1 ▸ rest _ h.2) (fun _ _ h => h.elim)
  obtain ⟨r, n, t, u, t', m₀, news, J, rfl, hr, hn, F, N, hj, turn, done⟩ := hv
  have W0 := LCg.range_walks (prog := prog) (w := w) (I := s₁.heap.objs.size) hh 0 n
  have W : Walks prog w A s₁.heap.objs.size [s₁.heap.objs.size, s₁.heap.objs.size] [s₁.heap.objs.size] n (fun i v => ∃ t, v = .int (0 + (i : Int)) t) (fun i h => IsRangeIter h s₁.heap.objs.size (0 + (i : Nat) * 1) ((n : Int) - (i : Nat)) 1) :=
    { sub := fun b hb => .tail _ hb, frame := fun i h h' st k => W0.frame i h h' st fun b hb => k b (.tail _ hb), item := W0.item, done := W0.done, self := W0.self }
  have hsz : Builtin.Range.rangeSize 0 n 1 = n := by
    have := rangeSize_nat 0 n
    simpa using this
  refine iter_walk J (fun Q' hq => wpAny_pyIter_range hr (small_one (by omega) (by omega) (by omega) (by omega)) (by rw [hsz]; exact hq)) W ?_ (Nat.ne_of_gt F.ns.lt) (fun p hp => Nat.ne_of_lt (Heap.lt_size (N p hp).1)) F N hj
    (fun i v m₁ news₁ h tk own hi hv => by obtain ⟨t, rfl⟩ := hv; rw [Int.zero_add]; exact turn i t m₁ news₁ h tk own hi) (fun m₁ news₁ h tk j F₁ N₁ => ⟨rfl, done m₁ news₁ h tk j F₁ N₁⟩)
  show IsRangeIter _ _ _ _ _
  simpa using Heap.get?_push_size _ rfl
end


theorem item_at {x : Str} {i : Int} {c : Nat} (h0 : 0 ≤ i) (h : x.cps.toList[i.toNat]? = some c) : Txt.item x i = ⟨#[c]⟩ := by
  unfold Txt.item Txt.charAt
  rw [StrLaws.at_nonneg h0 (by rwa [← Array.getElem?_toList])]
  rfl

theorem len_toList (x : Str) : x.length = x.cps.toList.length := by
  show x.cps.size = _
  simp

theorem slice_from {x : Str} {i : Int} (h0 : 0 ≤ i) (h : i ≤ x.length) : Txt.slice x (some i) none = ⟨(x.cps.toList.drop i.toNat).toArray⟩ := by
  have e : Txt.slice x (some i) none = StrLaws.sliceText x (some i) none := rfl
  rw [len_toList] at h
  rw [e, StrLaws.sliceText_from ⟨h0, h⟩]
  congr 2
  apply List.take_of_length_le
  simp only [List.length_drop]
  omega

theorem blank_is : Str.ofString " " = (⟨#[32]⟩ : Str) := by decide +kernel

theorem one_beq (a b : Nat) : ((⟨#[a]⟩ : Str) == ⟨#[b]⟩) = (a == b) := by
  by_cases h : a = b
  · subst h; simp
  · have : ¬ (⟨#[a]⟩ : Str) = ⟨#[b]⟩ := fun e => h (by injection e with e; simpa using e)
    rw [beq_eq_false_iff_ne.mpr this, beq_eq_false_iff_ne.mpr h]

theorem one_lt (a b : Nat) : decide ([a] < [b]) = decide (a < b) := by
  rw [StrLaws.lt_cons_cons]
  simp
theorem zero_is : (Str.ofString "0").cps.toList = [48] := by decide +kernel
theorem nine_is : (Str.ofString "9").cps.toList = [57] := by decide +kernel
theorem one_lt' (a b : Nat) : ([a] : List Nat) < [b] ↔ a < b := by
  have := one_lt a b
  simpa using this

theorem takeWhile_stop_le {α : Type} (p : α → Bool) (c : α) (h : p c = false) : ∀ a : List α, ((a ++ [c]).takeWhile p).length ≤ a.length
  | [] => by simp [h]
  | x :: r => by
    rw [List.cons_append, List.takeWhile_cons]
    have := takeWhile_stop_le p c h r
    split
    · rw [List.length_cons, List.length_cons]; omega
    · simp
theorem drop_takeWhile {α : Type} (p : α → Bool) : ∀ l : List α, l.drop (l.takeWhile p).length = l.dropWhile p
  | [] => rfl
  | x :: r => by
    rw [List.takeWhile_cons, List.dropWhile_cons]
    split
    · rw [List.length_cons, List.drop_succ_cons, drop_takeWhile p r]
    · rfl
theorem dropWhile_or {α : Type} (p : α → Bool) : ∀ l : List α, (l.all p = true ∧ l.dropWhile p = []) ∨ (l.all p = false ∧ ∃ c r, l.dropWhile p = c :: r ∧ p c = false)
  | [] => .inl ⟨rfl, rfl⟩
  | x :: r => by
    rw [List.dropWhile_cons, List.all_cons]
    cases h : p x with
    | true => simpa using dropWhile_or p r
    | false => exact .inr ⟨rfl, x, r, by simp, h⟩
theorem empty_is : Str.ofString "" = (⟨#[]⟩ : Str) := by decide +kernel
theorem strip_blank (x : Str) : (Txt.stripChars x (Str.ofString " ") == Str.ofString "") = x.cps.toList.all (· == 32) := by
  unfold Txt.stripChars
  rw [PyProof.Rows.stripBy_eq, blank_is, empty_is]
  have eg : ∀ c : Nat, (#[32] : Array Nat).contains c = (c == 32) := by
    intro c
    simp [Array.contains, eq_comm]
  have efun : (fun c : Nat => (#[32] : Array Nat).contains c) = fun c => c == 32 := funext eg
  show (Builtin.Str.strSub x (stripLo (fun c => (#[32] : Array Nat).contains c) true x) (stripHi (fun c => (#[32] : Array Nat).contains c) true x (stripLo (fun c => (#[32] : Array Nat).contains c) true x)) == _) = _
  rw [efun]
  have key : ∀ a : Str, (a == (⟨#[]⟩ : Str)) = a.cps.toList.isEmpty := by
    intro a
    by_cases h : a = ⟨#[]⟩
    · subst h; rfl
    · rw [beq_eq_false_iff_ne.mpr h]
      symm
      rw [List.isEmpty_eq_false_iff]
      intro e
      apply h
      obtain ⟨b⟩ := a
      have : b = #[] := by simpa using e
      rw [this]
  rw [key, StrLaws.strSub_toList]
  simp only [stripLo, stripHi, if_true]
  rw [drop_takeWhile]
  rcases dropWhile_or (fun c : Nat => c == 32) x.cps.toList with ⟨h1, h2⟩ | ⟨h1, c, r, h2, h3⟩
  · rw [h1, h2]; simp
  · rw [h1, h2]
    have hl : (x.cps.toList.takeWhile (fun c => c == 32)).length + (c :: r).length = x.cps.toList.length := by
      have := drop_takeWhile (fun c : Nat => c == 32) x.cps.toList
      rw [h2] at this
      have e := congrArg List.length this
      rw [List.length_drop] at e
      have : (x.cps.toList.takeWhile (fun c => c == 32)).length ≤ x.cps.toList.length := takeWhile_len_le _ _
      omega
    have hr : ((c :: r).reverse.takeWhile (fun c => c == 32)).length ≤ r.length := by
      rw [List.reverse_cons]
      have := takeWhile_stop_le (fun c : Nat => c == 32) c h3 r.reverse
      simpa using this
    rw [len_toList]
    simp only [List.length_cons] at hl
    rw [List.isEmpty_eq_false_iff]
    intro e
    have e2 := congrArg List.length e
    rw [List.length_take] at e2
    simp only [List.length_cons, List.length_nil] at e2
    omega

/-- the text of a value -/
def strOf : Value → Str
  | .str s _ => s
  | _ => ⟨#[]⟩
def proj {K : Type} (kvs : List (K × Value)) : List (K × Str) := kvs.map fun p => (p.1, strOf p.2)
def AllStr {K : Type} (kvs : List (K × Value)) : Prop := ∀ p ∈ kvs, ∃ s t, p.2 = .str s t
def put {K V : Type} [DecidableEq K] (P : List (K × V)) (k : K) (s : V) : List (K × V) := if P.any (fun p => p.1 = k) then P.map (fun p => if p.1 = k then (p.1, s) else p) else P ++ [(k, s)]
def del {K V : Type} [DecidableEq K] (P : List (K × V)) (k : K) : List (K × V) := P.filter fun p => decide (p.1 ≠ k)
def at' {K V : Type} [DecidableEq K] (P : List (K × V)) (k : K) : Option V := (P.find? fun p => p.1 = k).map (·.2)

section
variable {K : Type} [DecidableEq K] {kvs : List (K × Value)} {k : K} {s : Str} {t : Tok} {v : Value}
theorem AllStr.nil : AllStr ([] : List (K × Value)) := fun _ h => nomatch h
theorem AllStr.stored (a : AllStr kvs) : AllStr (stored kvs k (.str s t)) := by
  unfold PySem.stored
  split
  · intro p hp
    obtain ⟨q, hq, rfl⟩ := List.mem_map.mp hp
    split
    · exact ⟨s, t, rfl⟩
    · exact a q hq
  · intro p hp
    rcases List.mem_append.mp hp with hp | hp
    · exact a p hp
    · rw [List.mem_singleton.mp hp]; exact ⟨s, t, rfl⟩
theorem AllStr.without (a : AllStr kvs) : AllStr (without kvs k) := fun p hp => a p ((List.mem_filter.mp hp).1)
theorem proj_stored : proj (stored kvs k (.str s t)) = put (proj kvs) k s := by
  unfold PySem.stored put proj
  have e : (kvs.map fun p => (p.1, strOf p.2)).any (fun p => decide (p.1 = k)) = kvs.any fun kv => decide (kv.1 = k) := by
    rw [List.any_map]; rfl
  rw [e]
  split
  · rw [List.map_map, List.map_map]
    refine List.map_congr_left fun p _ => ?_
    by_cases h : p.1 = k
    · simp [h, strOf]
    · simp [h]
  · simp [strOf]
theorem proj_without : proj (without kvs k) = del (proj kvs) k := by
  unfold PySem.without del proj
  rw [List.filter_map]
  rfl
theorem at_proj : at' (proj kvs) k = (valueAt kvs k).map strOf := by
  unfold at' proj valueAt
  rw [List.find?_map]
  have : (fun p : K × Str => decide (p.1 = k)) ∘ (fun p : K × Value => (p.1, strOf p.2)) = fun p => decide (p.1 = k) := rfl
  rw [this]
  cases List.find? (fun p : K × Value => decide (p.1 = k)) kvs <;> rfl
theorem keys_proj : (proj kvs).map (·.1) = kvs.map (·.1) := by
  unfold proj; rw [List.map_map]; rfl
theorem len_proj : (proj kvs).length = kvs.length := by simp [proj]
theorem AllStr.at (a : AllStr kvs) (h : valueAt kvs k = some v) : ∃ t, v = .str (strOf v) t := by
  unfold valueAt at h
  cases hf : kvs.find? fun kv => decide (kv.1 = k) with
  | none => rw [hf] at h; cases h
  | some p =>
    rw [hf] at h
    cases h
    obtain ⟨s, t, e⟩ := a p (List.mem_of_find?_eq_some hf)
    exact ⟨t, by show p.2 = .str (strOf p.2) t; rw [e]; rfl⟩
end

section
variable {V : Type} {K : Type} [DecidableEq K] {P : List (K × V)} {k j : K} {s : V}
theorem any_key : P.any (fun p => decide (p.1 = k)) = decide (k ∈ P.map (·.1)) := by
  induction P with
  | nil => rfl
  | cons p r ih => simp only [List.any_cons, ih, List.map_cons, List.mem_cons, eq_comm (a := k), Bool.decide_or]
theorem keys_put : (put P k s).map (·.1) = if k ∈ P.map (·.1) then P.map (·.1) else P.map (·.1) ++ [k] := by
  unfold put
  rw [any_key]
  by_cases h : k ∈ P.map (·.1)
  · simp only [h, decide_true, if_true, List.map_map]
    refine List.map_congr_left fun p _ => ?_
    by_cases e : p.1 = k <;> simp [e]
  · simp only [h, decide_false, Bool.false_eq_true, if_false, List.map_append, List.map_cons, List.map_nil]
theorem at_nil : at' ([] : List (K × V)) k = none := rfl
theorem at_cons {a : K} {v : V} : at' ((a, v) :: P) k = if a = k then some v else at' P k := by
  unfold at'
  rw [List.find?_cons]
  by_cases h : a = k <;> simp [h]
theorem at_append {P' : List (K × V)} : at' (P ++ P') k = (at' P k).or (at' P' k) := by
  induction P with
  | nil => rfl
  | cons p r ih =>
    obtain ⟨a, v⟩ := p
    rw [List.cons_append, at_cons, at_cons]
    split
    · rfl
    · exact ih
theorem at_none : at' P k = none ↔ k ∉ P.map (·.1) := by
  induction P with
  | nil => simp [at_nil]
  | cons p r ih =>
    obtain ⟨a, v⟩ := p
    rw [at_cons]
    by_cases h : a = k
    · simp [h]
    · simp [h, ih, eq_comm (a := k)]
theorem at_put : at' (put P k s) j = if k = j then some s else at' P j := by
  unfold put
  rw [any_key]
  by_cases h : k ∈ P.map (·.1)
  · simp only [h, decide_true, if_true]
    have : ∀ l : List (K × V), at' (l.map fun p => if p.1 = k then (p.1, s) else p) j = if k = j then (if j ∈ l.map (·.1) then some s else none) else at' l j := by
      intro l
      induction l with
      | nil => simp [at_nil]
      | cons p r ih =>
        obtain ⟨a, v⟩ := p
        rw [List.map_cons]
        by_cases h1 : a = k
        · subst h1
          rw [if_pos rfl, at_cons, at_cons, ih]
          by_cases h2 : a = j
          · simp [h2]
          · simp [h2]
        · rw [if_neg h1, at_cons, at_cons, ih]
          by_cases h2 : k = j
          · subst h2
            have : k ≠ a := fun e => h1 e.symm
            rw [if_neg h1, if_pos rfl, if_pos rfl, List.map_cons]
            have e : (k ∈ a :: List.map (·.1) r) ↔ k ∈ List.map (·.1) r := by rw [List.mem_cons]; exact ⟨fun h => h.resolve_left this, .inr⟩
            simp only [e]
          · simp [h2]
    rw [this]
    by_cases h2 : k = j
    · subst h2; simp [h]
    · simp [h2]
  · simp only [h, decide_false, Bool.false_eq_true, if_false]
    rw [at_append, at_cons, at_nil]
    by_cases h2 : k = j
    · subst h2; rw [at_none.mpr h]; simp
    · simp [h2]
theorem nodup_put (n : (P.map (·.1)).Nodup) : ((put P k s).map (·.1)).Nodup := by
  rw [keys_put]
  split
  · exact n
  · rename_i h
    rw [List.nodup_append]
    refine ⟨n, by simp, ?_⟩
    intro a ha b hb
    rw [List.mem_singleton.mp hb]
    exact fun e => h (e ▸ ha)
theorem nodup_del (n : (P.map (·.1)).Nodup) : ((del P k).map (·.1)).Nodup := by
  unfold del
  exact n.sublist ((List.filter_sublist).map _)
theorem len_put : (put P k s).length ≤ P.length + 1 := by
  unfold put; split <;> simp
theorem len_del : (del P k).length ≤ P.length := List.length_filter_le _ _
end

section
variable {prog : Program} {w : World} {K : Type} [DecidableEq K] {knd : KeyKind prog w K} {A : Around} {E : Value → Shared → Prop} {s : Shared} {h₀ : Heap} {L d : Addr} {m : Str → Option Value}
  {news : List (Addr × Obj)} {g : Obj → List (Addr × Obj)} {kvs : List (K × Value)} {o : Obj} {k : K} {key dflt : Value}
/-- pop with a default, whatever the dict holds -/
theorem pop_pairs {Q : Value → Shared → Prop} (hkey : knd.is k key = true) (hpart : (keyPart key).isSome = true) (hargs : argsOk "dict.pop" ⟨[.ref d, key, dflt], []⟩) (lo : (d == sysModules) = false)
    (F : Fr h₀ L s.heap m) (N : News h₀ L s.heap news) (U : UpdF d o news g) (hd : o.IsDictOf knd kvs)
    (h : ∀ h' o' v, Fr h₀ L h' m → News h₀ L h' (g o') → o'.IsDictOf knd (without kvs k) → Q v { s with heap := h', toks := s.toks + 1 })
    (hsz : kvs.length ≤ sizeLine) : wpAny (model prog w) A (call (.builtin "dict.pop") [.ref d, key, dflt]) Q E s := by
  obtain ⟨pre, post, rfl, hg, a, b⟩ := U.split
  have hm := N (d, o) (List.mem_append_right _ (.head _))
  have hD : s.heap.DictOf knd d kvs := Heap.dictOf_iff.mpr ⟨o, hm.1, hd⟩
  cases hv : valueAt kvs k with
  | none =>
    refine call_meetsIn PySem.F.slot_dict_pop hD.typeIs PySem.F.entry_dict_pop hargs (meets_dict_pop_default knd d hkey lo hpart dflt) ⟨kvs, hD, hv, ?_⟩
    have e : without kvs k = kvs := without_of_not_mem _ _ fun hk => by
      obtain ⟨p, hp, rfl⟩ := List.mem_map.mp hk
      unfold valueAt at hv
      rw [Option.map_eq_none_iff, List.find?_eq_none] at hv
      exact absurd (hv p hp) (by simp)
    exact h s.heap o dflt F (hg o ▸ N) (by rw [e]; exact hd)
  | some v =>
    refine call_meetsIn PySem.F.slot_dict_pop hD.typeIs PySem.F.entry_dict_pop hargs (meets_dict_pop_there knd d hkey [dflt] (.inr ⟨_, rfl⟩) hpart) ?_
    refine ⟨kvs, v, hD, hsz, hv, fun h' hmm hs => ?_⟩
    obtain ⟨o', ho', hd'⟩ := Heap.dictOf_iff.mp hmm
    exact h h' o' v (F.change hs hm.2.1 hm.2.2) (hg o' ▸ N.setIn a b hs ho') hd'
end


/-- the rows that the law knows: blanks, figures, then nothing or what does not begin with a figure -/
structure RowIs (x : Str) (k : Nat) (ds rest : List Nat) : Prop where
  is : x.cps.toList = List.replicate k 32 ++ (ds ++ rest)
  fig : ∀ d ∈ ds, 48 ≤ d ∧ d ≤ 57
  ne : ds ≠ []
  few : ds.length ≤ 5
  off : ∀ c, rest.head? = some c → ¬ (48 ≤ c ∧ c ≤ 57)
/-- a row behind its number: one blank goes -/
def unblank (rest : List Nat) : List Nat := match rest with
  | 32 :: r => r
  | r => r
def numOf (ds : List Nat) : Int := ds.foldl (fun (n : Int) (d : Nat) => 10 * n + (d : Int) - 48) (0 : Int)

theorem RowIs.len {x : Str} {k : Nat} {ds rest : List Nat} (r : RowIs x k ds rest) : x.length = k + ds.length + rest.length := by
  rw [len_toList, r.is]; simp; omega
theorem RowIs.blank {x : Str} {k : Nat} {ds rest : List Nat} (r : RowIs x k ds rest) {i : Int} (h0 : 0 ≤ i) (h : i < k) : Txt.item x i = ⟨#[32]⟩ := by
  refine item_at h0 ?_
  rw [r.is, List.getElem?_append_left (by simp; omega), List.getElem?_replicate_of_lt (by omega)]
theorem RowIs.figure {x : Str} {k : Nat} {ds rest : List Nat} (r : RowIs x k ds rest) {j : Nat} (h : j < ds.length) {i : Int} (hi : i = k + j) : Txt.item x i = ⟨#[ds[j]]⟩ := by
  refine item_at (by omega) ?_
  have : i.toNat = k + j := by omega
  rw [r.is, List.getElem?_append_right (by simp; omega), List.length_replicate, this, Nat.add_sub_cancel_left, List.getElem?_append_left h, List.getElem?_eq_getElem h]
theorem RowIs.behind {x : Str} {k : Nat} {ds rest : List Nat} (r : RowIs x k ds rest) {i : Int} (hi : i = k + ds.length) {c : Nat} (h : rest.head? = some c) : Txt.item x i = ⟨#[c]⟩ := by
  refine item_at (by omega) ?_
  have : i.toNat = k + ds.length := by omega
  rw [r.is, List.getElem?_append_right (by simp; omega), List.length_replicate, this, Nat.add_sub_cancel_left, List.getElem?_append_right (Nat.le_refl _), Nat.sub_self]
  rw [← h]; cases rest <;> rfl


/-- a row of a text -/
inductive RowD where
  | blank (n : Nat)
  | row (k : Nat) (ds rest : List Nat)
def RowD.cps : RowD → List Nat
  | .blank n => List.replicate n 32
  | .row k ds rest => List.replicate k 32 ++ (ds ++ rest)
def RowD.str (r : RowD) : Str := ⟨r.cps.toArray⟩
def RowD.Ok : RowD → Prop
  | .blank n => n ≤ 1000
  | .row k ds rest => RowIs (RowD.row k ds rest).str k ds rest ∧ numOf ds ≤ 65529 ∧ (RowD.row k ds rest).str.length ≤ 1000

theorem RowD.Ok.len {r : RowD} (h : r.Ok) : r.str.length ≤ 1000 := by
  cases r with
  | blank n =>
    have : n ≤ 1000 := h
    simpa [len_toList, RowD.str, RowD.cps] using this
  | row k ds rest => exact h.2.2
def isBlank (l : List Nat) : Bool := l.all (· == 32)
def loadStep (P : List (Int × Str)) : RowD → List (Int × Str)
  | .blank _ => P
  | .row _ ds rest => if isBlank (unblank rest) then del P (numOf ds) else put P (numOf ds) ⟨(unblank rest).toArray⟩

/-- the new thing of a call onto the ledger -/
theorem news_add {h₀ h h' : Heap} {L a : Addr} {m : Str → Option Value} {news : List (Addr × Obj)} {o : Obj} (F : Fr h₀ L h m) (N : News h₀ L h news) (k : ∀ b o, h.get? b = some o → h'.get? b = some o)
    (hn : h.get? a = none) (ha : h'.get? a = some o) : Fr h₀ L h' m ∧ News h₀ L h' ((a, o) :: news) ∧ ∀ p ∈ news, p.1 ≠ a := by
  refine ⟨F.keeps k, fun p hp => ?_, fun p hp e => ?_⟩
  · rcases List.mem_cons.mp hp with rfl | hp
    · refine ⟨ha, ?_, ?_⟩
      · rintro rfl
        obtain ⟨oL, _, _, hL, _⟩ := F.ns
        rw [hn] at hL; cases hL
      · cases q : h₀.get? a with
        | none => rfl
        | some ob => rw [F.keep _ _ q] at hn; cases hn
    · exact ⟨k _ _ (N p hp).1, (N p hp).2⟩
  · have := (N p hp).1
    rw [e, hn] at this; cases this

theorem blank_row {r : RowD} (h : r.Ok) (e : r.cps.all (· == 32) = true) : ∃ n, r = .blank n := by
  cases r with
  | blank n => exact ⟨n, rfl⟩
  | row k ds rest =>
    exfalso
    have hr := h.1
    obtain ⟨d, hd⟩ := List.exists_mem_of_ne_nil _ hr.ne
    have := hr.fig d hd
    have e2 := List.all_eq_true.mp e d (by simp [RowD.cps, hd])
    simp at e2
    omega
theorem not_blank {n : Nat} : (RowD.blank n).cps.all (· == 32) = true := by simp [RowD.cps]
theorem RowD.toList (r : RowD) : r.str.cps.toList = r.cps := by simp [RowD.str]
theorem take_succ_foldl {α β : Type} {f : β → α → β} {b : β} {l : List α} {i : Nat} (h : i < l.length) : (l.take (i + 1)).foldl f b = f ((l.take i).foldl f b) l[i] := by
  rw [List.take_add_one, List.getElem?_eq_getElem h, List.foldl_append]
  rfl
/-- a program of texts lies at an address -/
def ProgAt (prog : Program) (w : World) (h : Heap) (a : Addr) (P : List (Int × Str)) : Prop := (a == sysModules) = false ∧ ∃ kvs, h.DictOf (intKind prog w) a kvs ∧ AllStr kvs ∧ proj kvs = P
theorem ProgAt.keep {prog : Program} {w : World} {h h' : Heap} {a : Addr} {P : List (Int × Str)} (p : ProgAt prog w h a P) (k : ∀ b o, h.get? b = some o → h'.get? b = some o) : ProgAt prog w h' a P := by
  obtain ⟨lo, kvs, hd, r⟩ := p
  exact ⟨lo, kvs, hd.keep k, r⟩

section
variable {prog : Program} {w : World} {A : Around} {E : Value → Shared → Prop} {s : Shared} {h₀ : Heap} {L d : Addr} {m : Str → Option Value} {news : List (Addr × Obj)} {Q : Value → Shared → Prop}
theorem keys_ints {kvs : List (Int × Value)} {vs : List Value} (hl : vs.length = kvs.length) (h : ∀ (j : Nat) (v : Value), vs[j]? = some v → ∃ k x, kvs[j]? = some (k, x) ∧ (intKind prog w).is k v = true) : IntsAre vs (kvs.map (·.1)) := by
  refine kdy_ints (by simp [hl]) fun j v hv => ?_
  obtain ⟨k, x, e, hk⟩ := h j v hv
  obtain ⟨t, rfl⟩ := Value.isInt_shape hk
  exact ⟨k, by simp [e], t, rfl⟩
theorem sorted_dict {kvs : List (Int × Value)} (hh : A.handled = none) (F : Fr h₀ L s.heap m) (N : News h₀ L s.heap news) (hd : s.heap.DictOf (intKind prog w) d kvs) (lo : (d == sysModules) = false) (hn : kvs.length < 64)
    (h : ∀ (D : Addr) (h' : Heap) (tk : Nat) (vs : List Value) (ns : List Int) (e : Nat), Fr h₀ L h' m → News h₀ L h' ((D, listOf vs.toArray e) :: news) → (∀ q ∈ news, q.1 ≠ D) → IntsAre vs ns → ns.Perm (kvs.map (·.1)) → ns.Pairwise (· ≤ ·) → Q (.ref D) { s with heap := h', toks := tk }) :
    wpAny (model prog w) A (call (.builtin "sorted") [.ref d]) Q E s := by
  obtain ⟨ep, hat⟩ := hd.dictAt
  refine kdu_sorted (kdl_dict (knd := intKind prog w) (kvs := kvs) (ep := ep) lo) hh F N hat (by rw [sizeLine_eq]; omega) fun D h' tk vs F' N' l1 hl hv => ?_
  have hi := keys_ints hl hv
  have ho : h'.get? D = some (seqObj "list" vs.toArray 0) := (N' _ List.mem_cons_self).1
  refine wpAny_call_entry PyProof.Rows.slot_list_sort ⟨_, ho, rfl⟩ PyProof.Rows.entry_list_sort (list_sort_tree (n := 0) (vs := vs) ho hi (by omega) fun out ns' hI hp hP => ⟨.none, rfl, ?_⟩) (PyProof.Rows.args_list_sort _)
  obtain ⟨e, he⟩ := sortedHeap_at (out := out) ho
  have k : ∀ b o, b ≠ D → h'.get? b = some o → (sortedHeap h' D vs out).get? b = some o := fun b o hb e => (sortedHeap_old hb (Heap.lt_size e)).trans e
  have z := N' _ List.mem_cons_self
  have F2 : Fr h₀ L (sortedHeap h' D vs out) m := by
    refine ⟨F'.ns.at' fun o e => k _ o (fun q => z.2.1 q.symm) e, fun b o e => k b o ?_ (F'.keep b o e), F'.above⟩
    rintro rfl
    rw [z.2.2] at e
    cases e
  refine h D _ _ out.toList ns' e F2 (fun p hp => ?_) (fun q hq => Nat.ne_of_lt (l1 q hq)) hI hp hP
  rcases List.mem_cons.mp hp with rfl | hp
  · refine ⟨?_, z.2⟩
    rw [Array.toArray_toList]
    exact he
  · exact ⟨k _ _ (Nat.ne_of_lt (l1 p hp)) (N' p (List.mem_cons_of_mem _ hp)).1, (N' p (List.mem_cons_of_mem _ hp)).2⟩
theorem list_dict {kvs : List (Int × Value)} (hh : A.handled = none) (F : Fr h₀ L s.heap m) (N : News h₀ L s.heap news) (hd : s.heap.DictOf (intKind prog w) d kvs) (lo : (d == sysModules) = false) (hn : kvs.length < 64)
    (h : ∀ (D : Addr) (h' : Heap) (tk : Nat) (vs : List Value) (e : Nat), Fr h₀ L h' m → News h₀ L h' ((D, listOf vs.toArray e) :: news) → (∀ q ∈ news, q.1 ≠ D) → IntsAre vs (kvs.map (·.1)) → Q (.ref D) { s with heap := h', toks := tk }) :
    wpAny (model prog w) A (call (.type "list") [.ref d]) Q E s := by
  obtain ⟨ep, hat⟩ := hd.dictAt
  exact kdl_N (kdl_dict (knd := intKind prog w) (kvs := kvs) (ep := ep) lo) hh F N hat (by rw [sizeLine_eq]; omega) fun D c h' tk vs F' N' l1 hl hv => h D h' tk vs c F' N' (fun q hq => Nat.ne_of_lt (l1 q hq)) (keys_ints hl hv)
end

section
variable {prog : Program} {w : World} {A : Around} {E : Value → Shared → Prop} {s : Shared} {K : Type} [DecidableEq K] {knd : KeyKind prog w K} {d : Addr} {kvs : List (K × Value)} {k : K} {key v : Value}
theorem dict_item {value slice : PySem.Expr} {Q : Value → Shared → Prop} (hD : s.heap.DictOf knd d kvs) (hkey : knd.is k key = true) (hl : valueAt kvs k = some v) (h : Q v { s with toks := s.toks + 1 })
    (hs : subscripted slice false (.ref d) key = operate [.ref d, key] (getItem (.ref d) key) := by with_unfolding_all rfl) (hg : ∀ r, letTemporaryGo value (.ref d) r = pure () := by intro _; with_unfolding_all rfl) :
    wpAny (model prog w) A (subscriptTail value slice (.ref d) key) Q E s :=
  subscriptTail_builtin hD.typeIs slot_dict_getitem.lookup (wpAny_getItem_of hkey hD.mapOf hl h) hs hg
end
theorem TurnEnd.intro {h₀ : Heap} {L : Addr} {m : Str → Option Value} {s₁ : Shared} {I C D : Addr} {oI oC oD : Obj} {J : List (Addr × Obj) → Prop} {h' : Heap} {tk : Nat} {all : List (Addr × Obj)} (F : Fr h₀ L h' m) (N : News h₀ L h' all) (nw : List (Addr × Obj))
    (sub : ∀ p ∈ (I, oI) :: (C, oC) :: (D, oD) :: nw, p ∈ all) (off : LCg.Off3 I C D nw) (j : J nw) : TurnEnd h₀ L m s₁ I oI C oC D oD J { s₁ with heap := h', toks := tk } :=
  ⟨h', tk, nw, rfl, F, fun p hp => N p (sub p hp), off, j⟩

theorem strs_snoc {y : Str} {t : Tok} : ∀ {vs : List Value} {ys : List Str}, StrsAre vs ys → StrsAre (vs ++ [.str y t]) (ys ++ [y])
  | _, _, .nil => .cons y t .nil
  | _, _, .cons z u r => .cons z u (strs_snoc r)
theorem strs_pairs : ∀ {vs : List Value} {ys : List Str}, StrsAre vs ys → ∃ l : List (Str × Tok), strValues l = vs ∧ l.map (·.1) = ys
  | _, _, .nil => ⟨[], rfl, rfl⟩
  | _, _, .cons z u r => by
    obtain ⟨l, rfl, rfl⟩ := strs_pairs r
    exact ⟨(z, u) :: l, rfl, rfl⟩
theorem join_strs {prog : Program} {w : World} {A : Around} {E : Value → Shared → Prop} {s : Shared} {x : Str} {t : Tok} {D : Addr} {ys : List Value} {texts : List Str} {Q : Value → Shared → Prop} (hl : s.heap.IsList D ys.toArray) (hs : StrsAre ys texts) (B : Nat)
    (hB : ∀ y ∈ texts, y.length ≤ B) (h : texts.length * B + texts.length * x.length ≤ 16777216) (hq : ∀ t' k, Q (.str (Txt.join x texts) t') { s with toks := k }) :
    wpAny (model prog w) A (call (.builtin "str.join") [.str x t, .ref D]) Q E s := by
  obtain ⟨l, rfl, rfl⟩ := strs_pairs hs
  exact SC.join hl rfl (by unfold JoinOk; rw [StrLaws.joinFits hB h]; rfl) hq
theorem ints_at {vs : List Value} {ns : List Int} (hi : IntsAre vs ns) {i : Nat} {v : Value} (hv : vs[i]? = some v) : ∃ k t, v = .int k t ∧ ns[i]? = some k := IntsAre.at hi i v hv
theorem at_mem {K V : Type} [DecidableEq K] {P : List (K × V)} {k : K} (h : k ∈ P.map (·.1)) : ∃ v, at' P k = some v ∧ (k, v) ∈ P := by
  cases e : at' P k with
  | none => exact absurd h (at_none.mp e)
  | some v =>
    refine ⟨v, rfl, ?_⟩
    unfold at' at e
    obtain ⟨p, hp, rfl⟩ := Option.map_eq_some_iff.mp e
    have h1 := List.mem_of_find?_eq_some hp
    have h2 := List.find?_some hp
    simp only [decide_eq_true_eq] at h2
    rw [← h2]; exact h1
/-- the line numbers that the law draws -/
def LineNo (k : Int) : Prop := k = 10 ∨ k = 20 ∨ k = 30 ∨ k = 40
theorem LineNo.all {P : Int → Prop} (h1 : P 10) (h2 : P 20) (h3 : P 30) (h4 : P 40) {k : Int} (h : LineNo k) : P k := by
  rcases h with rfl | rfl | rfl | rfl <;> assumption
structure ProgOk (P : List (Int × Str)) : Prop where
  keys : ∀ p ∈ P, LineNo p.1
  texts : ∀ p ∈ P, p.2.length ≤ 100
  few : P.length < 32
def savedRow (P : List (Int × Str)) (k : Int) : Str := Str.ofString (toString k) ++ Str.ofString " " ++ (at' P k).getD ⟨#[]⟩ ++ Str.ofString "\n"
def savedStr (P : List (Int × Str)) (ns : List Int) : Str := Txt.join (Str.ofString "") (ns.map (savedRow P))

section
variable {prog : Program} {w : World} {A : Around} {E : Value → Shared → Prop} {s : Shared} {K : Type} [DecidableEq K] {knd : KeyKind prog w K} {d : Addr} {kvs : List (K × Value)} {h₀ : Heap} {L : Addr} {m : Str → Option Value} {news : List (Addr × Obj)}
theorem dict_of_dict {Q : Value → Shared → Prop} (F : Fr h₀ L s.heap m) (N : News h₀ L s.heap news) (hbig : h₀.NoLimit) (hd : s.heap.DictOf knd d kvs) (lo : (d == sysModules) = false) (hsz : kvs.length ≤ sizeLine)
    (k : ∀ h' o D, Fr h₀ L h' m → News h₀ L h' ((D, o) :: news) → (D == sysModules) = false → o.IsDictOf knd kvs → (∀ p ∈ news, p.1 ≠ D) → Q (.ref D) { s with heap := h' }) :
    wpAny (model prog w) A (call (.type "dict") [.ref d]) Q E s := by
  refine kt_call_dict lo hd hsz fun h' hm hs => ?_
  obtain ⟨o', ho', hd'⟩ := Heap.dictOf_iff.mp hm
  have N1 := News.push F N { cls := .type "dict", data := .dict #[] }
  exact k h' o' _ ((F.push _).change hs (N1 _ (.head _)).2.1 (N1.fresh (.head _))) (N1.setHead N.apart hs ho') (F.notModules (modules_low hbig)) hd' N.apart
theorem dict_nodup {h : Heap} (hd : h.DictOf knd d kvs) : (kvs.map (·.1)).Nodup := let ⟨_, _, _, _, _, _, _, _, hn⟩ := hd; hn
theorem isdict_nodup {o : Obj} (hd : o.IsDictOf knd kvs) : (kvs.map (·.1)).Nodup := let ⟨_, _, _, _, _, _, hn⟩ := hd; hn
end
def mergeP (P1 P2 : List (Int × Str)) : List (Int × Str) := P2.foldl (fun a p => put a p.1 p.2) P1

theorem fr_ne {h₀ h : Heap} {L b : Addr} {m : Str → Option Value} {o : Obj} (F : Fr h₀ L h m) (e : h₀.get? b = some o) : b ≠ L := fun q => absurd (Nat.lt_of_lt_of_le (Heap.lt_size e) F.above) (by rw [q]; exact Nat.lt_irrefl _)
theorem allstr_get {K : Type} [DecidableEq K] {kvs : List (K × Value)} {k : K} {v : Value} (a : AllStr kvs) (h : valueAt kvs k = some v) : ∃ x t, v = .str x t :=
  let ⟨t, e⟩ := a.at h; ⟨_, t, e⟩
theorem own1 {m : Str → Option Value} {a : Str} {v : Value} (h : m a = some v) : m = fun y => if y = a then some v else m y := by
  funext y
  by_cases e : y = a
  · rw [if_pos e, e, h]
  · rw [if_neg e]
theorem own2 {m : Str → Option Value} {a b : Str} {v u : Value} (h : m a = some v) (h2 : m b = some u) : m = fun y => if y = a then some v else if y = b then some u else m y := by
  funext y
  by_cases e : y = a
  · rw [if_pos e, e, h]
  · rw [if_neg e]
    by_cases e : y = b
    · rw [if_pos e, e, h2]
    · rw [if_neg e]

theorem own3 {m : Str → Option Value} {a b c : Str} {v u x : Value} (h : m a = some v) (h2 : m b = some u) (h3 : m c = some x) : m = fun y => if y = a then some v else if y = b then some u else if y = c then some x else m y := by
  funext y
  by_cases e : y = a
  · rw [if_pos e, e, h]
  · rw [if_neg e]
    by_cases e : y = b
    · rw [if_pos e, e, h2]
    · rw [if_neg e]
      by_cases e : y = c
      · rw [if_pos e, e, h3]
      · rw [if_neg e]
def texts5 : List Str := [Str.ofString "PRINT 1", Str.ofString "A=2", Str.ofString "", Str.ofString "REM  X", Str.ofString "  END"]
def rowStr (p : Int × Str) : Str := Txt.mul (Str.ofString " ") (p.1.fdiv 20) ++ Str.ofString (toString p.1) ++ (if p.2 = Str.ofString "" then Str.ofString "" else Str.ofString " ") ++ p.2
def stepP (P : List (Int × Str)) (p : Int × Str) : List (Int × Str) := if p.2 = Str.ofString "" then del P p.1 else put P p.1 p.2
theorem list_item {prog : Program} {w : World} {A : Around} {E : Value → Shared → Prop} {s : Shared} {l : Addr} {items : Array Value} {k : Int} {t : Tok} {v : Value} {value slice : Expr} {Q : Value → Shared → Prop} (hl : s.heap.IsList l items)
    (h0 : 0 ≤ k) (hfit : k < 1000000) (hx : items[k.toNat]? = some v) (h : Q v s) (hs : subscripted slice false (.ref l) (.int k t) = operate [.ref l, .int k t] (getItem (.ref l) (.int k t)) := by with_unfolding_all rfl) :
    wpAny (model prog w) A (subscriptTail value slice (.ref l) (.int k t)) Q E s :=
  tail_any hl.typeIs slot_list_getitem.lookup (wpAny_getItem_list hl h0 (by omega) hx h) hs
theorem LineNo.of {v : Int} : LineNo (10 * (1 + v.fmod 4)) := by
  have h1 := Int.fmod_nonneg_of_pos v (b := 4) (by omega)
  have h2 := Int.fmod_lt_of_pos v (b := 4) (by omega)
  unfold LineNo
  omega
theorem texts5_len : ∀ x ∈ texts5, x.length ≤ 100 := by decide +kernel
theorem texts5_pick {v : Int} (t : Nat → Tok) : ∃ x u, (#[Value.str (Str.ofString "PRINT 1") (t 0), .str (Str.ofString "A=2") (t 1), .str (Str.ofString "") (t 2), .str (Str.ofString "REM  X") (t 3), .str (Str.ofString "  END") (t 4)] : Array Value)[(v.fmod 5).toNat]? = some (.str x u) ∧ x ∈ texts5 := by
  have h1 := Int.fmod_nonneg_of_pos v (b := 5) (by omega)
  have h2 := Int.fmod_lt_of_pos v (b := 5) (by omega)
  have : (v.fmod 5).toNat = 0 ∨ (v.fmod 5).toNat = 1 ∨ (v.fmod 5).toNat = 2 ∨ (v.fmod 5).toNat = 3 ∨ (v.fmod 5).toNat = 4 := by omega
  rcases this with e | e | e | e | e <;> rw [e]
  · exact ⟨_, _, rfl, by simp [texts5]⟩
  · exact ⟨_, _, rfl, by simp [texts5]⟩
  · exact ⟨_, _, rfl, by simp [texts5]⟩
  · exact ⟨_, _, rfl, by simp [texts5]⟩
  · exact ⟨_, _, rfl, by simp [texts5]⟩
def tails3 : List Str := [Str.ofString "", Str.ofString "\n", Str.ofString "\n  \n"]
theorem tails3_len : ∀ x ∈ tails3, x.length ≤ 10 := by decide +kernel
/-- a text that the law has drawn, and the program in it -/
structure LText (tx : Str) (P : List (Int × Str)) : Prop where
  is : ∃ (ps : List (Int × Str)) (tl : Str), tl ∈ tails3 ∧ ps.length ≤ 5 ∧ (∀ p ∈ ps, LineNo p.1 ∧ p.2 ∈ texts5) ∧ tx = Txt.join (Str.ofString "\n") (ps.map rowStr) ++ tl ∧ P = ps.foldl stepP []
theorem rowStr_len {p : Int × Str} (h1 : LineNo p.1) (h2 : p.2 ∈ texts5) : (rowStr p).length ≤ 100 := by
  obtain ⟨k, x⟩ := p
  have : ∀ x ∈ texts5, (rowStr (k, x)).length ≤ 100 := LineNo.all (P := fun k => ∀ x ∈ texts5, (rowStr (k, x)).length ≤ 100) (by decide +kernel) (by decide +kernel) (by decide +kernel) (by decide +kernel) h1
  exact this x h2
theorem join_len {sep : Str} {B : Nat} {texts : List Str} (hB : ∀ y ∈ texts, y.length ≤ B) : (Txt.join sep texts).length ≤ texts.length * (B + sep.length) := by
  show (Builtin.Str.glued sep texts).length ≤ _
  rw [StrLaws.glued_eq_join]
  cases texts with
  | nil => exact Nat.zero_le _
  | cons a r =>
    rw [len_join_cons]
    have h1 := StrLaws.sumLen_le (a :: r) hB
    simp only [List.length_cons] at h1 ⊢
    have h2 : (r.length + 1) * (B + sep.length) = (r.length + 1) * B + (r.length * sep.length + sep.length) := by rw [Nat.mul_add, Nat.succ_mul r.length sep.length]
    omega

/-- a heap without some of its objects -/
noncomputable def holes (h : Heap) : List Addr → Heap
  | [] => h
  | a :: r => (holes h r).update a fun o => { o with data := .freed }
theorem holes_size (h : Heap) : ∀ as : List Addr, (holes h as).objs.size = h.objs.size
  | [] => rfl
  | a :: r => by
    show ((holes h r).update a _).objs.size = _
    rw [Heap.size_update, holes_size h r]
theorem freed_get (h : Heap) (a b : Addr) : (h.update a fun o => { o with data := .freed }).get? b = if b = a then none else h.get? b := by
  by_cases e : b = a
  · subst e
    rw [if_pos rfl]
    unfold Heap.get? Heap.update
    simp only [Array.getElem?_modify]
    cases h.objs[b]? <;> simp
  · rw [if_neg e, Heap.get?_update_ne _ _ _ _ e]
theorem holes_get (h : Heap) : ∀ (as : List Addr) (b : Addr), (holes h as).get? b = if b ∈ as then none else h.get? b
  | [], b => by simp [holes]
  | a :: r, b => by
    show ((holes h r).update a _).get? b = _
    rw [freed_get, holes_get h r b]
    by_cases e : b = a
    · simp [e]
    · simp [e]
theorem holes_some {h : Heap} {as : List Addr} {b : Addr} {o : Obj} : (holes h as).get? b = some o ↔ h.get? b = some o ∧ b ∉ as := by
  rw [holes_get]
  by_cases e : b ∈ as
  · simp [e]
  · simp [e]
theorem holes_none {h : Heap} {as : List Addr} {b : Addr} (e : b ∈ as) : (holes h as).get? b = none := by rw [holes_get, if_pos e]

/-- a heap stands on a base, and beside it hold some objects -/
structure On (g : Heap) (led : List (Addr × Obj)) (h : Heap) : Prop where
  keep : ∀ b o, g.get? b = some o → h.get? b = some o
  size : g.objs.size ≤ h.objs.size
  led : ∀ p ∈ led, h.get? p.1 = some p.2 ∧ g.get? p.1 = none

theorem Fr.size {h₀ h : Heap} {L : Addr} {m : Str → Option Value} (F : Fr h₀ L h m) : h₀.objs.size ≤ h.objs.size := Nat.le_trans F.above (Nat.le_of_lt F.ns.lt)
theorem On.of {h₀ h : Heap} {L : Addr} {m : Str → Option Value} {news : List (Addr × Obj)} (F : Fr h₀ L h m) (N : News h₀ L h news) : On h₀ news h := ⟨F.keep, Fr.size F, fun p hp => ⟨(N p hp).1, (N p hp).2.2⟩⟩
theorem On.sub {g h : Heap} {led led' : List (Addr × Obj)} (on : On g led h) (sub : ∀ p ∈ led', p ∈ led) : On g led' h := ⟨on.keep, on.size, fun p hp => on.led p (sub p hp)⟩
theorem On.holes {h : Heap} {led : List (Addr × Obj)} (hl : ∀ p ∈ led, h.get? p.1 = some p.2) : On (holes h (led.map (·.1))) led h :=
  ⟨fun b o e => (holes_some.mp e).1, Nat.le_of_eq (holes_size _ _), fun p hp => ⟨hl p hp, holes_none (List.mem_map_of_mem hp)⟩⟩
theorem News.over {h₀ h : Heap} {L : Addr} {m : Str → Option Value} {news : List (Addr × Obj)} (F : Fr h₀ L h m) (N : News h₀ L h news) {as : List Addr} (ha : ∀ a ∈ as, ∃ o, (a, o) ∈ news) : ∀ b o, h₀.get? b = some o → (holes h as).get? b = some o := by
  intro b o e
  refine holes_some.mpr ⟨F.keep _ _ e, fun hm => ?_⟩
  obtain ⟨o', hm⟩ := ha b hm
  rw [(N _ hm).2.2] at e; cases e
/-- a call has changed some objects of the ledger -/
theorem On.back {h₀ h h' : Heap} {L : Addr} {m : Str → Option Value} {news led : List (Addr × Obj)} {as : List Addr} (F : Fr h₀ L h m) (N : News h₀ L h news) (ha : ∀ a ∈ as, ∃ o, (a, o) ∈ news) (on : On (Mine.holes h as) led h') :
    Fr h₀ L h' m ∧ ∀ news', (∀ p ∈ news', (p ∈ news ∧ p.1 ∉ as) ∨ (p ∈ led ∧ (p.1 ∈ as ∨ h.get? p.1 = none))) → News h₀ L h' news' := by
  have hL : L ∉ as := fun hm => by obtain ⟨o, hm⟩ := ha L hm; exact (N _ hm).2.1 rfl
  refine ⟨⟨F.ns.at' fun o e => on.keep _ _ (holes_some.mpr ⟨e, hL⟩), fun b o e => on.keep _ _ (News.over F N ha b o e), F.above⟩, fun news' hn p hp => ?_⟩
  rcases hn p hp with ⟨h1, h2⟩ | ⟨h1, h2 | h2⟩
  · exact ⟨on.keep _ _ (holes_some.mpr ⟨(N p h1).1, h2⟩), (N p h1).2⟩
  · obtain ⟨o, hm⟩ := ha _ h2
    exact ⟨(on.led p h1).1, (N _ hm).2⟩
  · refine ⟨(on.led p h1).1, ?_, ?_⟩
    · intro e
      obtain ⟨oL, _, _, hL, _⟩ := F.ns
      rw [← e, h2] at hL; cases hL
    · cases q : h₀.get? p.1 with
      | none => rfl
      | some o => rw [F.keep _ _ q] at h2; cases h2
theorem Cx.over {w : World} {mean : ExcName → Option Value} {mg mb : Str → Option Value} {h₀ h : Heap} {L : Addr} {m : Str → Option Value} {news : List (Addr × Obj)} {as : List Addr} (c : Cx w mean mg mb h₀) (F : Fr h₀ L h m) (N : News h₀ L h news) (ha : ∀ a ∈ as, ∃ o, (a, o) ∈ news) : Cx w mean mg mb (Mine.holes h as) :=
  c.keeps (News.over F N ha)

section
variable {prog : Program} {w : World} {A : Around} {s : Shared} {K : Frag} {mean : ExcName → Option Value} {mg mb : Str → Option Value}
  {R : Result → Shared → Prop} {p : Program} {loose : List Str}
  {name qual : Str} {params : Arguments} {body : List Stmt} {scope : Scope} {dV kV doc pm cdv ct oc : Value} {an od : Option Addr} {osl : Array (Option Value)} {f : Addr} {args : Args} {binds : List (Str × Value)}
/-- a def that never raises is entered over a base -/
theorem enterG {g : Heap} {led : List (Addr × Obj)} (on : On g led s.heap) (X : K.In g) (T : Top p loose mean mg mb g)
    (ho : K.lookup f = some ⟨oc, od, .func (fnOf name qual params body scope dV kV doc pm an cdv ct), osl⟩) (hcd : codeIn K cdv qual = true) (hroom : A.depth < recursionLimit)
    (hbind : BindsTo s (fnOf name qual params body scope dV kV doc pm an cdv ct) args binds) (hloc : ∀ y ∈ binds, scope.names.lookup y.1 = some .local)
    (h : ∀ L h₁, Fr g L h₁ (fun y => binds.reverse.lookup y) → News g L h₁ led → L = s.heap.objs.size → (∀ b o, s.heap.get? b = some o → h₁.get? b = some o) →
      wpAny (model prog w) (A.deeper (envX qual scope L f cdv [])) (execs body (envX qual scope L f cdv []))
        (fun fl s' => R (.ok (.ret (match fl with | .ret v => v | _ => .none))) s') (fun _ _ => False)
        { s with heap := h₁, toks := s.toks + binds.length })
    (hco : scope.isCoroutine = false) (hgen : scope.isGenerator = false) (hk : scope.kind = .function)
    (hcell : ∀ x ∈ scope.names, x.2 ≠ .cell) : codeAny (model prog w) A (.call (.ref f) args) R s := by
  have X' : K.In s.heap := X.keeps on.keep
  refine codeAny_call_def (fd := fnOf name qual params body scope dV kV doc pm an cdv ct) (body := body) (binds := binds) hroom (X' _ _ ho) rfl (T.nolimit.keeps on.keep) (codeRec_of X' hcd) rfl hbind hcell hloc (fun h₁ hns hk₁ => ?_) hco hgen hk
  exact wpAny_mono (h s.heap.objs.size h₁ ⟨hns, fun b o e => hk₁ b o (on.keep b o e), on.size⟩ (fun q hq => ⟨hk₁ _ _ (on.led q hq).1, Nat.ne_of_lt (Heap.lt_size (on.led q hq).1), (on.led q hq).2⟩) rfl hk₁) (fun _ _ x => x) (fun _ _ x => x.elim)
end

/-- the law's spool: how many were drawn, and the script -/
def IsSpool (o : Obj) (n : Nat) (l : Addr) : Prop := ∃ t c, o = { cls := .type "list", data := .seq #[.int n t, .ref l] c }
structure Spl (vs : List Value) (ns : List Int) : Prop where
  are : IntsAre vs ns
  pos : ∀ k ∈ ns, 0 ≤ k
  len : ns.length ≤ 30
/-- one object of the ledger is changed by a call -/
theorem On.back1 {h₀ h h' : Heap} {L d : Addr} {m : Str → Option Value} {news : List (Addr × Obj)} {o o' : Obj} {gf : Obj → List (Addr × Obj)} (F : Fr h₀ L h m) (N : News h₀ L h news) (U : UpdF d o news gf) (on : On (Mine.holes h [d]) [(d, o')] h') :
    Fr h₀ L h' m ∧ News h₀ L h' (gf o') := by
  obtain ⟨pre, post, rfl, hg, a, b⟩ := U.split
  have z := On.back F N (as := [d]) (fun a ha => ⟨o, by rw [List.mem_singleton.mp ha]; simp⟩) on
  refine ⟨z.1, z.2 _ fun p hp => ?_⟩
  rw [hg] at hp
  rcases List.mem_append.mp hp with hp | hp
  · exact .inl ⟨List.mem_append_left _ hp, by simpa using a p hp⟩
  · rcases List.mem_cons.mp hp with rfl | hp
    · exact .inr ⟨.head _, .inl (by simp)⟩
    · exact .inl ⟨List.mem_append_right _ (.tail _ hp), by simpa using b p hp⟩
theorem On.hole1 {h₀ h : Heap} {L d : Addr} {news : List (Addr × Obj)} {o : Obj} (N : News h₀ L h news) (hm : (d, o) ∈ news) : On (Mine.holes h [d]) [(d, o)] h :=
  On.holes (led := [(d, o)]) fun p hp => by rw [List.mem_singleton.mp hp]; exact (N _ hm).1
theorem updF_mem {d : Addr} {o : Obj} {l : List (Addr × Obj)} {g : Obj → List (Addr × Obj)} (U : UpdF d o l g) : (d, o) ∈ l := by
  obtain ⟨pre, post, rfl, _⟩ := U.split
  simp
theorem holes_list {h : Heap} {as : List Addr} {l : Addr} {its : Array Value} (hl : h.IsList l its) (hn : l ∉ as) : (holes h as).IsList l its := by
  obtain ⟨o, e, r⟩ := hl
  exact ⟨o, holes_some.mpr ⟨e, hn⟩, r⟩
theorem news_sub {h₀ h : Heap} {L : Addr} {l l' : List (Addr × Obj)} (N : News h₀ L h l) (sub : ∀ p ∈ l', p ∈ l) : News h₀ L h l' := fun p hp => N p (sub p hp)
theorem list_keep {h h' : Heap} {a : Addr} {its : Array Value} (x : h.IsList a its) (k : ∀ b o, h.get? b = some o → h'.get? b = some o) : h'.IsList a its := x.at fun o e => k _ o e
section
variable {prog : Program} {w : World} {A : Around} {s : Shared} {K : Frag} {mean : ExcName → Option Value} {mg mb : Str → Option Value}
  {R : Result → Shared → Prop} {p : Program} {loose : List Str}
  {name qual : Str} {params : Arguments} {body : List Stmt} {scope : Scope} {dV kV doc pm cdv ct oc : Value} {an od : Option Addr} {osl : Array (Option Value)} {f cc : Addr} {args : Args} {binds : List (Str × Value)}
/-- a def that closes over __class__, and never raises, is entered over a base -/
theorem enterS {g : Heap} {led : List (Addr × Obj)} (on : On g led s.heap) (X : K.In g) (T : Top p loose mean mg mb g)
    (ho : K.lookup f = some ⟨oc, od, .func (ksFn name qual params body scope dV kV doc pm an cdv ct cc), osl⟩) (hcd : codeIn K cdv qual = true) (hroom : A.depth < recursionLimit)
    (hbind : BindsTo s (ksFn name qual params body scope dV kV doc pm an cdv ct cc) args binds) (hloc : ∀ y ∈ binds, scope.names.lookup y.1 = some .local)
    (h : ∀ L h₁, Fr g L h₁ (fun y => binds.reverse.lookup y) → News g L h₁ led → (∀ b o, s.heap.get? b = some o → h₁.get? b = some o) →
      _root_.PySem.wpAt (model prog w) (A.deeper (ksEnv qual scope L f cdv cc)) (.func body (ksEnv qual scope L f cdv cc)) (execs body (ksEnv qual scope L f cdv cc))
        (fun fl s' => R (.ok (.ret (match fl with | .ret v => v | _ => .none))) s') (fun _ _ => False)
        { s with heap := h₁, toks := s.toks + binds.length })
    (hco : scope.isCoroutine = false) (hgen : scope.isGenerator = false) (hk : scope.kind = .function)
    (hcell : ∀ x ∈ scope.names, x.2 ≠ .cell) : codeAny (model prog w) A (.call (.ref f) args) R s := by
  have X' : K.In s.heap := X.keeps on.keep
  refine ks_codeAny_call_defAt (fd := ksFn name qual params body scope dV kV doc pm an cdv ct cc) (body := body) (binds := binds) hroom (X' _ _ ho) rfl (T.nolimit.keeps on.keep) (codeRec_of X' hcd) rfl hbind hcell hloc (fun h₁ hns hk₁ => ?_) hco hgen hk
  exact ks_wpAt_mono (h s.heap.objs.size h₁ ⟨hns, fun b o e => hk₁ b o (on.keep b o e), on.size⟩ (fun q hq => ⟨hk₁ _ _ (on.led q hq).1, Nat.ne_of_lt (Heap.lt_size (on.led q hq).1), (on.led q hq).2⟩) hk₁) (fun _ _ x => x) (fun _ _ x => x.elim)
end
/-- a base that is no longer than what lives in it -/
theorem trim : ∀ (n : Nat) (h : Heap), h.objs.size = n → ∃ g : Heap, (∀ b, g.get? b = h.get? b) ∧ ∀ h' : Heap, (∀ b o, h.get? b = some o → h'.get? b = some o) → g.objs.size ≤ h'.objs.size
  | 0, h, e => ⟨h, fun _ => rfl, fun _ _ => by rw [e]; exact Nat.zero_le _⟩
  | n + 1, h, e => by
    cases q : h.get? n with
    | some o => exact ⟨h, fun _ => rfl, fun h' k => by rw [e]; exact Heap.lt_size (k n o q)⟩
    | none =>
      obtain ⟨objs, l⟩ := h
      have e' : objs.size = n + 1 := e
      obtain ⟨g, g1, g2⟩ := trim n ⟨objs.pop, l⟩ (by show objs.pop.size = n; rw [Array.size_pop, e']; rfl)
      have eq : ∀ b, (⟨objs.pop, l⟩ : Heap).get? b = (⟨objs, l⟩ : Heap).get? b := fun b => by
        by_cases hb : b = n
        · subst hb
          rw [q]
          unfold Heap.get?
          have : objs.pop[b]? = none := by rw [Array.getElem?_eq_none]; rw [Array.size_pop, e']; exact Nat.le_refl _
          simp only [this]
        · unfold Heap.get?
          have : objs.pop[b]? = objs[b]? := by
            rw [Array.getElem?_pop]
            split
            · rfl
            · rename_i z
              rw [e'] at z
              symm
              rw [Array.getElem?_eq_none_iff, e']
              simp only [Nat.add_sub_cancel] at z
              exact Nat.lt_of_le_of_ne (Nat.le_of_not_lt z) (Ne.symm hb)
          simp only [this]
      exact ⟨g, fun b => (g1 b).trans (eq b), fun h' k => g2 h' fun b o hb => k b o (by rw [← eq b]; exact hb)⟩
theorem min_dict {prog : Program} {w : World} {A : Around} {E : Value → Shared → Prop} {s : Shared} {d : Addr} {kvs : List (Int × Value)} {Q : Value → Shared → Prop} (hh : A.handled = none) (hd : s.heap.DictOf (intKind prog w) d kvs) (lo : (d == sysModules) = false) (hne : 0 < kvs.length)
    (h : ∀ h' M (t : Tok) tk, (∀ b o, s.heap.get? b = some o → h'.get? b = some o) → M ∈ kvs.map (·.1) → (∀ a ∈ kvs.map (·.1), M ≤ a) → Q (.int M t) { s with heap := h', toks := tk }) :
    wpAny (model prog w) A (call (.builtin "min") [.ref d]) Q E s := by
  obtain ⟨ep, hat⟩ := hd.dictAt
  have hlt : d < s.heap.objs.size := hat.lt_size
  refine call_min_walk (wpAny_pyIter_dict lo hat ?_)
  refine ⟨_, _, _, _, _, _, _, rfl, Walks.dictKeys (A := A.in1) (knd := intKind prog w) hh s.heap.objs.size d (Nat.ne_of_lt hlt) kvs ep, ⟨⟨_, Heap.get?_push_size _ rfl, rfl, rfl⟩, hat.push _⟩, fun b hb => ?_, hne, CmpOf.ints_lt (fun i => ((kvs[i]?).map (·.1)).getD 0) (fun i v hv => ?_), fun v h' tk hP hk => ?_⟩
  · show b < (s.heap.push _).objs.size
    rw [Heap.size_push]
    rcases List.mem_cons.mp hb with rfl | hb
    · exact Nat.lt_succ_self _
    · rw [List.mem_singleton.mp hb]; exact Nat.lt_succ_of_lt hlt
  · obtain ⟨k, x, e, hk⟩ := hv
    obtain ⟨t, rfl⟩ := Value.isInt_shape hk
    exact ⟨t, by simp [e]⟩
  · obtain ⟨k, x, e, hk'⟩ := hP
    obtain ⟨t, rfl⟩ := Value.isInt_shape hk'
    obtain ⟨h1, h2⟩ := argBest_lt (fun i => ((kvs[i]?).map (·.1)).getD 0) (kvs.length - 1)
    refine h h' k t tk (fun b o q => hk b o (fun hb => ?_) (Heap.get?_push_of_some _ q)) (List.mem_map.mpr ⟨_, List.mem_of_getElem? e, rfl⟩) fun a ha => ?_
    · rw [List.mem_singleton.mp hb] at q
      exact absurd (Heap.lt_size q) (Nat.lt_irrefl _)
    · obtain ⟨⟨a', y⟩, hp, rfl⟩ := List.mem_map.mp ha
      obtain ⟨j, hj, ej⟩ := List.mem_iff_getElem.mp hp
      have := h2 j (by omega)
      simp only [e, Option.map_some, Option.getD_some, List.getElem?_eq_getElem hj, ej] at this
      exact this

/-- the fields of an object, as a map -/
structure FieldsAre (es : List DictEntry) (f : Str → Option Value) : Prop where
  look : ∀ name, getL name es = some (f name)
  noRef : es.any (·.refKey) = false
  few : es.length ≤ 100
theorem isStr_other {k : Value} {a b : Str} (h : k.isStr a = true) (ne : b ≠ a) : k.isStr b = false := by
  cases k with
  | str s t =>
    have e : s = a := eq_of_beq h
    subst e
    exact beq_eq_false_iff_ne.mpr (Ne.symm ne)
  | _ => rfl
theorem fields_find {es : List DictEntry} {f : Str → Option Value} (F : FieldsAre es f) (name : Str) : (es.find? (·.key.isStr name)).map (·.val) = f name := by
  have h := F.look name
  unfold getL at h
  cases e : es.find? (·.key.isStr name) with
  | none => rw [e] at h; simp only [F.noRef, Bool.false_eq_true, if_false, Option.some.injEq] at h; exact h
  | some x => rw [e] at h; simp only [Option.some.injEq] at h; exact h
theorem putL_find_at (name : Str) (hsh : Int) (key v : Value) (y : Str) (hk : key.isStr name = true) : ∀ es : List DictEntry, ((putL name hsh key v es).find? (·.key.isStr y)).map (·.val) = if y = name then some v else (es.find? (·.key.isStr y)).map (·.val)
  | [] => by
    by_cases e : y = name
    · subst e; simp [putL, hk]
    · simp [putL, e, isStr_other hk e]
  | x :: r => by
    have ih := putL_find_at name hsh key v y hk r
    unfold putL
    by_cases hx : x.key.isStr name = true
    · rw [if_pos hx]
      by_cases e : y = name
      · subst e; simp [hx]
      · simp [e, isStr_other hx e, List.find?_cons]
    · rw [if_neg hx]
      by_cases e : y = name
      · subst e
        rw [List.find?_cons, if_pos rfl]
        simp only [hx]
        rw [if_pos rfl] at ih
        simpa using ih
      · rw [if_neg e] at ih ⊢
        rw [List.find?_cons, List.find?_cons]
        cases x.key.isStr y
        · exact ih
        · rfl
theorem putL_any (name : Str) (hsh : Int) (key v : Value) (hk : ({ hash := hsh, key := key, val := v } : DictEntry).refKey = false) : ∀ es : List DictEntry, es.any (·.refKey) = false → (∀ e : DictEntry, ∀ u, ({ hash := e.hash, key := e.key, val := u } : DictEntry).refKey = e.refKey) → (putL name hsh key v es).any (·.refKey) = false
  | [], _, _ => by simp [putL, hk]
  | x :: r, h, g => by
    simp only [List.any_cons, Bool.or_eq_false_iff] at h
    unfold putL
    split
    · simp only [List.any_cons, g x v, h.1, h.2, Bool.or_self]
    · simp only [List.any_cons, h.1, putL_any name hsh key v hk r h.2 g, Bool.or_self]
theorem putL_length (name : Str) (hsh : Int) (key v : Value) : ∀ es : List DictEntry, (es.find? (·.key.isStr name)).isSome = true → (putL name hsh key v es).length = es.length
  | [], h => by simp at h
  | x :: r, h => by
    unfold putL
    by_cases hx : x.key.isStr name = true
    · rw [if_pos hx]; rfl
    · rw [if_neg hx]
      rw [List.find?_cons] at h
      simp only [hx] at h
      rw [List.length_cons, List.length_cons, putL_length name hsh key v r h]
theorem fields_put {es : List DictEntry} {f : Str → Option Value} (F : FieldsAre es f) {name : Str} {hsh : Int} {t : Tok} {v : Value} (hf : (f name).isSome = true) : FieldsAre (putL name hsh (.str name t) v es) (fun y => if y = name then some v else f y) := by
  have hk : (Value.str name t).isStr name = true := by simp [Value.isStr]
  have hr : (putL name hsh (.str name t) v es).any (·.refKey) = false := putL_any _ _ _ _ rfl es F.noRef fun _ _ => rfl
  refine ⟨fun y => ?_, hr, ?_⟩
  · have h := putL_find_at name hsh (.str name t) v y hk es
    rw [fields_find F] at h
    unfold getL
    cases e : (putL name hsh (.str name t) v es).find? (·.key.isStr y) with
    | none =>
      rw [e] at h
      simp only [hr, Bool.false_eq_true, if_false, Option.some.injEq]
      exact h
    | some x =>
      rw [e] at h
      simp only [Option.some.injEq]
      exact h
  · rw [putL_length _ _ _ _ _ (by
      have := fields_find F name
      rw [← this, Option.isSome_map] at hf
      exact hf)]
    exact F.few
noncomputable def ifs : List (Str × Value) → Str → Option Value
  | [] => fun _ => none
  | (a, v) :: r => fun y => if y = a then some v else ifs r y
theorem lookup_ifs : ∀ (l : List (Str × Value)) (y : Str), l.lookup y = ifs l y
  | [], _ => rfl
  | (a, v) :: r, y => by
    rw [List.lookup_cons]
    show _ = if y = a then some v else ifs r y
    by_cases h : y = a
    · subst h; simp
    · have e : (y == a) = false := by simpa using h
      simp only [e, h, if_false]
      exact lookup_ifs r y
theorem lkAll (l : List (Str × Value)) : (fun y => l.reverse.lookup y) = ifs l.reverse := funext fun y => lookup_ifs _ _
theorem fields_of (es : List DictEntry) (h : es.any (·.refKey) = false) (hl : es.length ≤ 100) : FieldsAre es (fun name => (es.find? (·.key.isStr name)).map (·.val)) := by
  refine ⟨fun name => ?_, h, hl⟩
  unfold getL
  cases es.find? (·.key.isStr name) with
  | none => simp only [h, Bool.false_eq_true, if_false]; rfl
  | some x => rfl
/-- the fields that a world has -/
def worldNames : List Str := [Str.ofString "bits", Str.ofString "digits", Str.ofString "most_steps", Str.ofString "most_depth", Str.ofString "room", Str.ofString "names", Str.ofString "arrays", Str.ofString "kinds", Str.ofString "fns", Str.ofString "out", Str.ofString "row", Str.ofString "inputs",
  Str.ofString "files", Str.ofString "open", Str.ofString "fields", Str.ofString "data", Str.ofString "spot", Str.ofString "base", Str.ofString "seed", Str.ofString "steps", Str.ofString "depth", Str.ofString "handler", Str.ofString "is_handling", Str.ofString "error_line", Str.ofString "error_code",
  Str.ofString "is_traced", Str.ofString "traces", Str.ofString "common"]
def AllF (f : Str → Option Value) : Prop := ∀ name ∈ worldNames, (f name).isSome = true
theorem allF_put {f : Str → Option Value} (h : AllF f) (name : Str) (v : Value) : AllF (fun y => if y = name then some v else f y) := fun y hy => by
  show (if y = name then some v else f y).isSome = true
  split
  · rfl
  · exact h y hy
theorem allF_of {f : Str → Option Value} (h : worldNames.all (fun y => (f y).isSome) = true) : AllF f := fun y hy => List.all_eq_true.mp h y hy
theorem led_goal {g h : Heap} {L a : Addr} {o : Obj} {l : List (Addr × Obj)} (N : News g L h l) (hm : (a, o) ∈ l) : h.get? a = some o ∧ g.get? a = none := ⟨(N _ hm).1, (N _ hm).2.2⟩
theorem On.mk2 {g h : Heap} {l : List (Addr × Obj)} (k : ∀ b o, g.get? b = some o → h.get? b = some o) (sz : g.objs.size ≤ h.objs.size) (hl : ∀ p ∈ l, h.get? p.1 = some p.2 ∧ g.get? p.1 = none) : On g l h := ⟨k, sz, hl⟩
theorem all_nil {α : Type} {P : α → Prop} : ∀ p ∈ ([] : List α), P p := fun _ h => nomatch h
theorem all_cons {α : Type} {P : α → Prop} {a : α} {l : List α} (h : P a) (hl : ∀ p ∈ l, P p) : ∀ p ∈ a :: l, P p := fun p hp => by
  rcases List.mem_cons.mp hp with rfl | hp
  · exact h
  · exact hl p hp
/-- a world lies at an address -/
structure WAt (h : Heap) (x dx : Addr) (f : Str → Option Value) : Prop where
  is : ∃ es n, h.get? x = some (instObj 133 dx) ∧ h.get? dx = some (W.dictOf es n) ∧ FieldsAre es f
theorem WAt.keep {h h' : Heap} {x dx : Addr} {f : Str → Option Value} (a : WAt h x dx f) (k : ∀ b o, h.get? b = some o → h'.get? b = some o) : WAt h' x dx f := by
  obtain ⟨es, n, a1, a2, a3⟩ := a.is
  exact ⟨es, n, k _ _ a1, k _ _ a2, a3⟩
theorem news_tail {g h : Heap} {L : Addr} {p : Addr × Obj} {l : List (Addr × Obj)} (N : News g L h (p :: l)) : News g L h l := fun q hq => N q (.tail _ hq)

section
variable {prog : Program} {w : World} {A : Around} {E : Value → Shared → Prop} {h : Heap} {g : Array GenState} {d : Drawn} {t : Nat} {os : OsState} {a : Addr} {ys : List Value}
theorem pd_keys_none : typeLookup (.type "list") "keys" = pure none := by rw [typeLookup_type, builtinLookup_eq_fast]; kernel_rfl
theorem pd_getattr_none : typeLookup (.type "list") "__getattr__" = pure none := by rw [typeLookup_type, builtinLookup_eq_fast]; kernel_rfl
theorem pd_entry {tk : Tok} {Q : Fin → Shared → Prop} (hA : A.handled = none) (hx : h.get? a = some (LCg.lst ys))
    (hq : ∀ h' tk' e, Heap.NewAttrErr h h' e (.ref a) "keys" → E (.ref e) ⟨h', g, d, tk', os⟩) :
    wpAny (model prog w) A (Builtin.«object.__getattribute__» ⟨[.ref a, .str "keys" tk], []⟩) Q E ⟨h, g, d, t, os⟩ := by
  have hT : ∀ t, (⟨h, g, d, t, os⟩ : Shared).TypeIs (.ref a) "list" := fun _ => ⟨_, hx, rfl⟩
  have f4 := pd_keys_none
  unfold Builtin.«object.__getattribute__»
  repeat (any_goals (first | assumption | (with_reducible refine wpAny_loadPart_at hx ?_) | wp_step))
  exact wpAny_raiseAttrError hA (fun h' tk' e hm => hq h' tk' e hm) (attrMsg_fits (by decide +kernel) (by decide +kernel))
theorem keys_miss {Q : Option Value → Shared → Prop} (hA : A.handled = none) (hx : h.get? a = some (LCg.lst ys))
    (hq : ∀ h' tk, (∀ b ob, h.get? b = some ob → h'.get? b = some ob) → Q none ⟨h', g, d, tk, os⟩) : wpAny (model prog w) A (getAttr? (.ref a) "keys") Q E ⟨h, g, d, t, os⟩ := by
  have hT : ∀ t, (⟨h, g, d, t, os⟩ : Shared).TypeIs (.ref a) "list" := fun _ => ⟨_, hx, rfl⟩
  have f1 := sub_AttributeError
  have f2 := PySem.F.slot_list_getattribute.lookup
  have f3 := PySem.F.slot_list_getattribute.bind (.ref a)
  have f5 := pd_getattr_none
  unfold getAttr? getAttrBy? getAttrBy
  repeat (any_goals (first | assumption | (with_reducible refine wpAny_loadPart_at hx ?_) | ((with_reducible show wpAny _ _ (call (Value.builtin "list.__getattribute__") _) _ _ _); refine wpAny_call (codeAny_call_builtin PySem.F.slot_list_getattribute.plain PySem.F.entry_list_ga (PySem.F.slot_list_getattribute.check _ _ _ _ _ _ _ _ (hT _) (PySem.F.args_list_getattribute_2 _ _) (pd_entry hA hx fun h' tk' e hm => ?_)))) | wp_step))
  obtain ⟨t', u', he⟩ := hm.there
  repeat (any_goals (first | assumption | (with_reducible refine wpAny_loadPart_at he ?_) | wp_step))
  exact hq _ _ hm.keeps
theorem pd_entry_loop : entryFor table "dict.update.loop" = some Builtin.«dict.update.loop» := entryFor_of_tree (by kernel_rfl)
theorem pd_plain_loop : plainId "dict.update.loop" = true := by decide +kernel
end
section
variable {prog : Program} {w : World} {A : Around} {R : Result → Shared → Prop} {I D : Addr} {fp : List Addr} {n : Nat} {P : Nat → Value → Prop} {St : Nat → Heap → Prop} {K : Type} [DecidableEq K] {knd : KeyKind prog w K}
/-- a dict is filled from pairs -/
theorem pd_loop (W : Walks prog w A.in1 I fp [I] n P St) (hD : D ∉ fp) (hb : Heap) (pairs : List (K × Value)) (hn : pairs.length = n) (hsz : n ≤ 1000)
    (hP : ∀ i v, P i v → ∃ a key k x, v = .ref a ∧ hb.get? a = some { cls := .type "tuple", data := .seq #[key, x] } ∧ a ≠ D ∧ a ≠ I ∧ pairs[i]? = some (k, x) ∧ knd.is k key = true) :
    ∀ (m i : Nat) (s : Shared) (kvs : List (K × Value)) (t : Tok), n - i = m → i ≤ n → St i s.heap → s.heap.DictOf knd D kvs → kvs.length ≤ i → (∀ b o, b ≠ D → b ≠ I → hb.get? b = some o → s.heap.get? b = some o) →
    (∀ h' tk, h'.DictOf knd D ((pairs.drop i).foldl (fun a p => stored a p.1 p.2) kvs) → (∀ b o, b ≠ D → b ≠ I → s.heap.get? b = some o → h'.get? b = some o) → R (.ok (.ret .none)) { s with heap := h', toks := tk }) →
    codeAny (model prog w) A (.builtin "dict.update.loop" ⟨[.ref D, .ref I, .int i t, .none], []⟩) R s := by
  have hDI : D ≠ I := fun q => hD (q ▸ W.sub I (List.mem_singleton.mpr rfl))
  intro m
  induction m with
  | zero =>
    intro i s kvs t hm hi hst hd hk kb hR
    have hin : i = n := by omega
    refine codeAny_builtin pd_entry_loop ?_
    rw [Around.under_plainId pd_plain_loop _]
    show wpAny _ A.in1 (pyNext (.ref I) >>= _) _ _ s
    refine wpAny_bind (W.done s _ _ (hin ▸ hst) fun h' tk hk' => ?_)
    show wpAny _ _ (Builtin.Dict.addKeywords D [] >>= _) _ _ _
    refine wpAny_bind (wpAny_pure (wpAny_pure ?_))
    have hd' : h'.DictOf knd D kvs := hd.at fun o e => hk' _ o (by simpa using hDI) e
    refine hR h' tk ?_ fun b o h1 h2 e => hk' b o (by simpa using h2) e
    rw [hin, ← hn, List.drop_length]
    exact hd'
  | succ m ih =>
    intro i s kvs t hm hi hst hd hk kb hR
    have hlt : i < n := by omega
    refine codeAny_builtin pd_entry_loop ?_
    rw [Around.under_plainId pd_plain_loop _]
    show wpAny _ A.in1 (pyNext (.ref I) >>= _) _ _ s
    refine wpAny_bind (W.item i s _ _ hlt hst fun v h' tk hv hst' hk' => ?_)
    obtain ⟨a, key, k, x, rfl, ha, haD, haI, hp, hkey⟩ := hP i v hv
    have hd' : h'.DictOf knd D kvs := hd.at fun o e => hk' _ o (by simpa using hDI) e
    have ha' : h'.get? a = some { cls := .type "tuple", data := .seq #[key, x] } := hk' _ _ (by simpa using haI) (kb a _ haD haI ha)
    show wpAny _ A.in1 (holding _ _ >>= _) _ _ _
    refine wpAny_bind (wpAny_holding (wpAny_bind (wpAny_tryCatch ?_)))
    unfold Builtin.Dict.pairItems
    refine wpAny_bind (wpAny_typeOf (T := "tuple") ⟨_, ha', rfl⟩ ?_)
    rw [if_pos (by decide)]
    refine wpAny_bind (wpAny_seqItems ha' rfl (wpAny_pure ?_))
    show wpAny _ _ (holding [key, x] (dictSet D key x)) _ _ _
    refine wpAny_holding (wpAny_dictSet_pairs (hsz := by rw [sizeLine_eq]; omega) hkey hd' fun h'' hd'' hs'' => ?_)
    refine wpAny_pure ⟨plainId_quiet pd_plain_loop _, ih (i + 1) _ _ 0 (by omega) hlt (W.frame _ _ _ hst' fun b hbf o e => hs''.extBut b o (fun q => hD (q ▸ hbf)) e) hd'' (Nat.le_trans (stored_length_le _ _ _) (Nat.succ_le_succ hk)) (fun b o h1 h2 e => hs''.extBut b o h1 (hk' b o (by simpa using h2) (kb b o h1 h2 e))) fun h3 tk3 hd3 hk3 => hR h3 tk3 ?_ fun b o h1 h2 e => hk3 b o h1 h2 (hs''.extBut b o h1 (hk' b o (by simpa using h2) e))⟩
    have e1 : pairs.drop i = (k, x) :: pairs.drop (i + 1) := by
      obtain ⟨hlen, ex⟩ := List.getElem?_eq_some_iff.mp hp
      rw [← ex]
      exact List.drop_eq_getElem_cons hlen
    rw [e1, List.foldl_cons]
    exact hd3
end
section
variable {prog : Program} {w : World} {A : Around} {E : Value → Shared → Prop} {s : Shared} {K : Type} [DecidableEq K] {knd : KeyKind prog w K} {h₀ : Heap} {L l : Addr} {m : Str → Option Value} {news : List (Addr × Obj)} {ys : List Value}
def fillD (pairs : List (K × Value)) : List (K × Value) := pairs.foldl (fun a p => stored a p.1 p.2) []
theorem dict_pairs {Q : Value → Shared → Prop} (hA : A.handled = none) (F : Fr h₀ L s.heap m) (N : News h₀ L s.heap news) (hbig : h₀.NoLimit) (hl : s.heap.get? l = some (LCg.lst ys)) (pairs : List (K × Value)) (hn : pairs.length = ys.length) (hsz : ys.length ≤ 1000)
    (hP : ∀ (i : Nat) (v : Value), ys[i]? = some v → ∃ a key k x, v = .ref a ∧ s.heap.get? a = some { cls := .type "tuple", data := .seq #[key, x] } ∧ pairs[i]? = some (k, x) ∧ knd.is k key = true)
    (h : ∀ h' tk o D, Fr h₀ L h' m → News h₀ L h' ((D, o) :: news) → (D == sysModules) = false → o.IsDictOf knd (fillD pairs) → (∀ p ∈ news, p.1 ≠ D) → Q (.ref D) { s with heap := h', toks := tk }) :
    wpAny (model prog w) A (call (.type "dict") [.ref l]) Q E s := by
  refine callType_codes (Q₁ := fun obj s₁ => obj = Value.ref s.heap.objs.size ∧ s₁ = { s with heap := s.heap.push { cls := .type "dict", data := .dict #[] } }) PySem.F.kt_called_dict (PySem.F.kt_typeCall_dict_1 _) PySem.F.entry_dict_init (kt_code_dict_new _ ⟨rfl, rfl⟩) ?_
  rintro obj s₁ ⟨rfl, rfl⟩
  have hnew : (s.heap.push { cls := .type "dict", data := .dict #[] }).DictOf knd s.heap.objs.size [] := Heap.DictOf.new s.heap
  have hl1 : (s.heap.push { cls := .type "dict", data := .dict #[] }).get? l = some (LCg.lst ys) := Heap.get?_push_of_some _ hl
  refine ⟨hnew.typeIs, PySem.F.args_dict_init_2 _ _, ?_⟩
  unfold Builtin.«dict.__init__»
  refine wpAny_bind ?_
  unfold Builtin.Dict.selfAndRest
  refine wpAny_bind (wpAny_notOrdered_dict hnew.typeIs ?_)
  show wpAny _ _ (pure (s.heap.objs.size, [Value.ref l])) _ _ _
  refine wpAny_pure ?_
  show wpAny _ _ (Builtin.Dict.updateFrom "dict.__init__" s.heap.objs.size (.ref l) [] .none) _ _ _
  unfold Builtin.Dict.updateFrom
  refine wpAny_bind (wpAny_typeOf (T := "list") ⟨_, hl1, rfl⟩ ?_)
  rw [if_pos (by decide)]
  generalize hd0 : s.heap.objs.size = D at hnew ⊢
  have hkeep1 : ∀ b o, s.heap.get? b = some o → (s.heap.push { cls := .type "dict", data := .dict #[] }).get? b = some o := fun b o e => Heap.get?_push_of_some _ e
  have hlD : l ≠ D := by rw [← hd0]; exact Nat.ne_of_lt (Heap.lt_size hl)
  generalize s.heap.push { cls := .type "dict", data := .dict #[] } = h1 at hnew hl1 hkeep1 ⊢
  refine wpAny_bind (keys_miss (A := A.in1.in1) hA hl1 fun h2 tk2 k2 => ?_)
  show wpAny _ _ (rule _ >>= fun _ => pyIter (.ref l) >>= fun it => again (.builtin "dict.update.loop" ⟨[.ref D, it, rawInt 0, .none], []⟩)) _ _ _
  refine wpAny_bind (wpAny_rule (wpAny_bind ?_))
  have hl2 : h2.get? l = some (LCg.lst ys) := k2 _ _ hl1
  have hD2 : h2.DictOf knd D [] := hnew.keep k2
  refine wpAny_pyIter_list (items := ys.toArray) ⟨_, hl2, rfl, _, rfl⟩ ?_
  generalize hI : h2.objs.size = I
  have hI2 : h2.get? I = none := by rw [← hI]; exact Heap.get?_none_of_le (Nat.le_refl _)
  have hneI : l ≠ I := by rw [← hI]; exact Nat.ne_of_lt (Heap.lt_size hl2)
  have hDI : D ≠ I := by
    obtain ⟨o, _, _, e, _⟩ := hD2
    rw [← hI]; exact Nat.ne_of_lt (Heap.lt_size e)
  have W := Walks.list (prog := prog) (w := w) (A := A.in1.in1) hA I l hneI ys.toArray
  rw [List.size_toArray] at W
  have st : (h2.push { cls := .type "list_iterator", data := .fields #[.ref l, .int 0 0] }).IsListIter I l 0 ∧ (h2.push { cls := .type "list_iterator", data := .fields #[.ref l, .int 0 0] }).IsList l ys.toArray :=
    ⟨⟨_, by rw [← hI]; exact Heap.get?_push_size _ rfl, rfl, rfl⟩, ⟨_, Heap.get?_push_of_some _ hl2, rfl, _, rfl⟩⟩
  have k3 : ∀ b o, h2.get? b = some o → (h2.push { cls := .type "list_iterator", data := .fields #[.ref l, .int 0 0] }).get? b = some o := fun b o e => Heap.get?_push_of_some _ e
  generalize h2.push { cls := .type "list_iterator", data := .fields #[.ref l, .int 0 0] } = h3 at st k3
  refine wpAny_pure ⟨plainId_quiet pd_plain_loop _, pd_loop (A := A.in1) W (by simp [hDI, Ne.symm hlD]) s.heap pairs hn (by omega) (fun i v hv => ?_) ys.length 0 _ [] 0 rfl (Nat.zero_le _) st (hD2.keep k3) (Nat.le_refl _) (fun b o h1 h2' e => k3 _ _ (k2 _ _ (hkeep1 _ _ e))) fun h4 tk4 hd4 k4 => ?_⟩
  · obtain ⟨a, key, k, x, rfl, e1, e2, e3⟩ := hP i v (by simpa using hv)
    refine ⟨a, key, k, x, rfl, e1, ?_, ?_, e2, e3⟩
    · rw [← hd0]; exact Nat.ne_of_lt (Heap.lt_size e1)
    · intro q
      have := k2 _ _ (hkeep1 _ _ e1)
      rw [q, hI2] at this
      cases this
  · refine ⟨rfl, ?_⟩
    have keep : ∀ b o, s.heap.get? b = some o → h4.get? b = some o := fun b o e => k4 b o (by rw [← hd0]; exact Nat.ne_of_lt (Heap.lt_size e)) (fun q => by
      have := k2 _ _ (hkeep1 _ _ e)
      rw [q, hI2] at this
      cases this) (k3 _ _ (k2 _ _ (hkeep1 _ _ e)))
    obtain ⟨o', ho', hd'⟩ := Heap.dictOf_iff.mp hd4
    have hDn : s.heap.get? D = none := by rw [← hd0]; exact Heap.get?_none_of_le (Nat.le_refl _)
    obtain ⟨F', N', ne'⟩ := news_add F N keep hDn ho'
    exact h h4 tk4 o' D F' N' (by rw [← hd0]; exact F.notModules (modules_low hbig)) hd' ne'
end

/-- an exception on its way: its class, its own dict, the flight mark of its last trace -/
structure Fly (h G : Heap) (e : Addr) (C : Value) (dd : Option Addr) (fl : Value) : Prop where
  is : ∃ oe vs T oT ts, h.get? e = some oe ∧ oe.cls = C ∧ oe.dict = dd ∧ oe.data = .fields vs ∧ vs[1]? = some (.ref T) ∧ G.get? T = none ∧ T ≠ e ∧ h.get? T = some oT ∧ oT.data = .fields ts ∧ ts[3]? = some fl

theorem dict_mapFields (f : Array Value → Array Value) (o : Obj) : (Obj.mapFields f o).dict = o.dict := by
  unfold Obj.mapFields; split <;> rfl

section
variable {M : Model} {A : Around} {E : Value → Shared → Prop} {s : Shared} {G : Heap} {env : Env} {outer : List Env} {L e : Addr} {C : Value} {dd : Option Addr} {Q : Unit → Shared → Prop}

/-- a new trace is hung on an exception -/
theorem entryX {oe : Obj} {vs : Array Value} {head : Value} {hadNext : Bool} (hfr : A.frames = some (env :: outer)) (hl : s.heap.FunFrames G (env :: outer)) (hf : env.frame = some L)
    (he : s.heap.get? e = some oe) (hG : ∀ b o, G.get? b = some o → s.heap.get? b = some o) (hen : G.get? e = none) (hd : oe.data = .fields vs) (hsz : 1 < vs.size)
    (h : ∀ h', (∀ b o, G.get? b = some o → h'.get? b = some o) → s.heap.UpToSlots h' → Fly h' G e oe.cls oe.dict (rawInt L) → Q () { s with heap := h' }) :
    wpAny M A (do let a ← frameOf env; let pl ← entryPlaceOf L hadNext; let b ← EntryCells.newEntry head a .none (rawInt L) .none pl; setField (.ref e) 1 b) Q E s := by
  have isF : ∀ b o, s.heap.get? b = some o → (∀ ws, o.data ≠ .fields ws) → b ≠ e := fun b o hb hn q => by
    rw [q, he] at hb
    obtain rfl := Option.some.inj hb
    exact hn vs hd
  have eF : e ∉ (env :: outer).filterMap (·.frame) := fun hm => by
    obtain ⟨_, o, ho, hn⟩ := hl.mem hm
    exact isF e o ho hn rfl
  refine wpAny_bind (wpAny_frameOf_fun hfr hl hf fun h₁ S => ?_)
  have he₁ : h₁.get? e = some oe := (S.2.1 e eF).trans he
  have hG₁ : ∀ b o, G.get? b = some o → h₁.get? b = some o := fun b o hb => (S.2.1 b fun hm => by rw [(hl.mem hm).1] at hb; cases hb).trans (hG b o hb)
  have up₁ : s.heap.UpToSlots h₁ := fun b o hb _ => S.2.2 b o hb
  refine wpAny_bind (wpAny_entryPlaceOf fun pl hpl => ?_)
  unfold EntryCells.newEntry newFields
  refine wpAny_bind (wpAny_newObj_type ?_ (hpl.sizeOk5 _ _ _ _ _))
  generalize hts : ([head, .ref L, .none, rawInt L, .none] ++ (if pl.isEmpty then List.replicate 6 Value.none else pl)).toArray = ts
  have h3 : ts[3]? = some (rawInt L) := by
    rw [← hts]
    first | (simp; done) | (rcases hpl with rfl | ⟨_, _, _, _, _, _, _, rfl⟩ <;> simp)
  have hTe : h₁.objs.size ≠ e := Nat.ne_of_gt (Heap.lt_size he₁)
  have he₂ : (h₁.push { cls := .type "traceback", dict := none, data := .fields ts }).get? e = some oe := Heap.get?_push_of_some _ he₁
  refine wpAny_setField he₂ hd hsz (h _ (fun b o hb => ?_) (fun b o hb hn => ?_) ?_)
  · have : e ≠ b := fun q => by rw [← q, hen] at hb; cases hb
    rw [Heap.get?_update_other _ _ this]
    exact Heap.get?_push_of_some _ (hG₁ b o hb)
  · obtain ⟨sl, hs⟩ := up₁ b o hb hn
    refine ⟨sl, ?_⟩
    rw [Heap.get?_update_other _ _ (Ne.symm (isF b o hb hn))]
    exact Heap.get?_push_of_some _ hs
  · have hd₃ := Obj.data_mapFields hd (·.setIfInBounds 1 (Value.ref h₁.objs.size))
    have fresh : G.get? h₁.objs.size = none := by
      cases q : G.get? h₁.objs.size with
      | none => rfl
      | some o => exact absurd (Heap.lt_size (hG₁ _ _ q)) (Nat.lt_irrefl _)
    refine ⟨_, _, h₁.objs.size, { cls := .type "traceback", dict := none, data := .fields ts }, ts, Heap.get?_update_self _ he₂ (Obj.isFreed_of_fields hd₃), Obj.cls_mapFields _ _, dict_mapFields _ _, hd₃, by simp [hsz], fresh, hTe, ?_, rfl, h3⟩
    rw [Heap.get?_update_other _ _ (Ne.symm hTe)]
    exact Heap.get?_push_size h₁ rfl

/-- the flight mark is taken off -/
theorem flightX {fl : Value} (hG : ∀ b o, G.get? b = some o → s.heap.get? b = some o) (f : Fly s.heap G e C dd fl)
    (h : ∀ h', (∀ b o, G.get? b = some o → h'.get? b = some o) → s.heap.UpToSlots h' → Fly h' G e C dd .none → Q () { s with heap := h' }) : wpAny M A (setFlight (.ref e) none) Q E s := by
  obtain ⟨oe, vs, T, oT, ts, he, hc, hdd, hd, h1, hT0, hTe, hT, hdT, h3⟩ := f
  have sz : 3 < ts.size := (Array.getElem?_eq_some_iff.mp h3).1
  unfold setFlight
  refine wpAny_bind (wpAny_field he hd h1 ?_)
  rw [if_pos (show (Value.ref T != Value.none) = true by simp)]
  refine wpAny_setField hT hdT sz (h _ (fun b o hb => ?_) (fun b o hb hn => ⟨o.slots, ?_⟩) ?_)
  · rw [Heap.get?_update_other _ _ (fun q => by rw [← q, hT0] at hb; cases hb)]
    exact hG b o hb
  · have : T ≠ b := fun q => by
      rw [← q, hT] at hb
      obtain rfl := Option.some.inj hb
      exact hn ts hdT
    rw [Heap.get?_update_other _ _ this]
    exact hb
  · refine ⟨oe, vs, T, _, _, ?_, hc, hdd, hd, h1, hT0, hTe, Heap.get?_update_self _ hT (Obj.isFreed_of_fields (Obj.data_mapFields hdT _)), Obj.data_mapFields hdT _, by simp [sz]⟩
    rw [Heap.get?_update_other _ _ hTe]
    exact he

/-- the first frame notes a new exception -/
theorem note_firstX {oe : Obj} {vs : Array Value} (hfr : A.frames = some (env :: outer)) (hl : s.heap.FunFrames G (env :: outer)) (hf : env.frame = some L)
    (he : s.heap.get? e = some oe) (hG : ∀ b o, G.get? b = some o → s.heap.get? b = some o) (hen : G.get? e = none) (hd : oe.data = .fields vs) (h1 : vs[1]? = some .none)
    (h : ∀ h', (∀ b o, G.get? b = some o → h'.get? b = some o) → s.heap.UpToSlots h' → Fly h' G e oe.cls oe.dict (rawInt L) → Q () { s with heap := h' }) : wpAny M A (noteFrame (.ref e) env) Q E s := by
  unfold noteFrame
  simp only [hf]
  refine wpAny_bind (wpAny_field he hd h1 ?_)
  rw [if_neg (by decide)]
  exact entryX hfr hl hf he hG hen hd (Array.getElem?_eq_some_iff.mp h1).1 h

/-- the next frame notes it -/
theorem note_nextX (hfr : A.frames = some (env :: outer)) (hl : s.heap.FunFrames G (env :: outer)) (hf : env.frame = some L)
    (hG : ∀ b o, G.get? b = some o → s.heap.get? b = some o) (hen : G.get? e = none) (f : Fly s.heap G e C dd .none)
    (h : ∀ h', (∀ b o, G.get? b = some o → h'.get? b = some o) → s.heap.UpToSlots h' → Fly h' G e C dd (rawInt L) → Q () { s with heap := h' }) : wpAny M A (noteFrame (.ref e) env) Q E s := by
  obtain ⟨oe, vs, T, oT, ts, he, hc, hdd, hd, h1, hT0, hTe, hT, hdT, h3⟩ := f
  subst hc hdd
  have sz : 3 < ts.size := (Array.getElem?_eq_some_iff.mp h3).1
  unfold noteFrame
  simp only [hf]
  refine wpAny_bind (wpAny_field he hd h1 ?_)
  rw [if_pos (show (Value.ref T != Value.none) = true by simp)]
  refine wpAny_bind (wpAny_field hT hdT h3 ?_)
  rw [if_neg (show ¬ ((Value.none == rawInt L) = true) by simp [rawInt])]
  refine wpAny_bind (wpAny_setField hT hdT sz ?_)
  have off : ∀ b, b ≠ T → (s.heap.update T (Obj.mapFields (·.setIfInBounds 3 Value.none))).get? b = s.heap.get? b := fun b hb => Heap.get?_update_other _ _ (Ne.symm hb)
  have up : s.heap.UpToSlots (s.heap.update T (Obj.mapFields (·.setIfInBounds 3 Value.none))) := fun b o hb hn => ⟨o.slots, by
    rw [off b fun q => by
      rw [q, hT] at hb
      obtain rfl := Option.some.inj hb
      exact hn ts hdT]
    exact hb⟩
  refine entryX hfr (hl.of_keeps fun b o hb hn => let ⟨sl, z⟩ := up b o hb hn; ⟨_, z, rfl⟩) hf ((off e (Ne.symm hTe)).trans he) (fun b o hb => ?_) hen hd (Array.getElem?_eq_some_iff.mp h1).1 fun h' k u f => h h' k (up.trans u) f
  exact (off b fun q => by rw [q, hT0] at hb; cases hb).trans (hG b o hb)

end

/-- what a new BasicError is -/
structure NewErr (g : Heap) (code : Value) (e : Addr) (h' : Heap) : Prop where
  keep : ∀ b o, g.get? b = some o → h'.get? b = some o
  is : ∃ dx es n f oe vs, h'.get? e = some oe ∧ g.get? e = none ∧ h'.get? dx = some (W.dictOf es n) ∧ g.get? dx = none ∧ oe.cls = .ref 34 ∧ oe.dict = some dx ∧ oe.data = .fields vs ∧ vs[1]? = some .none ∧ e ≠ dx ∧ FieldsAre es f ∧ f (Str.ofString "code") = some code

/-- the frames below a call -/
def FF (h : Heap) (outer : List Env) : Prop := h.FunFrames (holes h (outer.filterMap (·.frame))) outer
theorem funFrames_to {h h' B G : Heap} (k : ∀ b o, h.get? b = some o → h'.get? b = some o) : ∀ {l : List Env}, h.FunFrames B l → (∀ b ∈ l.filterMap (·.frame), G.get? b = none) → h'.FunFrames G l
  | [], _, _ => trivial
  | env :: r, ⟨hk, ⟨L, o, hf, _, ho, hd⟩, hr⟩, hn => by
    rw [List.filterMap_cons, hf] at hn
    exact ⟨hk, ⟨L, o, hf, hn L (.head _), k _ _ ho, hd⟩, funFrames_to k hr fun b hb => hn b (.tail _ hb)⟩
theorem funFrames_up {h h' B G : Heap} (k : ∀ b o, h.get? b = some o → (∀ vs, o.data ≠ .fields vs) → ∃ o', h'.get? b = some o' ∧ ∀ vs, o'.data ≠ .fields vs) : ∀ {l : List Env}, h.FunFrames B l → (∀ b ∈ l.filterMap (·.frame), G.get? b = none) → h'.FunFrames G l
  | [], _, _ => trivial
  | env :: r, ⟨hk, ⟨L, o, hf, _, ho, hd⟩, hr⟩, hn => by
    rw [List.filterMap_cons, hf] at hn
    obtain ⟨o', ho', hd'⟩ := k L o ho hd
    exact ⟨hk, ⟨L, o', hf, hn L (.head _), ho', hd'⟩, funFrames_up k hr fun b hb => hn b (.tail _ hb)⟩
theorem FF.push {h₀ h : Heap} {L : Addr} {m : Str → Option Value} {env : Env} {outer : List Env} (F : Fr h₀ L h m) (hff : FF h₀ outer) (hk : env.scope.kind ≠ .module) (hf : env.frame = some L) : FF h (env :: outer) := by
  obtain ⟨oL, es, ep, eL, hd, _⟩ := F.ns
  have hm : (env :: outer).filterMap (·.frame) = L :: outer.filterMap (·.frame) := by rw [List.filterMap_cons, hf]
  refine ⟨hk, ⟨L, oL, hf, ?_, eL, fun vs q => by rw [hd] at q; cases q⟩, funFrames_to F.keep hff fun b hb => ?_⟩
  · rw [hm]; exact holes_none (.head _)
  · rw [hm]; exact holes_none (.tail _ hb)

/-- a BasicError has left a call that began at the heap h0 -/
structure Raised (h0 : Heap) (outer : List Env) (code : Value) (e : Addr) (h' : Heap) : Prop where
  is : ∃ G dx es n f, (∀ b o, h0.get? b = some o → b ∉ outer.filterMap (·.frame) → G.get? b = some o) ∧ (∀ b o, G.get? b = some o → h'.get? b = some o) ∧ G.get? e = none ∧ h0.get? e = none ∧ h'.FunFrames G outer ∧
    Fly h' G e (.ref 34) (some dx) .none ∧ h0.UpToSlots h' ∧ G.get? dx = some (W.dictOf es n) ∧ h0.get? dx = none ∧ FieldsAre es f ∧ f (Str.ofString "code") = some code

theorem fresh_of {h₀ h : Heap} {L b : Addr} {m : Str → Option Value} (F : Fr h₀ L h m) (e : h.get? b = none) : h₀.get? b = none := by
  cases q : h₀.get? b with
  | none => rfl
  | some o => rw [F.keep _ _ q] at e; cases e

section
variable {M : Model} {A : Around} {E : Value → Shared → Prop} {s : Shared} {env : Env} {outer : List Env} {L e : Addr} {code : Value} {Q : Unit → Shared → Prop} {h₀ h : Heap} {m : Str → Option Value}
theorem leave_first (hA : A.frames = some outer) (hff : FF h₀ outer) (F : Fr h₀ L h m) (hk : env.scope.kind ≠ .module) (hf : env.frame = some L) (ne : NewErr h code e s.heap)
    (hQ : ∀ h', Raised h₀ outer code e h' → Q () { s with heap := h' }) : wpAny M (A.deeper env) (leaving env (.ref e)) Q E s := by
  obtain ⟨dx, es, n, f, oe, vs, he, hen, hdx, hdn, hc, hdd, hd, h1, hne, hfa, hco⟩ := ne.is
  have hff' := FF.push F hff hk hf
  have hm : (env :: outer).filterMap (·.frame) = L :: outer.filterMap (·.frame) := by rw [List.filterMap_cons, hf]
  have efr : ∀ b ∈ (env :: outer).filterMap (·.frame), h.get? b ≠ none := fun b hb q => by
    obtain ⟨_, o, ho, _⟩ := Heap.FunFrames.mem hff' hb
    rw [ho] at q; cases q
  have hG : ∀ b o, (holes s.heap (e :: (env :: outer).filterMap (·.frame))).get? b = some o → s.heap.get? b = some o := fun b o q => (holes_some.mp q).1
  have hl : s.heap.FunFrames (holes s.heap (e :: (env :: outer).filterMap (·.frame))) (env :: outer) := funFrames_to ne.keep hff' fun b hb => holes_none (.tail _ hb)
  unfold leaving
  refine wpAny_bind (note_firstX (Around.frames_deeper hA) hl hf he hG (holes_none (.head _)) hd h1 fun h2 k2 u2 f2 => ?_)
  refine flightX (s := { s with heap := h2 }) k2 f2 fun h3 k3 u3 f3 => ?_
  rw [hc, hdd] at f3
  refine hQ h3 ⟨_, dx, es, n, f, fun b o hb hnb => ?_, k3, holes_none (.head _), fresh_of F hen, ?_, f3, ?_, ?_, fresh_of F hdn, hfa, hco⟩
  · refine holes_some.mpr ⟨ne.keep _ _ (F.keep _ _ hb), fun hm' => ?_⟩
    rw [hm] at hm'
    rcases List.mem_cons.mp hm' with rfl | hm'
    · rw [F.keep _ _ hb] at hen; cases hen
    · rcases List.mem_cons.mp hm' with rfl | hm'
      · exact fr_ne F hb rfl
      · exact hnb hm'
  · exact (hl.2.2).of_keeps fun b o hb hn => let ⟨sl, z⟩ := (u2.trans u3) b o hb hn; ⟨_, z, rfl⟩
  · exact (Heap.UpToSlots.of_keeps fun b o q => ne.keep _ _ (F.keep _ _ q)).trans (u2.trans u3)
  · refine holes_some.mpr ⟨hdx, fun hm' => ?_⟩
    rcases List.mem_cons.mp hm' with q | hm'
    · exact hne q.symm
    · exact efr dx hm' hdn

theorem leave_next (hA : A.frames = some outer) (F : Fr h₀ L h m) (hf : env.frame = some L) (R : Raised h (env :: outer) code e s.heap)
    (hQ : ∀ h', Raised h₀ outer code e h' → Q () { s with heap := h' }) : wpAny M (A.deeper env) (leaving env (.ref e)) Q E s := by
  obtain ⟨G, dx, es, n, f, hG0, hG, hGe, hhe, hl, fl, up, hdx, hhd, hfa, hco⟩ := R.is
  have hm : (env :: outer).filterMap (·.frame) = L :: outer.filterMap (·.frame) := by rw [List.filterMap_cons, hf]
  unfold leaving
  refine wpAny_bind (note_nextX (Around.frames_deeper hA) hl hf hG hGe fl fun h2 k2 u2 f2 => ?_)
  refine flightX (s := { s with heap := h2 }) k2 f2 fun h3 k3 u3 f3 => ?_
  refine hQ h3 ⟨G, dx, es, n, f, fun b o hb hnb => hG0 b o (F.keep _ _ hb) fun hm' => ?_, k3, hGe, fresh_of F hhe, ?_, f3, ?_, hdx, fresh_of F hhd, hfa, hco⟩
  · rw [hm] at hm'
    rcases List.mem_cons.mp hm' with rfl | hm'
    · exact fr_ne F hb rfl
    · exact hnb hm'
  · exact (hl.2.2).of_keeps fun b o hb hn => let ⟨sl, z⟩ := (u2.trans u3) b o hb hn; ⟨_, z, rfl⟩
  · exact (Heap.UpToSlots.of_keeps F.keep).trans (up.trans (u2.trans u3))
end

open LCg in
/-- what a turn of a comprehension over enumerate makes -/
def tupE (p : Addr × (Value × Int × Tok)) : Addr × Obj := (p.1, { cls := .type "tuple", data := .seq #[p.2.1, .int p.2.2.1 p.2.2.2] })
def EnumTs (items : Array Value) (i : Nat) (ts : List (Addr × (Value × Int × Tok))) : Prop := ts.length = i ∧ ∀ (j : Nat) (p : Addr × (Value × Int × Tok)), ts[j]? = some p → items[j]? = some p.2.1 ∧ p.2.2.1 = (j : Int)
theorem EnumTs.snoc {items : Array Value} {i : Nat} {ts : List (Addr × (Value × Int × Tok))} (h : EnumTs items i ts) {T : Addr} {v : Value} {t : Tok} (hv : items[i]? = some v) : EnumTs items (i + 1) (ts ++ [(T, v, (i : Int), t)]) := by
  obtain ⟨h1, h2⟩ := h
  refine ⟨by rw [List.length_append, h1]; rfl, fun j p hp => ?_⟩
  by_cases hj : j < ts.length
  · rw [List.getElem?_append_left hj] at hp
    exact h2 j p hp
  · rw [List.getElem?_append_right (Nat.not_lt.mp hj)] at hp
    have h3 : j - ts.length < [(T, v, (i : Int), t)].length := (List.getElem?_eq_some_iff.mp hp).1
    rw [List.length_singleton] at h3
    have e : j = i := by omega
    have e0 : j - ts.length = 0 := by omega
    rw [e0, List.getElem?_cons_zero] at hp
    obtain rfl := Option.some.inj hp
    subst e
    exact ⟨hv, rfl⟩
section
variable {prog : Program} {w : World} {A : Around} {E : Value → Shared → Prop} {s : Shared} {h₀ : Heap} {L : Addr} {m : Str → Option Value} {env : Env}
theorem fr_but2 {h h' : Heap} {I J : Addr} (F : Fr h₀ L h m) (hk : ∀ b o, b ∉ [I, J] → h.get? b = some o → h'.get? b = some o) (hL : L ≠ I) (hL2 : L ≠ J) (hI : h₀.get? I = none) (hJ : h₀.get? J = none) : Fr h₀ L h' m :=
  ⟨F.ns.at' fun o e => hk L o (by simp [hL, hL2]) e, fun b o e => hk b o (fun hm => by
    rcases List.mem_cons.mp hm with rfl | hm
    · rw [hI] at e; cases e
    · rw [List.mem_singleton.mp hm, hJ] at e; cases e) (F.keep b o e), F.above⟩
theorem news_but2 {h h' : Heap} {I J : Addr} {news : List (Addr × Obj)} (N : News h₀ L h news) (hk : ∀ b o, b ∉ [I, J] → h.get? b = some o → h'.get? b = some o) (off : ∀ p ∈ news, p.1 ≠ I ∧ p.1 ≠ J) : News h₀ L h' news :=
  fun p hp => ⟨hk _ _ (by have := off p hp; simp [this.1, this.2]) (N p hp).1, (N p hp).2⟩
def TurnE (prog : Program) (w : World) (A : Around) (h₀ : Heap) (L : Addr) (m : Str → Option Value) (env : Env) (elt : PySem.Expr) (a b : Str) (scope : Scope) (cl : List (Str × Addr)) (s₂ : Shared) (items : Array Value) : Prop :=
  ∀ i v t ys nw I oI C oC D m₂ h tk (E' : Value → Shared → Prop), items[i]? = some v → LCg.NsObj oC m₂ → m₂ a = some (.int (i : Nat) t) → m₂ b = some v → Fr h₀ L h m → News h₀ L h ((I, oI) :: (C, oC) :: (D, LCg.lst ys) :: nw) → LCg.Off3 I C D nw →
    ((@Ne Nat I C) ∧ (@Ne Nat I D) ∧ (@Ne Nat C D)) →
    wpAny (model prog w) A (eval elt (compEnvC scope cl C env)) (fun y s₄ => ∃ h' tk' T, y = .ref T ∧ s₄ = { s₂ with heap := h', toks := tk' } ∧ Fr h₀ L h' m ∧ News h₀ L h' ((T, { cls := .type "tuple", data := .seq #[v, .int (i : Nat) t] }) :: (I, oI) :: (C, oC) :: (D, LCg.lst ys) :: nw) ∧ I < T ∧ C < T ∧ D < T) E' { s₂ with heap := h, toks := tk }

theorem block_E {elt iter : PySem.Expr} {a b : Str} {pa pb tp : Pos} {kk : Nat} {scope : Scope} {cl : List (Str × Addr)} {pos : Pos} {s₂ : Shared} {e it l : Addr} {items : Array Value} {cap : Nat} {news : List (Addr × Obj)}
    {RR : Value → Addr → Result → Shared → Prop}
    (hh : A.handled = none) (hei : e ≠ it) (hsz : items.size ≤ sizeLine) (hml : (l, ({ cls := .type "list", data := .seq items cap } : Obj)) ∈ news)
    (he : IsEnum s₂.heap e it 0 .none) (hit : s₂.heap.IsListIter it l 0)
    (hcell : ∀ y ∈ scope.names, y.2 ≠ .cell) (hkind : scope.kind = .function) (hxa : scope.names.lookup a = some .local) (hxb : scope.names.lookup b = some .local) (hab : ¬ a = b)
    (F : Fr h₀ L s₂.heap m) (N : News h₀ L s₂.heap news) (hIL : L ≠ e) (hJL : L ≠ it) (hI₀ : h₀.get? e = none) (hJ₀ : h₀.get? it = none) (off : ∀ p ∈ news, p.1 ≠ e ∧ p.1 ≠ it)
    (R : TurnE prog w A h₀ L m env elt a b scope cl s₂ items)
    (hRR : ∀ D C h tk m' ts, Fr h₀ L h m → News h₀ L h ((D, LCg.lst (ts.map fun p => Value.ref p.1)) :: (ts.map tupE ++ news)) → (∀ p ∈ ts.map tupE ++ news, p.1 ≠ D) → h.Ns C m' → h₀.get? C = none → h₀.get? D = none → C ≠ L → D ≠ L → C ≠ D → (∀ p ∈ ts.map tupE ++ news, p.1 ≠ C) → EnumTs items items.size ts →
      RR (.ref D) C (.ok .next) { s₂ with heap := h, toks := tk }) :
    wpAny (model prog w) A (newList []) (fun acc s₃ => wpAny (model prog w) A (newFunctionEnv scope env.globals cl [] env.qual none .none (some env)) (fun cenv s₄ =>
      codeAny (model prog w) A (.compStart (.ListComp elt [⟨.Tuple [.Name a pa, .Name b pb] kk tp, iter, [], 0⟩] scope pos) 0 (.ref e) acc { cenv with scope := relabel scope env }) (RR acc cenv.locals) s₄) E s₃) E s₂ := by
  refine wpAny_newObj_type (wpAny_newFunctionEnv hcell (by intro y hy; simp at hy) (fun h₁ hns₁ hsb₁ => ?_) hkind)
  dsimp only at hns₁ hsb₁ ⊢
  generalize hH2 : s₂.heap.push { cls := .type "list", dict := none, data := .seq ([] : List Value).toArray } = H2 at hns₁ hsb₁ ⊢
  have hC : H2.objs.size = s₂.heap.objs.size + 1 := by rw [← hH2, Heap.size_push]
  have hDC : s₂.heap.objs.size ≠ H2.objs.size := by rw [hC]; exact Nat.ne_of_lt (Nat.lt_succ_self _)
  have below : ∀ b, b < s₂.heap.objs.size → b ≠ H2.objs.size ∧ b ≠ s₂.heap.objs.size := fun b hb => ⟨by rw [hC]; exact Nat.ne_of_lt (Nat.lt_succ_of_lt hb), Nat.ne_of_lt hb⟩
  have hIlt : e < s₂.heap.objs.size := Heap.lt_size he
  have hJlt : it < s₂.heap.objs.size := by obtain ⟨_, x, _⟩ := hit; exact Heap.lt_size x
  have old : ∀ b o, s₂.heap.get? b = some o → h₁.get? b = some o := fun b o e => hsb₁.extBut b o (below b (Heap.lt_size e)).1 (Heap.get?_push_of_some _ (hH2 ▸ Heap.get?_push_of_some _ e))
  have hacc : h₁.get? s₂.heap.objs.size = some (LCg.lst []) := hsb₁.extBut _ _ hDC (Heap.get?_push_of_some _ (hH2 ▸ Heap.get?_push_size _ rfl))
  have fresh : ∀ a, s₂.heap.objs.size ≤ a → s₂.heap.get? a = none := fun a ha => by
    cases e : s₂.heap.get? a with
    | none => rfl
    | some o' => exact absurd (Heap.lt_size e) (Nat.not_lt.mpr ha)
  have fresh₀ : ∀ a, s₂.heap.objs.size ≤ a → h₀.get? a = none := fun a ha => by
    cases e : h₀.get? a with
    | none => rfl
    | some o' => have := F.keep a o' e; rw [fresh a ha] at this; cases this
  have hD₀ : h₀.get? s₂.heap.objs.size = none := fresh₀ _ (Nat.le_refl _)
  have hC₀ : h₀.get? H2.objs.size = none := fresh₀ _ (by rw [hC]; exact Nat.le_succ _)
  have hLlt : L < s₂.heap.objs.size := F.ns.lt
  have hDL : s₂.heap.objs.size ≠ L := Ne.symm (below L hLlt).2
  have hCL : H2.objs.size ≠ L := Ne.symm (below L hLlt).1
  have hCI : e ≠ H2.objs.size := (below e hIlt).1
  have hDI : e ≠ s₂.heap.objs.size := (below e hIlt).2
  have hCJ : it ≠ H2.objs.size := (below it hJlt).1
  have hDJ : it ≠ s₂.heap.objs.size := (below it hJlt).2
  have hle : l ≠ e := (off _ hml).1
  have hli : l ≠ it := (off _ hml).2
  have W := (WalksT.enumerate (prog := prog) (w := w) hh e it l hei hle hli items).toU
  have hst₁ : (∃ old, IsEnum h₁ e it (0 : Nat) old) ∧ h₁.IsListIter it l 0 ∧ h₁.IsList l items := ⟨⟨_, old _ _ he⟩, hit.at fun o x => old it o x, ⟨_, old _ _ (N _ hml).1, rfl, _, rfl⟩⟩
  have loop : ∀ s₃ : Shared, s₃ = { s₂ with heap := h₁, toks := s₂.toks + ([] : List (Str × Value)).length } →
      codeAny (model prog w) A (.compLoop (.ListComp elt [⟨.Tuple [.Name a pa, .Name b pb] kk tp, iter, [], 0⟩] scope pos) 0 (.ref e) (.ref s₂.heap.objs.size) (compEnvC scope cl H2.objs.size env))
        (RR (.ref s₂.heap.objs.size) H2.objs.size) s₃ := by
    rintro s₃ rfl
    refine LCp.codeAny_compLoop_pair
      (fun k s' => ∃ h' tk i m' ts, s' = { s₂ with heap := h', toks := tk } ∧ i ≤ items.size ∧ k = items.size + 1 - i ∧ ((∃ old, IsEnum h' e it (i : Nat) old) ∧ h'.IsListIter it l i ∧ h'.IsList l items) ∧ Fr h₀ L h' m ∧ h'.Ns H2.objs.size m' ∧
        News h₀ L h' ((s₂.heap.objs.size, LCg.lst (ts.map fun p => Value.ref p.1)) :: (ts.map tupE ++ news)) ∧ (∀ p ∈ ts.map tupE ++ news, p.1 ≠ e ∧ p.1 ≠ it ∧ p.1 ≠ H2.objs.size ∧ p.1 ≠ s₂.heap.objs.size) ∧ EnumTs items i ts) ?_ (items.size + 1)
      ⟨h₁, _, 0, _, [], rfl, Nat.zero_le _, rfl, hst₁, F.keeps old, hns₁, fun p hp => ?_, fun p hp => ⟨(off p hp).1, (off p hp).2, below _ (Heap.lt_size (N p hp).1)⟩, rfl, fun j p hp => by simp at hp⟩
    · rintro k s' ⟨h', tk, i, m', ts, rfl, hi, rfl, hst', F', hn', N', off', hts⟩
      by_cases hlt : i < items.size
      · refine W.item i _ _ _ hlt hst' fun T vals h₂ tk₂ hP hT hMd hk₂ => ?_
        obtain ⟨t, v, hv, rfl⟩ := hP
        have hTw : T ∉ [e, it] := W.apart i T _ hMd
        refine W.go _ _ _ i T _ _ _ hMd fun h₃ hst₃ hk₃ => ?_
        have up₃ : ∀ c o, c ∉ [e, it] → h'.get? c = some o → h₃.get? c = some o := fun c o hc x => hk₃ c o hc (hk₂ c o hc x)
        have hT₃ : h₃.IsTuple T #[.int i t, v] := hT.at fun o x => hk₃ T o hTw x
        refine kcp_assign (env := compEnvC scope cl H2.objs.size env) hh hT₃ (lookup_relabel_local hxa) (lookup_relabel_local hxb) (by simp [compEnvC, relabel, hkind]) (hn'.at' fun o x => up₃ _ o (by simp [Ne.symm hCI, Ne.symm hCJ]) x) fun h₄ tk₄ hn₄ hs₄ => ?_
        have up : ∀ c o, c ∉ [e, it] → c ≠ H2.objs.size → h'.get? c = some o → h₄.get? c = some o := fun c o h1 h2 x => hs₄ c o h2 (up₃ c o h1 x)
        have hst₄ : (∃ old, IsEnum h₄ e it ((i + 1 : Nat) : Int) old) ∧ h₄.IsListIter it l (i + 1) ∧ h₄.IsList l items := W.frame (i + 1) _ _ hst₃ fun b hb o x => hs₄ b o (fun q => by
          subst q
          simp only [List.mem_cons, List.not_mem_nil, or_false] at hb
          rcases hb with q | q | q
          · exact hCI q.symm
          · exact hCJ q.symm
          · exact (off' _ (List.mem_append_right _ hml)).2.2.1 q.symm) x
        obtain ⟨⟨oldE, heE⟩, heT, heL⟩ := hst₄
        have heT' := heT
        obtain ⟨oit, hoit, hcit, hdit⟩ := heT'
        obtain ⟨oC, heC, hoC⟩ := LCg.ns_obj hn₄
        have F₄ : Fr h₀ L h₄ m := ⟨F'.ns.at' fun o x => up _ o (by simp [hIL, hJL]) (Ne.symm hCL) x, fun c o x => up c o (fun q => by
          rcases List.mem_cons.mp q with rfl | q
          · rw [hI₀] at x; cases x
          · rw [List.mem_singleton.mp q, hJ₀] at x; cases x) (fun q => by rw [q, hC₀] at x; cases x) (F'.keep c o x), F'.above⟩
        have N₄ : News h₀ L h₄ ((e, { cls := .type "enumerate", dict := none, data := .fields #[.none, .bool false, .ref it, rawInt ((i + 1 : Nat) : Int), .none, oldE], slots := #[] }) :: (H2.objs.size, oC) :: (s₂.heap.objs.size, LCg.lst (ts.map fun p => Value.ref p.1)) :: (it, oit) :: (ts.map tupE ++ news)) := fun q hq => by
          rcases List.mem_cons.mp hq with rfl | hq
          · exact ⟨heE, Ne.symm hIL, hI₀⟩
          · rcases List.mem_cons.mp hq with rfl | hq
            · exact ⟨heC, hCL, hC₀⟩
            · rcases List.mem_cons.mp hq with rfl | hq
              · have z := N' _ (List.mem_cons_self)
                exact ⟨up _ _ (by simp [Ne.symm hDI, Ne.symm hDJ]) hDC z.1, z.2⟩
              · rcases List.mem_cons.mp hq with rfl | hq
                · exact ⟨hoit, Ne.symm hJL, hJ₀⟩
                · have z := N' _ (List.mem_cons_of_mem _ hq)
                  have z2 := off' _ hq
                  exact ⟨up _ _ (by simp [z2.1, z2.2.1]) z2.2.2.1 z.1, z.2⟩
        have off3 : LCg.Off3 e H2.objs.size s₂.heap.objs.size ((it, oit) :: (ts.map tupE ++ news)) := LCg.Off3.of fun q hq => by
          rcases List.mem_cons.mp hq with rfl | hq
          · exact ⟨Ne.symm hei, hCJ, hDJ⟩
          · exact ⟨(off' _ hq).1, (off' _ hq).2.2.1, (off' _ hq).2.2.2⟩
        refine wpAny_mono (R i v t _ _ e _ H2.objs.size oC s₂.heap.objs.size _ h₄ tk₄ _ hv hoC (by simp [hab]) (by simp) F₄ N₄ off3 ⟨hCI, hDI, Ne.symm hDC⟩) (fun y s₅ h₅ => ?_) fun _ _ x => x
        obtain ⟨h₅, tk₅, T₅, rfl, rfl, F₅, N₅, lt1, lt2, lt3⟩ := h₅
        have zT := (N₅ _ (.head _))
        have zI := (N₅ _ (.tail _ (.head _))).1
        have zC := (N₅ _ (.tail _ (.tail _ (.head _)))).1
        have zD := (N₅ _ (.tail _ (.tail _ (.tail _ (.head _))))).1
        have zit := (N₅ _ (.tail _ (.tail _ (.tail _ (.tail _ (.head _)))))).1
        have hTit : T₅ ≠ it := fun q => by
          have z := zT.1
          dsimp only at z
          rw [q, zit] at z
          obtain rfl := Option.some.inj z
          exact absurd (show (Value.type "tuple") = Value.type "list_iterator" from hcit) (by decide)
        have Nr : ∀ p ∈ ts.map tupE ++ news, h₅.get? p.1 = some p.2 ∧ p.1 ≠ L ∧ h₀.get? p.1 = none := fun p hp => N₅ p (.tail _ (.tail _ (.tail _ (.tail _ (.tail _ hp)))))
        refine append_at (hsz := by show (ts.map fun p => Value.ref p.1).toArray.size ≤ sizeLine; rw [List.size_toArray, List.length_map, hts.1]; exact Nat.le_trans hi hsz) zD fun h₆ hs₆ hD₆ => ?_
        refine ⟨items.size + 1 - (i + 1), by omega, h₆, tk₅, i + 1, _, ts ++ [(T₅, v, (i : Int), t)], rfl, hlt, rfl, ⟨⟨_, hs₆.extBut e _ hDI zI⟩, ⟨oit, hs₆.extBut it _ hDJ zit, hcit, hdit⟩, ⟨_, hs₆.extBut l _ ?_ (Nr _ (List.mem_append_right _ hml)).1, rfl, _, rfl⟩⟩, F₅.change hs₆ hDL hD₀,
          (hoC.ns zC).sameBut hs₆ (Ne.symm hDC), fun q hq => ?_, fun q hq => ?_, hts.snoc hv⟩
        · exact (off' _ (List.mem_append_right _ hml)).2.2.2
        · rcases List.mem_cons.mp hq with rfl | hq
          · refine ⟨hD₆.trans (congrArg some ?_), hDL, hD₀⟩
            rw [List.map_append]
            exact LCg.lst_snoc _ _
          · rw [List.map_append, List.append_assoc] at hq
            rcases List.mem_append.mp hq with hq | hq
            · exact ⟨hs₆.extBut _ _ (off' _ (List.mem_append_left _ hq)).2.2.2 (Nr _ (List.mem_append_left _ hq)).1, (Nr _ (List.mem_append_left _ hq)).2⟩
            · rcases List.mem_append.mp hq with hq | hq
              · obtain rfl := List.mem_singleton.mp hq
                exact ⟨hs₆.extBut _ _ (Nat.ne_of_gt lt3) zT.1, zT.2⟩
              · exact ⟨hs₆.extBut _ _ (off' _ (List.mem_append_right _ hq)).2.2.2 (Nr _ (List.mem_append_right _ hq)).1, (Nr _ (List.mem_append_right _ hq)).2⟩
        · rw [List.map_append, List.append_assoc] at hq
          rcases List.mem_append.mp hq with hq | hq
          · exact off' _ (List.mem_append_left _ hq)
          · rcases List.mem_append.mp hq with hq | hq
            · obtain rfl := List.mem_singleton.mp hq
              exact ⟨Nat.ne_of_gt lt1, hTit, Nat.ne_of_gt lt2, Nat.ne_of_gt lt3⟩
            · exact off' _ (List.mem_append_right _ hq)
      · obtain rfl : i = items.size := Nat.le_antisymm hi (Nat.not_lt.mp hlt)
        refine W.done _ _ _ hst' fun h₂ tk₂ hk₂ => ?_
        exact hRR _ _ h₂ tk₂ _ ts (fr_but2 F' hk₂ hIL hJL hI₀ hJ₀) (news_but2 N' hk₂ fun p hp => by
          rcases List.mem_cons.mp hp with rfl | hp
          · exact ⟨Ne.symm hDI, Ne.symm hDJ⟩
          · exact ⟨(off' p hp).1, (off' p hp).2.1⟩) (fun p hp => (off' p hp).2.2.2) (hn'.at' fun o x => hk₂ _ o (by simp [Ne.symm hCI, Ne.symm hCJ]) x) hC₀ hD₀ hCL hDL (Ne.symm hDC) (fun p hp => (off' p hp).2.2.1) hts
    · rcases List.mem_cons.mp hp with rfl | hp
      · exact ⟨hacc, hDL, hD₀⟩
      · exact ⟨old _ _ (N p hp).1, (N p hp).2⟩
  exact codeAny_compStart_list (loop _ rfl) (W.self 0 _ _ _ hst₁ (loop _ rfl))
end
section
variable {prog : Program} {w : World} {A : Around} {E : Value → Shared → Prop} {s : Shared} {h₀ : Heap} {L : Addr} {m : Str → Option Value} {env : Env}
structure SrcE (prog : Program) (w : World) (A : Around) (h₀ : Heap) (L : Addr) (m : Str → Option Value) (env : Env) (elt : PySem.Expr) (a b : Str) (scope : Scope) (cl : List (Str × Addr)) (Q : Value → Shared → Prop) (xv : Value) (s₁ : Shared) : Prop where
  is : ∃ (e it l : Addr) (items : Array Value) (cap : Nat) (news : List (Addr × Obj)), xv = .ref e ∧ A.handled = none ∧ e ≠ it ∧ items.size ≤ sizeLine ∧ (l, ({ cls := .type "list", data := .seq items cap } : Obj)) ∈ news ∧ IsEnum s₁.heap e it 0 .none ∧ s₁.heap.IsListIter it l 0 ∧
    Fr h₀ L s₁.heap m ∧ News h₀ L s₁.heap news ∧ L ≠ e ∧ L ≠ it ∧ h₀.get? e = none ∧ h₀.get? it = none ∧ (∀ p ∈ news, p.1 ≠ e ∧ p.1 ≠ it) ∧ TurnE prog w A h₀ L m env elt a b scope cl s₁ items ∧
    ∀ ts D h tk, EnumTs items items.size ts → Fr h₀ L h m → News h₀ L h ((D, LCg.lst (ts.map fun p => Value.ref p.1)) :: (ts.map tupE ++ news)) → (∀ p ∈ ts.map tupE ++ news, p.1 ≠ D) → Q (.ref D) { s₁ with heap := h, toks := tk }
theorem ListComp_E {elt iter : PySem.Expr} {a b : Str} {pa pb tp : Pos} {kk : Nat} {scope : Scope} {cl : List (Str × Addr)} {pos : Pos} {Q : Value → Shared → Prop} (h₀ : Heap) (L : Addr) (m : Str → Option Value)
    (hclos : closureFor scope env = pure cl) (hcell : ∀ y ∈ scope.names, y.2 ≠ .cell) (hkind : scope.kind = .function)
    (hnames : ∀ y ∈ scope.names, y.2 = .local → scope.names.lookup y.1 = some .local) (hxa : scope.names.lookup a = some .local) (hxb : scope.names.lookup b = some .local) (hab : ¬ a = b)
    (h : wpAny (model prog w) A (eval iter env) (SrcE prog w A h₀ L m env elt a b scope cl Q) E s)
    (hs : ∀ x, foldedSetIterable iter env x = pure x := by intro _; rfl) :
    wpAny (model prog w) A (eval (.ListComp elt [⟨.Tuple [.Name a pa, .Name b pb] kk tp, iter, [], 0⟩] scope pos) env) Q E s := by
  rw [eval_ListComp]
  refine wpAny_comprehension_free (use := none) rfl hs hclos hkind hnames (wpAny_mono h (fun xv s₁ h₁ => ?_) fun _ _ e => e)
  obtain ⟨e, it, l, items, cap, news, rfl, hh, hei, hsz, hml, he, hit, F, N, n1, n2, n3, n4, off, turn, fin⟩ := h₁
  refine wpAny_pyIter_enum he ?_
  refine block_E hh hei hsz hml he hit hcell hkind hxa hxb hab F N n1 n2 n3 n4 off turn ?_
  intro D C h tk m' ts F' N' o1 hn hC₀ hD₀ hCL hDL hCD offC j
  refine ⟨m', hn, fun h'' hs'' => fin ts D h'' tk j (F'.change hs'' hCL hC₀) (fun p hp => ?_) o1⟩
  refine ⟨hs''.extBut _ _ ?_ (N' p hp).1, (N' p hp).2⟩
  rcases List.mem_cons.mp hp with rfl | hp
  · exact Ne.symm hCD
  · exact offC p hp
theorem enum_src {elt : PySem.Expr} {a b : Str} {scope : Scope} {cl : List (Str × Addr)} {Q : Value → Shared → Prop} {l : Addr} {items : Array Value} {cap : Nat} {news : List (Addr × Obj)} (hh : A.handled = none) (F : Fr h₀ L s.heap m) (N : News h₀ L s.heap news) (hml : (l, ({ cls := .type "list", data := .seq items cap } : Obj)) ∈ news) (hsz : items.size ≤ sizeLine)
    (turn : TurnE prog w A h₀ L m env elt a b scope cl s items)
    (fin : ∀ ts D h tk, EnumTs items items.size ts → Fr h₀ L h m → News h₀ L h ((D, LCg.lst (ts.map fun p => Value.ref p.1)) :: (ts.map tupE ++ news)) → (∀ p ∈ ts.map tupE ++ news, p.1 ≠ D) → Q (.ref D) { s with heap := h, toks := tk }) :
    wpAny (model prog w) A (call (.type "enumerate") [.ref l]) (SrcE prog w A h₀ L m env elt a b scope cl Q) E s := by
  refine call_enumerate_list ⟨_, (N _ hml).1, rfl, _, rfl⟩ fun h' he hit hz hk => ?_
  have lt : ∀ p ∈ news, p.1 < s.heap.objs.size := fun p hp => Heap.lt_size (N p hp).1
  have hL : L < s.heap.objs.size := F.ns.lt
  have fr : ∀ a, s.heap.objs.size ≤ a → h₀.get? a = none := fun a ha => by
    cases e : h₀.get? a with
    | none => rfl
    | some o' => exact absurd (Heap.lt_size (F.keep a o' e)) (Nat.not_lt.mpr ha)
  exact ⟨_, _, l, items, cap, news, rfl, hh, Nat.succ_ne_self _, hsz, hml, he, hit, F.keeps hk, N.grown hk, Nat.ne_of_lt (Nat.lt_succ_of_lt hL), Nat.ne_of_lt hL, fr _ (Nat.le_succ _), fr _ (Nat.le_refl _), fun p hp => ⟨Nat.ne_of_lt (Nat.lt_succ_of_lt (lt p hp)), Nat.ne_of_lt (lt p hp)⟩, turn, fin⟩
end
section
variable {prog : Program} {w : World} {A : Around} {s : Shared} {K : Frag} {mg mb : Str → Option Value} {mean : ExcName → Option Value}
  {R : Result → Shared → Prop} {p : Program} {loose : List Str}
  {name qual : Str} {params : Arguments} {body : List Stmt} {scope : Scope} {dV kV doc pm cdv ct oc : Value} {an od : Option Addr} {osl : Array (Option Value)} {f : Addr} {args : Args} {binds : List (Str × Value)}
/-- a def with captured names is entered over a base -/
theorem enterCG {g : Heap} {led : List (Addr × Obj)} (on : On g led s.heap) (X : K.In g) (T : Top p loose mean mg mb g)
    (ho : K.lookup f = some ⟨oc, od, .func (fnOf name qual params body scope dV kV doc pm an cdv ct), osl⟩) (hcd : codeIn K cdv qual = true) (hroom : A.depth < recursionLimit)
    (hbind : BindsTo s (fnOf name qual params body scope dV kV doc pm an cdv ct) args binds)
    (hkind : (binds.all fun y => scope.names.lookup y.1 == some .local || scope.names.lookup y.1 == some .cell) = true)
    (hnd : ((cellsFrom 0 scope.names []).map (·.1)).Nodup)
    (h : ∀ L h₁ tk cells, Fr g L h₁ (bindL (envOfC qual scope L f cdv).kindOf binds fun _ => none) → News g L h₁ (cells ++ led) → (∀ b o, s.heap.get? b = some o → h₁.get? b = some o) →
      CellsAre (bindC (envOfC qual scope L f cdv).kindOf binds fun _ => none) (cellsFrom (L + 1) scope.names []) cells → (∀ q ∈ led, ∀ d ∈ cells, q.1 ≠ d.1) →
      wpAny (model prog w) (A.deeper (envOfC qual scope L f cdv)) (execs body (envOfC qual scope L f cdv))
        (fun fl s' => R (.ok (.ret (match fl with | .ret v => v | _ => .none))) s') (fun _ _ => False)
        { s with heap := h₁, toks := tk })
    (hco : scope.isCoroutine = false) (hgen : scope.isGenerator = false) (hk : scope.kind = .function) : codeAny (model prog w) A (.call (.ref f) args) R s := by
  refine enterC (X.keeps on.keep) (T.keeps on.keep) ho hcd hroom hbind hkind hnd (fun L h₁ tk cells F N CA => ?_) hco hgen hk
  refine h L h₁ tk cells ⟨F.ns, fun b o e => F.keep _ _ (on.keep _ _ e), Nat.le_trans on.size F.above⟩ (fun q hq => ?_) F.keep CA fun q hq d hd e => ?_
  · rcases List.mem_append.mp hq with hq | hq
    · refine ⟨(N q hq).1, (N q hq).2.1, ?_⟩
      cases z : g.get? q.1 with
      | none => rfl
      | some o => have := (N q hq).2.2; rw [on.keep _ _ z] at this; cases this
    · exact ⟨F.keep _ _ (on.led q hq).1, fr_ne F (on.led q hq).1, (on.led q hq).2⟩
  · have := (N d hd).2.2
    rw [← e, (on.led q hq).1] at this
    cases this
end
theorem news_on {h₀ h h' : Heap} {L : Addr} {m : Str → Option Value} {news led : List (Addr × Obj)} (F : Fr h₀ L h m) (N : News h₀ L h news) (on : On h led h') :
    Fr h₀ L h' m ∧ News h₀ L h' (led ++ news) ∧ ∀ p ∈ news, ∀ q ∈ led, p.1 ≠ q.1 := by
  refine ⟨F.keeps on.keep, fun p hp => ?_, fun p hp q hq e => ?_⟩
  · rcases List.mem_append.mp hp with hp | hp
    · refine ⟨(on.led p hp).1, fun e => ?_, ?_⟩
      · have z := (on.led p hp).2
        obtain ⟨oL, _, _, hL, _⟩ := F.ns
        rw [e, hL] at z; cases z
      · cases z : h₀.get? p.1 with
        | none => rfl
        | some o => have := (on.led p hp).2; rw [F.keep _ _ z] at this; cases this
    · exact ⟨on.keep _ _ (N p hp).1, (N p hp).2⟩
  · have z := (on.led q hq).2
    rw [← e, (N p hp).1] at z; cases z

/-- two values are equal in this heap -/
def EqW (prog : Program) (w : World) (A : Around) (s : Shared) (v y : Value) : Prop := ∀ (E : Value → Shared → Prop) (Q : Bool → Shared → Prop), Q true s → wpAny (model prog w) A (eqBool v y) Q E s
section
open PySem.SeqAt PySem.MeetsSeq PySem.MeetsSeq2 PySem.MeetsSeq3 PySem.SeqRoads2 PySem.AutoSeq1
variable {prog : Program} {w : World} {A : Around} {E : Value → Shared → Prop} {s : Shared} {l b : Addr} {items items2 : Array Value} {Q : Value → Shared → Prop}
theorem EqW.of {v y : Value} (h : EqAt A s v y true) : EqW prog w A s v y := fun E Q hq => h prog w E Q hq
theorem EqW.refs (h : ∀ (E : Value → Shared → Prop) (Q : Value → Shared → Prop), Q (.bool true) s → wpAny (model prog w) A (richCompare .Eq (.ref l) (.ref b)) Q E s) : EqW prog w A s (.ref l) (.ref b) := by
  by_cases e : l = b
  · subst e; exact EqW.of (EqAt.same _)
  · intro E Q hq
    unfold eqBool
    refine wpAny_holding ?_
    refine wpAny_ite_split (fun hab => absurd (by have := eq_of_beq hab; injection this) e) (fun _ => ?_)
    exact wpAny_bind (h E _ (wpAny_truthy_bool hq))
theorem eqw_loop {op : CmpOp} {code : Nat} {r : Bool} (hop : (op = .Eq ∧ code = 2 ∧ r = true) ∨ (op = .NotEq ∧ code = 3 ∧ r = false)) {n n2 : Nat} {dd dd2 : Option Addr} {sl sl2 : Array (Option Value)} (hsz : items.size = items2.size) (k : Nat) :
    ∀ (i : Nat) (R : Result → Shared → Prop) (s : Shared), items.size - i = k → s.heap.get? l = some { cls := .type "list", dict := dd, data := .seq items n, slots := sl } → s.heap.get? b = some { cls := .type "list", dict := dd2, data := .seq items2 n2, slots := sl2 } →
      (∀ j (h1 : j < items.size) (h2 : j < items2.size), EqW prog w A.in1 s items[j] items2[j]) → R (.ok (.ret (.bool r))) s →
      wpAny (model prog w) A.in1 (Builtin.«list.__eq__.loop» ⟨[.ref l, .ref b, rawInt i, rawInt code], []⟩) (fun fin s' => match fin with | .done f => R (.ok f) s' | .again c' => c'.quiet = true ∧ codeAny (model prog w) A c' R s') (fun e s' => R (.error e) s') s := by
  induction k with
  | zero =>
    intro i R s hk hl hb he hR
    obtain ⟨hp, g, d, tk, os⟩ := s
    dsimp only at hl hb
    have hi1 : items[((i : Nat) : Int).toNat]? = none := by simp; omega
    have hi2 : items2[((i : Nat) : Int).toNat]? = none := by simp; omega
    rcases hop with ⟨rfl, rfl, rfl⟩ | ⟨rfl, rfl, rfl⟩
    all_goals
      wp_walk using wpAny_loadPart' hl, wpAny_loadPart' hb
      rw [hi1, hi2]
      wp_walk using wpAny_loadPart' hl, wpAny_loadPart' hb
    · show R (.ok (.ret (.bool (items.size == items2.size)))) _
      rw [hsz, beq_self_eq_true]; exact hR
    · show R (.ok (.ret (.bool (items.size != items2.size)))) _
      rw [hsz, bne_self_eq_false]; exact hR
  | succ k ih =>
    intro i R s hk hl hb he hR
    have ih' := ih (i + 1) R s (by omega) hl hb he hR
    obtain ⟨hp, g, d, tk, os⟩ := s
    dsimp only at hl hb
    have hlt : i < items.size := by omega
    have hlt2 : i < items2.size := by omega
    have hi1 : items[((i : Nat) : Int).toNat]? = some items[i] := by simp [hlt]
    have hi2 : items2[((i : Nat) : Int).toNat]? = some items2[i] := by simp [hlt2]
    have hc : ((i : Int) + 1) = ((i + 1 : Nat) : Int) := by push_cast; rfl
    rcases hop with ⟨rfl, rfl, rfl⟩ | ⟨rfl, rfl, rfl⟩
    all_goals
      wp_walk using wpAny_loadPart' hl, wpAny_loadPart' hb
      rw [hi1, hi2]
      refine wpAny_bind (he i hlt hlt2 _ _ ?_)
      wp_walk
      rw [hc]
      exact ⟨plainId_quiet plain_eq_loop _, codeAny_builtin entry_eq_loop (by
        rw [Around.under_plainId plain_eq_loop _]
        exact ih')⟩
theorem eqw_lists (hl : s.heap.IsList l items) (hb : s.heap.IsList b items2) (hsz : items.size = items2.size) (hu : A.units < cLine) (he : ∀ j (h1 : j < items.size) (h2 : j < items2.size), EqW prog w A.in1 s items[j] items2[j]) (h : Q (.bool true) s) :
    wpAny (model prog w) A (richCompare .Eq (.ref l) (.ref b)) Q E s := by
  obtain ⟨⟨cls, dd, data, sl⟩, ho, hc, n, hd⟩ := id hl
  obtain ⟨⟨cls2, dd2, data2, sl2⟩, ho2, hc2, n2, hd2⟩ := id hb
  simp only at hc hd hc2 hd2
  subst hc hd hc2 hd2
  refine wpAny_richCompare_same_room (op := .Eq) ⟨_, ho, rfl⟩ ⟨_, ho2, rfl⟩ F.slot_list_eq (wpAny_call (codeAny_call_builtin F.slot_list_eq.plain F.entry_list_eq (F.slot_list_eq.check _ _ _ _ _ _ _ _ ⟨_, ho, rfl⟩ (F.args_list_eq_2 _ _) ?_))) hu
  have lp := eqw_loop (prog := prog) (w := w) (A := A) (l := l) (b := b) (.inl ⟨rfl, rfl, rfl⟩) hsz _ 0 (wants (fun v s' => v ≠ .notImplemented ∧ Q v s') E) s rfl ho ho2 he ⟨(fun x => nomatch x), h⟩
  obtain ⟨hp, g, d, tk, os⟩ := s
  dsimp only at ho ho2
  have f3 := AutoSeq1.sub_list_list
  have hne : ¬ (items.size != items2.size) = true := by simp [hsz]
  wp_walk using wpAny_loadPart' ho, wpAny_loadPart' ho2
  exact ⟨plainId_quiet plain_eq_loop _, codeAny_builtin entry_eq_loop (by
    rw [Around.under_plainId plain_eq_loop _]
    exact lp)⟩
theorem new_lists (hl : s.heap.IsList l items) (hb : s.heap.IsList b items2) (hsz : items.size = items2.size) (hu : A.units < cLine) (he : ∀ j (h1 : j < items.size) (h2 : j < items2.size), EqW prog w A.in1 s items[j] items2[j]) (h : Q (.bool false) s) :
    wpAny (model prog w) A (richCompare .NotEq (.ref l) (.ref b)) Q E s := by
  obtain ⟨⟨cls, dd, data, sl⟩, ho, hc, n, hd⟩ := id hl
  obtain ⟨⟨cls2, dd2, data2, sl2⟩, ho2, hc2, n2, hd2⟩ := id hb
  simp only at hc hd hc2 hd2
  subst hc hd hc2 hd2
  refine wpAny_richCompare_same_room (op := .NotEq) ⟨_, ho, rfl⟩ ⟨_, ho2, rfl⟩ F.slot_list_ne (wpAny_call (codeAny_call_builtin F.slot_list_ne.plain F.entry_list_ne (F.slot_list_ne.check _ _ _ _ _ _ _ _ ⟨_, ho, rfl⟩ (F.args_list_ne_2 _ _) ?_))) hu
  have lp := eqw_loop (prog := prog) (w := w) (A := A) (l := l) (b := b) (.inr ⟨rfl, rfl, rfl⟩) hsz _ 0 (wants (fun v s' => v ≠ .notImplemented ∧ Q v s') E) s rfl ho ho2 he ⟨(fun x => nomatch x), h⟩
  obtain ⟨hp, g, d, tk, os⟩ := s
  dsimp only at ho ho2
  have f3 := AutoSeq1.sub_list_list
  have hne : ¬ (items.size != items2.size) = true := by simp [hsz]
  wp_walk using wpAny_loadPart' ho, wpAny_loadPart' ho2
  exact ⟨plainId_quiet plain_eq_loop _, codeAny_builtin entry_eq_loop (by
    rw [Around.under_plainId plain_eq_loop _]
    exact lp)⟩
theorem new_pairs {v1 v2 u1 u2 : Value} (hl : s.heap.IsTuple l #[v1, v2]) (hb : s.heap.IsTuple b #[u1, u2]) (hu : A.units < cLine) (e1 : EqW prog w A.in1 s v1 u1) (e2 : EqW prog w A.in1 s v2 u2) (h : Q (.bool false) s) :
    wpAny (model prog w) A (richCompare .NotEq (.ref l) (.ref b)) Q E s := by
  obtain ⟨⟨cls, dd, data, sl⟩, ho, hc, n, hd⟩ := id hl
  obtain ⟨⟨cls2, dd2, data2, sl2⟩, ho2, hc2, n2, hd2⟩ := id hb
  simp only at hc hd hc2 hd2
  subst hc hd hc2 hd2
  refine wpAny_richCompare_same_room (op := .NotEq) ⟨_, ho, rfl⟩ ⟨_, ho2, rfl⟩ F.slot_tuple_ne (wpAny_call_entry F.slot_tuple_ne ⟨_, ho, rfl⟩ F.entry_tuple_ne ?_ (F.args_tuple_ne_2 _ _)) hu
  obtain ⟨hp, g, d, tk, os⟩ := s
  dsimp only at ho ho2
  have f2 := AutoSeq1.sub_tuple_tuple
  wp_walk using wpAny_loadPart' ho, wpAny_loadPart' ho2, wpAny_forIn_list _ (fun rest bb s' => bb.1 = none ∧ s' = ⟨hp, g, d, tk, os⟩ ∧ ∀ p ∈ rest, EqW prog w A.in1 ⟨hp, g, d, tk, os⟩ p.1 p.2) _
  case turn =>
    rintro ⟨y, x⟩ rest bb s' ⟨hb', rfl, hall⟩
    refine wpAny_bind (hall (y, x) (.head _) _ _ ?_)
    wp_walk
    exact ⟨rfl, rfl, fun p hp' => hall p (.tail _ hp')⟩
  case fin =>
    rintro ⟨b1, b2⟩ s' ⟨hb', rfl, _⟩
    simp only at hb'
    subst hb'
    wp_walk
    exact ⟨_, rfl, (fun x => nomatch x), h⟩
  case h =>
    refine ⟨rfl, rfl, fun p hp' => ?_⟩
    rcases List.mem_cons.mp hp' with rfl | hp'
    · exact e1
    · rw [List.mem_singleton.mp hp']; exact e2
end

/-- two plain values that are equal, or one object -/
def VEq (v y : Value) : Prop := v = y ∨ (∃ a t u, v = .int a t ∧ y = .int a u) ∨ ∃ a t u, v = .str a t ∧ y = .str a u
section
open PySem.SeqAt
variable {prog : Program} {w : World} {A : Around} {E : Value → Shared → Prop} {s : Shared} {K : Type} [DecidableEq K] {knd : KeyKind prog w K} {a b : Addr} {ka kb : List (K × Value)} {Q : Value → Shared → Prop}
theorem VEq.eqAt {v y : Value} (h : VEq v y) : EqAt A s v y true := by
  rcases h with rfl | ⟨a, t, u, rfl, rfl⟩ | ⟨a, t, u, rfl, rfl⟩
  · exact EqAt.same v
  · have := EqAt.int_int (A := A) (s := s) a t a u
    rw [beq_self_eq_true] at this; exact this
  · have := EqAt.str_str (A := A) (s := s) a t a u
    rw [beq_self_eq_true] at this; exact this
theorem VEq.eqW {v y : Value} (h : VEq v y) : EqW prog w A s v y := EqW.of h.eqAt
theorem valueAt_mem {k : K} {v : Value} : ∀ {l : List (K × Value)}, (l.map (·.1)).Nodup → (k, v) ∈ l → valueAt l k = some v
  | [], _, h => nomatch h
  | (k', v') :: r, nd, h => by
    rw [List.map_cons, List.nodup_cons] at nd
    unfold valueAt
    rcases List.mem_cons.mp h with e | h
    · injection e with e1 e2
      subst e1 e2
      simp
    · have ne : ¬ k' = k := fun e => nd.1 (List.mem_map.mpr ⟨(k, v), h, e.symm⟩)
      rw [List.find?_cons]
      simp only [ne, decide_false]
      exact valueAt_mem nd.2 h
theorem valueAt_some {k : K} {v : Value} {l : List (K × Value)} (h : valueAt l k = some v) : (k, v) ∈ l := by
  unfold valueAt at h
  cases e : l.find? fun kv => decide (kv.1 = k) with
  | none => rw [e] at h; cases h
  | some p =>
    rw [e] at h
    have h1 := List.mem_of_find?_eq_some e
    have h2 := List.find?_some e
    simp only [decide_eq_true_eq] at h2
    simp only [Option.map_some, Option.some.injEq] at h
    rw [← h, ← h2]; exact h1
theorem valueAt_keys {k : K} {l : List (K × Value)} : (valueAt l k).isSome = true ↔ k ∈ l.map (·.1) := by
  constructor
  · intro h
    obtain ⟨v, hv⟩ := Option.isSome_iff_exists.mp h
    exact List.mem_map.mpr ⟨_, valueAt_some hv, rfl⟩
  · intro h
    obtain ⟨p, hp, rfl⟩ := List.mem_map.mp h
    unfold valueAt
    rw [Option.isSome_map, List.find?_isSome]
    exact ⟨p, hp, by simp⟩
theorem hits_of : ∀ l : List (K × Value), (∀ p ∈ l, ∃ y, valueAt kb p.1 = some y ∧ VEq p.2 y) → KeqHits A s kb l true
  | [], _ => .nil
  | (k, v) :: r, h => by
    obtain ⟨y, h1, h2⟩ := h (k, v) (.head _)
    exact .hit (e := true) (b := true) h1 h2.eqAt (hits_of r fun p hp => h p (.tail _ hp))
/-- the same keys, and equal values -/
structure SameD (ka kb : List (K × Value)) : Prop where
  to : ∀ k v, valueAt ka k = some v → ∃ y, valueAt kb k = some y ∧ VEq v y
  back : ∀ k, k ∈ kb.map (·.1) → k ∈ ka.map (·.1)
theorem SameD.len (h : SameD ka kb) (na : (ka.map (·.1)).Nodup) (nb : (kb.map (·.1)).Nodup) : ka.length = kb.length := by
  have p : List.Perm (ka.map (·.1)) (kb.map (·.1)) := (List.perm_ext_iff_of_nodup na nb).mpr fun k => ⟨fun hk => by
    obtain ⟨v, hv⟩ := Option.isSome_iff_exists.mp (valueAt_keys.mpr hk)
    obtain ⟨y, hy, _⟩ := h.to k v hv
    exact valueAt_keys.mp (by rw [hy]; rfl), h.back k⟩
  simpa using p.length_eq
theorem SameD.hits (h : SameD ka kb) (na : (ka.map (·.1)).Nodup) : KeqHits A s kb ka true := hits_of ka fun p hp => h.to p.1 p.2 (valueAt_mem na hp)
theorem SameD.refl (ka : List (K × Value)) : SameD ka ka := ⟨fun _ v h => ⟨v, h, .inl rfl⟩, fun _ h => h⟩
theorem dict_eq (ha : (a == sysModules) = false) (hb : (b == sysModules) = false) (da : s.heap.DictOf knd a ka) (db : s.heap.DictOf knd b kb) (hu : A.units < cLine) (sm : SameD ka kb) (h : Q (.bool true) s) :
    wpAny (model prog w) A (compareOp .Eq (.ref a) (.ref b)) Q E s := by
  refine keq_eq ha hb da db hu (fun _ => sm.hits (dict_nodup da)) ?_
  rw [sm.len (dict_nodup da) (dict_nodup db), beq_self_eq_true]; exact h
theorem dict_ne (ha : (a == sysModules) = false) (hb : (b == sysModules) = false) (da : s.heap.DictOf knd a ka) (db : s.heap.DictOf knd b kb) (hu : A.units < cLine) (sm : SameD ka kb) (h : Q (.bool false) s) :
    wpAny (model prog w) A (compareOp .NotEq (.ref a) (.ref b)) Q E s := by
  refine keq_ne ha hb da db hu (fun _ => sm.hits (dict_nodup da)) ?_
  rw [sm.len (dict_nodup da) (dict_nodup db), beq_self_eq_true]; exact h
theorem dict_eqW (ha : (a == sysModules) = false) (hb : (b == sysModules) = false) (da : s.heap.DictOf knd a ka) (db : s.heap.DictOf knd b kb) (hu : A.units < cLine) (sm : SameD ka kb) : EqW prog w A s (.ref a) (.ref b) :=
  EqW.refs fun _ _ hq => dict_eq ha hb da db hu sm hq
end
section
variable {prog : Program} {w : World} {A : Around} {E : Value → Shared → Prop} {s : Shared} {a b : Addr} {P P' : List (Int × Str)} {Q : Value → Shared → Prop}
theorem sameD_of {ka kb : List (Int × Value)} (ha : AllStr ka) (hb : AllStr kb) (e : ∀ k, at' (proj ka) k = at' (proj kb) k) : SameD ka kb := by
  refine ⟨fun k v h => ?_, fun k h => ?_⟩
  · have := e k
    rw [at_proj, at_proj, h] at this
    cases hy : valueAt kb k with
    | none => rw [hy] at this; cases this
    | some y =>
      rw [hy] at this
      simp only [Option.map_some, Option.some.injEq] at this
      obtain ⟨t, e1⟩ := ha.at h
      obtain ⟨u, e2⟩ := hb.at hy
      rw [e1, e2]
      exact ⟨_, rfl, .inr (.inr ⟨strOf v, t, u, rfl, by rw [this]⟩)⟩
  · have := e k
    rw [at_proj, at_proj] at this
    refine valueAt_keys.mp ?_
    have h2 := valueAt_keys.mpr h
    cases hx : valueAt ka k with
    | some _ => rfl
    | none =>
      rw [hx] at this
      obtain ⟨y, hy⟩ := Option.isSome_iff_exists.mp h2
      rw [hy] at this; cases this
theorem progs_ne (pa : ProgAt prog w s.heap a P) (pb : ProgAt prog w s.heap b P') (hu : A.units < cLine) (e : ∀ k, at' P k = at' P' k) (h : Q (.bool false) s) : wpAny (model prog w) A (compareOp .NotEq (.ref a) (.ref b)) Q E s := by
  obtain ⟨la, ka, da, sa, rfl⟩ := pa
  obtain ⟨lb, kb, db, sb, rfl⟩ := pb
  exact dict_ne la lb da db hu (sameD_of sa sb e) h
theorem progs_eqW (pa : ProgAt prog w s.heap a P) (pb : ProgAt prog w s.heap b P') (hu : A.units < cLine) (e : ∀ k, at' P k = at' P' k) : EqW prog w A s (.ref a) (.ref b) := by
  obtain ⟨la, ka, da, sa, rfl⟩ := pa
  obtain ⟨lb, kb, db, sb, rfl⟩ := pb
  exact dict_eqW la lb da db hu (sameD_of sa sb e)
theorem ProgAt.nodup {h : Heap} (p : ProgAt prog w h a P) : (P.map (·.1)).Nodup := by
  obtain ⟨_, kvs, hd, _, rfl⟩ := p
  rw [keys_proj]; exact dict_nodup hd
end

theorem Fr.holes {g h : Heap} {L : Addr} {m : Str → Option Value} (F : Fr g L h m) (as : List Addr) : Fr (Mine.holes g as) L h m :=
  ⟨F.ns, fun b o e => F.keep b o (holes_some.mp e).1, by rw [holes_size]; exact F.above⟩
theorem News.holes {g h : Heap} {L : Addr} {news : List (Addr × Obj)} (N : News g L h news) (as : List Addr) : News (Mine.holes g as) L h news := fun p hp =>
  ⟨(N p hp).1, (N p hp).2.1, by rw [holes_get, (N p hp).2.2]; exact ite_self _⟩
theorem funFrames_on {h h' B G : Heap} : ∀ {l : List Env}, (∀ b ∈ l.filterMap (·.frame), ∀ o, h.get? b = some o → h'.get? b = some o) → h.FunFrames B l → (∀ b ∈ l.filterMap (·.frame), G.get? b = none) → h'.FunFrames G l
  | [], _, _, _ => trivial
  | env :: r, k, ⟨hk, ⟨L, o, hf, _, ho, hd⟩, hr⟩, hn => by
    rw [List.filterMap_cons, hf] at hn k
    exact ⟨hk, ⟨L, o, hf, hn L (.head _), k L (.head _) _ ho, hd⟩, funFrames_on (fun b hb => k b (.tail _ hb)) hr fun b hb => hn b (.tail _ hb)⟩
/-- a heap, some of its objects as they stand in another one -/
noncomputable def fillH (g h : Heap) : List Addr → Heap
  | [] => g
  | a :: r => (fillH g h r).update a fun o => (h.get? a).getD o
theorem fillH_size (g h : Heap) : ∀ as : List Addr, (fillH g h as).objs.size = g.objs.size
  | [] => rfl
  | a :: r => by
    show ((fillH g h r).update a _).objs.size = _
    rw [Heap.size_update, fillH_size g h r]
theorem alive_of {h : Heap} {a : Addr} {o : Obj} (e : h.get? a = some o) : ∀ q, o = q → (match (some q : Option Obj) with | some ⟨_, _, .freed, _⟩ => none | o => o) = some o := by
  rintro _ rfl
  unfold Heap.get? at e
  split at e
  · cases e
  · rename_i hq
    split
    · rename_i x _ _ _ ex
      rw [ex] at e
      exact absurd e (hq _ _ _)
    · rfl
theorem put_get {g h : Heap} {a b : Addr} {o : Obj} (ho : h.get? a = some o) (ha : a < g.objs.size) : (g.update a fun q => (h.get? a).getD q).get? b = if b = a then some o else g.get? b := by
  by_cases e : b = a
  · subst e
    rw [if_pos rfl, ho]
    unfold Heap.get? Heap.update
    simp only [Array.getElem?_modify, if_true, Option.getD_some]
    obtain ⟨q, hq⟩ : ∃ q, g.objs[b]? = some q := ⟨g.objs[b], Array.getElem?_eq_getElem ha⟩
    rw [hq, Option.map_some]
    exact alive_of ho o rfl
  · rw [if_neg e, Heap.get?_update_ne _ _ _ _ e]
theorem fillH_get {g h : Heap} : ∀ {as : List Addr}, (∀ a ∈ as, a < g.objs.size ∧ ∃ o, h.get? a = some o) → ∀ b, (fillH g h as).get? b = if b ∈ as then h.get? b else g.get? b
  | [], _, b => by simp [fillH]
  | a :: r, k, b => by
    obtain ⟨o, ho⟩ := (k a (.head _)).2
    show ((fillH g h r).update a _).get? b = _
    rw [put_get ho (by rw [fillH_size]; exact (k a (.head _)).1), fillH_get (fun c hc => k c (.tail _ hc)) b]
    by_cases e : b = a
    · simp [e, ho]
    · simp [e]
/-- after a catch: a base in which the frames stand again -/
theorem refill {gB h : Heap} {L : Addr} {m : Str → Option Value} {news : List (Addr × Obj)} {outer : List Env} (F : Fr gB L h m) (N : News gB L h news) (hff : FF h outer) (hlt : ∀ b ∈ outer.filterMap (·.frame), b < gB.objs.size)
    (hgf : ∀ b ∈ outer.filterMap (·.frame), gB.get? b = none) (hnf : ∀ p ∈ news, p.1 ∉ outer.filterMap (·.frame)) :
    ∃ gC, Fr gC L h m ∧ News gC L h news ∧ FF gC outer ∧ ∀ b o, gB.get? b = some o → (Mine.holes gC (outer.filterMap (·.frame))).get? b = some o := by
  have hg := fillH_get (g := gB) (h := h) (as := outer.filterMap (·.frame)) fun a ha => ⟨hlt a ha, let ⟨_, o, e, _⟩ := Heap.FunFrames.mem hff ha; ⟨o, e⟩⟩
  refine ⟨fillH gB h (outer.filterMap (·.frame)), ⟨F.ns, fun b o e => ?_, by rw [fillH_size]; exact F.above⟩, fun p hp => ⟨(N p hp).1, (N p hp).2.1, ?_⟩, funFrames_on (fun b hb o e => ?_) hff fun b hb => holes_none hb, fun b o e => ?_⟩
  · rw [hg] at e
    split at e
    · exact e
    · exact F.keep b o e
  · rw [hg, if_neg (hnf p hp)]; exact (N p hp).2.2
  · rw [hg, if_pos hb]; exact e
  · have hb : b ∉ outer.filterMap (·.frame) := fun hm => by rw [hgf b hm] at e; cases e
    rw [holes_get, if_neg hb, hg, if_neg hb]; exact e

/-- lists joined by a sign -/
noncomputable def jn (c : Nat) : List (List Nat) → List Nat
  | [] => []
  | [x] => x
  | x :: y :: r => x ++ c :: jn c (y :: r)
theorem cut_inj {c : Nat} : ∀ {a b r s : List Nat}, c ∉ a → c ∉ b → a ++ c :: r = b ++ c :: s → a = b ∧ r = s
  | [], [], r, s, _, _, h => ⟨rfl, (List.cons.inj h).2⟩
  | [], y :: b, r, s, _, hb, h => absurd (List.cons.inj h).1 fun e => hb (e ▸ .head _)
  | x :: a, [], r, s, ha, _, h => absurd (List.cons.inj h).1 fun e => ha (e ▸ .head _)
  | x :: a, y :: b, r, s, ha, hb, h => by
    obtain ⟨e, h⟩ := List.cons.inj h
    obtain ⟨e1, e2⟩ := cut_inj (fun m => ha (.tail _ m)) (fun m => hb (.tail _ m)) h
    exact ⟨by rw [e, e1], e2⟩
theorem jn_inj {c : Nat} : ∀ {ps qs : List (List Nat)}, ps ≠ [] → qs ≠ [] → (∀ p ∈ ps, c ∉ p) → (∀ q ∈ qs, c ∉ q) → jn c ps = jn c qs → ps = qs
  | [], _, h, _, _, _, _ => absurd rfl h
  | _, [], _, h, _, _, _ => absurd rfl h
  | [x], [y], _, _, _, _, h => by rw [show x = y from h]
  | [x], y :: z :: r, _, _, hp, _, h => absurd (show c ∈ x by rw [show x = y ++ c :: jn c (z :: r) from h]; simp) (hp x (.head _))
  | x :: z :: r, [y], _, _, _, hq, h => absurd (show c ∈ y by rw [show y = x ++ c :: jn c (z :: r) from h.symm]; simp) (hq y (.head _))
  | x :: x' :: r, y :: y' :: r', _, _, hp, hq, h => by
    obtain ⟨e1, e2⟩ := cut_inj (hp x (.head _)) (hq y (.head _)) h
    rw [e1, jn_inj (List.cons_ne_nil _ _) (List.cons_ne_nil _ _) (fun p m => hp p (.tail _ m)) (fun p m => hq p (.tail _ m)) e2]
theorem join_cps (c : Nat) : ∀ ts : List Str, (Txt.join ⟨#[c]⟩ ts).cps.toList = jn c (ts.map (·.cps.toList)) := by
  intro ts
  show (Builtin.Str.glued ⟨#[c]⟩ ts).cps.toList = _
  rw [StrLaws.glued_eq_join]
  induction ts with
  | nil => rfl
  | cons x r ih =>
    cases r with
    | nil => rfl
    | cons y r =>
      show (x.cps ++ #[c] ++ (Str.join ⟨#[c]⟩ (y :: r)).cps).toList = _
      rw [Array.toList_append, Array.toList_append, ih]
      simp [jn]
theorem str_ext {a b : Str} (h : a.cps.toList = b.cps.toList) : a = b := by
  obtain ⟨⟨a⟩⟩ := a
  obtain ⟨⟨b⟩⟩ := b
  have : a = b := h
  rw [this]
theorem split_is {x : Str} {c : Nat} {rows : List Str} (h : Txt.join ⟨#[c]⟩ rows = x) (ne : rows ≠ []) (free : ∀ r ∈ rows, c ∉ r.cps.toList) : Txt.split x ⟨#[c]⟩ = rows := by
  have h1 : Txt.join ⟨#[c]⟩ (Txt.split x ⟨#[c]⟩) = x := by
    show Builtin.Str.glued _ _ = _
    rw [StrLaws.glued_eq_join]; exact StrLaws.join_split x ⟨#[c]⟩
  have h2 := congrArg (fun z : Str => z.cps.toList) (h1.trans h.symm)
  simp only [join_cps] at h2
  have h3 := jn_inj (by
    intro e
    have := PyProof.Rows.split_pos x ⟨#[c]⟩
    rw [List.map_eq_nil_iff] at e
    rw [e] at this; exact absurd this (by decide)) (by simpa using ne) (by
    intro p hp
    obtain ⟨q, hq, rfl⟩ := List.mem_map.mp hp
    exact StrLaws.split_free x c q hq) (by
    intro p hp
    obtain ⟨q, hq, rfl⟩ := List.mem_map.mp hp
    exact free q hq) h2
  have h4 := congrArg (fun l : List (List Nat) => l.map fun a => (⟨a.toArray⟩ : Str)) h3
  simp only [List.map_map] at h4
  have id' : (fun a : List Nat => (⟨a.toArray⟩ : Str)) ∘ (fun z : Str => z.cps.toList) = id := by
    funext z; obtain ⟨⟨z⟩⟩ := z; rfl
  rw [id', List.map_id, List.map_id] at h4
  exact h4
theorem nl_is : Str.ofString "\n" = (⟨#[10]⟩ : Str) := by decide +kernel
theorem join_snoc' (sep : Str) (l : List Str) (a : Str) : Txt.join sep (l ++ [a]) = if l = [] then a else Txt.join sep l ++ sep ++ a := by
  show Builtin.Str.glued _ _ = if l = [] then a else Builtin.Str.glued sep l ++ sep ++ a
  rw [StrLaws.glued_eq_join, StrLaws.glued_eq_join]
  exact PyProof.Rows.FinIter.join_snoc sep a l
/-- a row of the law's text -/
def rowD (p : Int × Str) : RowD := .row (p.1.fdiv 20).toNat (Str.ofString (toString p.1)).cps.toList (if p.2 = Str.ofString "" then [] else 32 :: p.2.cps.toList)
def digsOk (k : Int) : Bool := (Str.ofString (toString k)).cps.toList.all (fun d => decide (48 ≤ d ∧ d ≤ 57)) && !(Str.ofString (toString k)).cps.toList.isEmpty && decide ((Str.ofString (toString k)).cps.toList.length ≤ 5) && decide (numOf (Str.ofString (toString k)).cps.toList = k)
theorem digs_ok {k : Int} (h : LineNo k) : digsOk k = true := LineNo.all (P := fun k => digsOk k = true) (by decide +kernel) (by decide +kernel) (by decide +kernel) (by decide +kernel) h
theorem digs {k : Int} (h : LineNo k) : (∀ d ∈ (Str.ofString (toString k)).cps.toList, 48 ≤ d ∧ d ≤ 57) ∧ (Str.ofString (toString k)).cps.toList ≠ [] ∧ (Str.ofString (toString k)).cps.toList.length ≤ 5 ∧ numOf (Str.ofString (toString k)).cps.toList = k := by
  have h1 := digs_ok h
  unfold digsOk at h1
  simp only [Bool.and_eq_true, List.all_eq_true, decide_eq_true_eq, Bool.not_eq_true', List.isEmpty_eq_false_iff] at h1
  exact ⟨h1.1.1.1, h1.1.1.2, h1.1.2, h1.2⟩
theorem row_ok {k : Nat} {i : Int} {rest : List Nat} (h : LineNo i) (hr : rest = [] ∨ ∃ r, rest = 32 :: r) (hk : k ≤ 10) (hl : rest.length ≤ 100) : (RowD.row k (Str.ofString (toString i)).cps.toList rest).Ok := by
  obtain ⟨d1, d2, d3, d4⟩ := digs h
  refine ⟨⟨RowD.toList _, d1, d2, d3, fun c hc => ?_⟩, ?_, ?_⟩
  · rcases hr with rfl | ⟨r, rfl⟩
    · cases hc
    · simp only [List.head?_cons, Option.some.injEq] at hc
      omega
  · rw [d4]
    rcases h with rfl | rfl | rfl | rfl <;> omega
  · rw [len_toList, RowD.toList]
    simp only [RowD.cps, List.length_append, List.length_replicate]
    omega
theorem texts5_ok : ∀ x ∈ texts5, x ≠ Str.ofString "" → isBlank x.cps.toList = false := by decide +kernel
theorem texts5_len' : ∀ x ∈ texts5, x.cps.toList.length ≤ 50 := by decide +kernel
theorem texts5_free : ∀ x ∈ texts5, 10 ∉ x.cps.toList := by decide +kernel
theorem rowD_str {p : Int × Str} (h : LineNo p.1) (hx : p.2 ∈ texts5) : (rowD p).str = rowStr p := by
  obtain ⟨k, x⟩ := p
  exact LineNo.all (P := fun k => ∀ x ∈ texts5, (rowD (k, x)).str = rowStr (k, x)) (by decide +kernel) (by decide +kernel) (by decide +kernel) (by decide +kernel) h x hx
theorem rowD_ok {p : Int × Str} (h : LineNo p.1) (hx : p.2 ∈ texts5) : (rowD p).Ok := by
  have := texts5_len' _ hx
  refine row_ok h ?_ ?_ ?_
  · split
    · exact .inl rfl
    · exact .inr ⟨_, rfl⟩
  · rcases h with e | e | e | e <;> rw [e] <;> decide
  · split
    · exact Nat.zero_le _
    · rw [List.length_cons]; omega
theorem rowD_step {P : List (Int × Str)} {p : Int × Str} (h : LineNo p.1) (hx : p.2 ∈ texts5) : loadStep P (rowD p) = stepP P p := by
  obtain ⟨_, _, _, d4⟩ := digs h
  show (if isBlank (unblank (if p.2 = Str.ofString "" then [] else 32 :: p.2.cps.toList)) then del P (numOf (Str.ofString (toString p.1)).cps.toList) else put P (numOf (Str.ofString (toString p.1)).cps.toList) ⟨(unblank (if p.2 = Str.ofString "" then [] else 32 :: p.2.cps.toList)).toArray⟩) = _
  unfold stepP
  rw [d4]
  by_cases e : p.2 = Str.ofString ""
  · rw [if_pos e, if_pos e]; rfl
  · rw [if_neg e, if_neg e]
    show (if isBlank p.2.cps.toList then del P p.1 else put P p.1 ⟨p.2.cps.toList.toArray⟩) = _
    rw [texts5_ok _ hx e]
    rfl
theorem rowD_free {p : Int × Str} (h : LineNo p.1) (hx : p.2 ∈ texts5) : 10 ∉ (rowD p).str.cps.toList := by
  obtain ⟨d1, _, _, _⟩ := digs h
  rw [RowD.toList]
  intro hm
  rcases List.mem_append.mp hm with hm | hm
  · have := (List.mem_replicate.mp hm).2; cases this
  · rcases List.mem_append.mp hm with hm | hm
    · have := d1 _ hm; omega
    · split at hm
      · cases hm
      · rcases List.mem_cons.mp hm with hm | hm
        · cases hm
        · exact texts5_free _ hx hm
def tailRows (tl : Str) : List RowD := if tl = Str.ofString "" then [] else if tl = Str.ofString "\n" then [.blank 0] else [.blank 2, .blank 0]
theorem tail_ok : ∀ tl ∈ tails3, ∀ r ∈ (tailRows tl).map RowD.str, 10 ∉ r.cps.toList := by decide +kernel
theorem tail_step {tl : Str} {P : List (Int × Str)} : (tailRows tl).foldl loadStep P = P := by
  unfold tailRows; split
  · rfl
  · split <;> rfl
theorem tail_len {tl : Str} : (tailRows tl).length ≤ 2 := by
  unfold tailRows; split
  · exact Nat.zero_le _
  · split <;> simp
theorem tail_all {tl : Str} : ∀ r ∈ tailRows tl, r.Ok := by
  unfold tailRows; split
  · intro r h; cases h
  · split
    · intro r h; rw [List.mem_singleton.mp h]; exact Nat.zero_le _
    · intro r h
      rcases List.mem_cons.mp h with rfl | h
      · exact (by decide : 2 ≤ 1000)
      · rw [List.mem_singleton.mp h]; exact Nat.zero_le _
theorem tail_join {tl : Str} (h : tl ∈ tails3) {l : List Str} (ne : l ≠ []) : Txt.join (Str.ofString "\n") (l ++ (tailRows tl).map RowD.str) = Txt.join (Str.ofString "\n") l ++ tl := by
  have e0 : ∀ n, (RowD.blank n).str = ⟨(List.replicate n 32).toArray⟩ := fun _ => rfl
  simp only [tails3, List.mem_cons, List.not_mem_nil, or_false] at h
  rcases h with rfl | rfl | rfl
  · have : tailRows (Str.ofString "") = [] := rfl
    rw [this, List.map_nil, List.append_nil, empty_is]
    exact (PySem.Str.append_empty _).symm
  · have : tailRows (Str.ofString "\n") = [.blank 0] := by unfold tailRows; rw [if_neg (by decide +kernel), if_pos rfl]
    rw [this, List.map_cons, List.map_nil, join_snoc', if_neg ne]
    exact PySem.Str.append_empty _
  · have : tailRows (Str.ofString "\n  \n") = [.blank 2, .blank 0] := by unfold tailRows; rw [if_neg (by decide +kernel), if_neg (by decide +kernel)]
    rw [this, List.map_cons, List.map_cons, List.map_nil]
    have e : l ++ [(RowD.blank 2).str, (RowD.blank 0).str] = (l ++ [(RowD.blank 2).str]) ++ [(RowD.blank 0).str] := by simp
    rw [e, join_snoc', if_neg (by simp), join_snoc', if_neg ne]
    rw [PySem.Str.append_assoc, PySem.Str.append_assoc, PySem.Str.append_assoc]
    congr 1
/-- the rows of a text that the law has drawn -/
structure Rows (tx : Str) (rows : List RowD) : Prop where
  len : tx.length ≤ 1048576
  is : Txt.split tx (Str.ofString "\n") = rows.map RowD.str
  ok : ∀ r ∈ rows, r.Ok
  few : rows.length ≤ 1000
theorem foldl_rowD : ∀ (ps : List (Int × Str)) (P : List (Int × Str)), (∀ p ∈ ps, LineNo p.1 ∧ p.2 ∈ texts5) → (ps.map rowD).foldl loadStep P = ps.foldl stepP P
  | [], _, _ => rfl
  | p :: r, P, h => by
    rw [List.map_cons, List.foldl_cons, List.foldl_cons, rowD_step (h p (.head _)).1 (h p (.head _)).2]
    exact foldl_rowD r _ fun q hq => h q (.tail _ hq)
theorem LText.rows {tx : Str} {P : List (Int × Str)} (t : LText tx P) : ∃ rows, Rows tx rows ∧ rows.foldl loadStep [] = P := by
  obtain ⟨ps, tl, htl, hn, hall, rfl, rfl⟩ := t.is
  have hstr : (ps.map rowD).map RowD.str = ps.map rowStr := by
    rw [List.map_map]
    exact List.map_congr_left fun p hp => rowD_str (hall p hp).1 (hall p hp).2
  have hlen : (Txt.join (Str.ofString "\n") (ps.map rowStr)).length ≤ 1000 := by
    have h1 := join_len (sep := Str.ofString "\n") (B := 100) (texts := ps.map rowStr) (fun y hy => by
      obtain ⟨p, hp, rfl⟩ := List.mem_map.mp hy
      exact rowStr_len (hall p hp).1 (hall p hp).2)
    have h2 : (Str.ofString "\n").length = 1 := by decide +kernel
    rw [List.length_map, h2] at h1
    omega
  have htx : (Txt.join (Str.ofString "\n") (ps.map rowStr) ++ tl).length ≤ 1048576 := by
    have := tails3_len _ htl
    rw [PySem.Str.length_append]; omega
  by_cases e : ps = []
  · subst e
    refine ⟨.blank 0 :: tailRows tl, ⟨htx, ?_, ?_, ?_⟩, ?_⟩
    · rw [nl_is]
      refine split_is ?_ (List.cons_ne_nil _ _) ?_
      · rw [← nl_is, List.map_cons]
        exact tail_join htl (l := [(RowD.blank 0).str]) (List.cons_ne_nil _ _)
      · intro r hr
        rw [List.map_cons] at hr
        rcases List.mem_cons.mp hr with rfl | hr
        · intro q; cases q
        · exact tail_ok _ htl r hr
    · intro r hr
      rcases List.mem_cons.mp hr with rfl | hr
      · exact Nat.zero_le _
      · exact tail_all r hr
    · have := tail_len (tl := tl)
      rw [List.length_cons]; omega
    · rw [List.foldl_cons, tail_step]; rfl
  · refine ⟨ps.map rowD ++ tailRows tl, ⟨htx, ?_, ?_, ?_⟩, ?_⟩
    · rw [nl_is]
      refine split_is ?_ (by simpa using fun h => absurd h e) ?_
      · rw [← nl_is, List.map_append, hstr]
        exact tail_join htl (by simpa using e)
      · intro r hr
        rw [List.map_append] at hr
        rcases List.mem_append.mp hr with hr | hr
        · rw [List.map_map] at hr
          obtain ⟨p, hp, rfl⟩ := List.mem_map.mp hr
          exact rowD_free (hall p hp).1 (hall p hp).2
        · exact tail_ok _ htl r hr
    · intro r hr
      rcases List.mem_append.mp hr with hr | hr
      · obtain ⟨p, hp, rfl⟩ := List.mem_map.mp hr
        exact rowD_ok (hall p hp).1 (hall p hp).2
      · exact tail_all r hr
    · have := tail_len (tl := tl)
      rw [List.length_append, List.length_map]; omega
    · rw [List.foldl_append, tail_step, foldl_rowD ps [] hall]

/-- a program as the law knows it -/
structure PTx (P : List (Int × Str)) : Prop where
  all : ∀ p ∈ P, LineNo p.1 ∧ p.2 ∈ texts5 ∧ p.2 ≠ Str.ofString ""
  nd : (P.map (·.1)).Nodup
theorem PTx.nil : PTx [] := ⟨all_nil, List.nodup_nil⟩
theorem put_mem {P : List (Int × Str)} {k : Int} {x : Str} {p : Int × Str} (h : p ∈ put P k x) : p ∈ P ∨ p = (k, x) := by
  unfold put at h
  split at h
  · obtain ⟨q, hq, rfl⟩ := List.mem_map.mp h
    by_cases e : q.1 = k
    · rw [if_pos e, e]; exact .inr rfl
    · rw [if_neg e]; exact .inl hq
  · rcases List.mem_append.mp h with h | h
    · exact .inl h
    · exact .inr (List.mem_singleton.mp h)
theorem PTx.put {P : List (Int × Str)} (h : PTx P) {k : Int} {x : Str} (hk : LineNo k) (hx : x ∈ texts5) (hn : x ≠ Str.ofString "") : PTx (put P k x) :=
  ⟨fun p hp => by
    rcases put_mem hp with hp | rfl
    · exact h.all p hp
    · exact ⟨hk, hx, hn⟩, nodup_put h.nd⟩
theorem PTx.del {P : List (Int × Str)} (h : PTx P) {k : Int} : PTx (del P k) := ⟨fun p hp => h.all p (List.mem_filter.mp hp).1, nodup_del h.nd⟩
theorem PTx.steps : ∀ {ps P : List (Int × Str)}, PTx P → (∀ p ∈ ps, LineNo p.1 ∧ p.2 ∈ texts5) → PTx (ps.foldl stepP P) ∧ (ps.foldl stepP P).length ≤ P.length + ps.length
  | [], P, h, _ => ⟨h, Nat.le_refl _⟩
  | p :: r, P, h, ha => by
    have hp := ha p (.head _)
    rw [List.foldl_cons, List.length_cons]
    have h1 : PTx (stepP P p) ∧ (stepP P p).length ≤ P.length + 1 := by
      unfold stepP
      by_cases e : p.2 = Str.ofString ""
      · rw [if_pos e]; exact ⟨h.del, Nat.le_succ_of_le len_del⟩
      · rw [if_neg e]; exact ⟨h.put hp.1 hp.2 e, len_put⟩
    have h2 := PTx.steps h1.1 fun q hq => ha q (.tail _ hq)
    exact ⟨h2.1, by omega⟩
theorem LText.ptx {tx : Str} {P : List (Int × Str)} (t : LText tx P) : PTx P ∧ P.length ≤ 5 := by
  obtain ⟨ps, tl, htl, hn, hall, rfl, rfl⟩ := t.is
  have h := PTx.steps PTx.nil hall
  rw [List.length_nil, Nat.zero_add] at h
  exact ⟨h.1, Nat.le_trans h.2 hn⟩
theorem merge_ptx : ∀ {P2 P1 : List (Int × Str)}, PTx P1 → (∀ p ∈ P2, LineNo p.1 ∧ p.2 ∈ texts5 ∧ p.2 ≠ Str.ofString "") → PTx (mergeP P1 P2) ∧ (mergeP P1 P2).length ≤ P1.length + P2.length
  | [], P1, h, _ => ⟨h, Nat.le_refl _⟩
  | p :: r, P1, h, ha => by
    have hp := ha p (.head _)
    have h2 := merge_ptx (P1 := put P1 p.1 p.2) (h.put hp.1 hp.2.1 hp.2.2) fun q hq => ha q (.tail _ hq)
    have h3 := len_put (P := P1) (k := p.1) (s := p.2)
    refine ⟨h2.1, ?_⟩
    have h4 := h2.2
    show (mergeP (put P1 p.1 p.2) r).length ≤ _
    rw [List.length_cons]; omega
theorem at_merge {k : Int} : ∀ {P2 P1 : List (Int × Str)}, (P2.map (·.1)).Nodup → at' (mergeP P1 P2) k = (at' P2 k).or (at' P1 k)
  | [], _, _ => rfl
  | (a, v) :: r, P1, h => by
    rw [List.map_cons, List.nodup_cons] at h
    show at' (mergeP (put P1 a v) r) k = _
    rw [at_merge h.2, at_put, at_cons]
    by_cases e : a = k
    · subst e
      rw [if_pos rfl, if_pos rfl, at_none.mpr h.1]; rfl
    · rw [if_neg e, if_neg e]
theorem PTx.progOk {P : List (Int × Str)} (h : PTx P) (few : P.length ≤ 10) : ProgOk P := ⟨fun p hp => (h.all p hp).1, fun p hp => texts5_len _ (h.all p hp).2.1, by omega⟩
/-- a saved row without its end -/
def savedTxt (P : List (Int × Str)) (k : Int) : Str := Str.ofString (toString k) ++ Str.ofString " " ++ (at' P k).getD ⟨#[]⟩
def savedD (P : List (Int × Str)) (k : Int) : RowD := .row 0 (Str.ofString (toString k)).cps.toList (32 :: ((at' P k).getD ⟨#[]⟩).cps.toList)
theorem savedD_str (P : List (Int × Str)) (k : Int) : (savedD P k).str = savedTxt P k := by
  refine str_ext ?_
  rw [RowD.toList]
  show [] ++ ((Str.ofString (toString k)).cps.toList ++ 32 :: ((at' P k).getD ⟨#[]⟩).cps.toList) = ((Str.ofString (toString k)).cps ++ (Str.ofString " ").cps ++ ((at' P k).getD ⟨#[]⟩).cps).toList
  rw [Array.toList_append, Array.toList_append, blank_is]
  simp
theorem at_some {P : List (Int × Str)} (h : PTx P) {k : Int} (hk : k ∈ P.map (·.1)) : ∃ x, at' P k = some x ∧ LineNo k ∧ x ∈ texts5 ∧ x ≠ Str.ofString "" := by
  obtain ⟨x, e, hm⟩ := at_mem hk
  exact ⟨x, e, h.all _ hm⟩
theorem join_e_cons (x : Str) (r : List Str) : Txt.join (Str.ofString "") (x :: r) = x ++ Txt.join (Str.ofString "") r := by
  show Builtin.Str.glued _ _ = x ++ Builtin.Str.glued _ _
  rw [StrLaws.glued_eq_join, StrLaws.glued_eq_join, empty_is]
  cases r with
  | nil => exact (PySem.Str.append_empty x).symm
  | cons y r =>
    show x ++ Str.empty ++ _ = _
    rw [PySem.Str.append_empty]
theorem join_n_cons (x : Str) {r : List Str} (h : r ≠ []) : Txt.join (Str.ofString "\n") (x :: r) = x ++ Str.ofString "\n" ++ Txt.join (Str.ofString "\n") r := by
  show Builtin.Str.glued _ _ = x ++ _ ++ Builtin.Str.glued _ _
  rw [StrLaws.glued_eq_join, StrLaws.glued_eq_join]
  cases r with
  | nil => exact absurd rfl h
  | cons y r => rfl
theorem saved_join (P : List (Int × Str)) : ∀ ns : List Int, Txt.join (Str.ofString "\n") (ns.map (savedTxt P) ++ [Str.ofString ""]) = savedStr P ns
  | [] => rfl
  | k :: r => by
    have ih := saved_join P r
    unfold savedStr at ih ⊢
    rw [List.map_cons, List.map_cons, List.cons_append, join_n_cons _ (by simp), ih, join_e_cons]
    rfl
theorem saved_split {P : List (Int × Str)} (h : PTx P) {ns : List Int} (hn : ∀ k ∈ ns, k ∈ P.map (·.1)) : Txt.split (savedStr P ns) (Str.ofString "\n") = ns.map (savedTxt P) ++ [Str.ofString ""] := by
  rw [nl_is]
  refine split_is ?_ (by simp) ?_
  · rw [← nl_is]; exact saved_join P ns
  · intro r hr
    rcases List.mem_append.mp hr with hr | hr
    · obtain ⟨k, hk, rfl⟩ := List.mem_map.mp hr
      obtain ⟨x, e, hl, hx, hne⟩ := at_some h (hn k hk)
      obtain ⟨d1, _, _, _⟩ := digs hl
      rw [← savedD_str, RowD.toList]
      intro hm
      have hm : 10 ∈ [] ++ ((Str.ofString (toString k)).cps.toList ++ 32 :: ((at' P k).getD ⟨#[]⟩).cps.toList) := hm
      rw [List.nil_append, e, Option.getD_some] at hm
      rcases List.mem_append.mp hm with hm | hm
      · have := d1 _ hm; omega
      · rcases List.mem_cons.mp hm with hm | hm
        · cases hm
        · exact texts5_free _ hx hm
    · rw [List.mem_singleton.mp hr, empty_is]; intro q; cases q
theorem savedTxt_len {P : List (Int × Str)} (h : PTx P) {k : Int} (hk : k ∈ P.map (·.1)) : (savedTxt P k).length ≤ 200 := by
  obtain ⟨x, e, hl, hx, hne⟩ := at_some h hk
  unfold savedTxt
  have h1 := texts5_len _ hx
  have h2 : (Str.ofString (toString k)).length ≤ 5 := by rw [len_toList]; exact (digs hl).2.2.1
  have h3 : (Str.ofString " ").length = 1 := by decide +kernel
  rw [PySem.Str.length_append, PySem.Str.length_append, e, Option.getD_some]
  omega
theorem saved_len {P : List (Int × Str)} (h : PTx P) {ns : List Int} (hn : ∀ k ∈ ns, k ∈ P.map (·.1)) : (savedStr P ns).length ≤ ns.length * 201 := by
  unfold savedStr
  have := join_len (sep := Str.ofString "") (B := 201) (texts := ns.map (savedRow P)) (fun y hy => by
    obtain ⟨k, hk, rfl⟩ := List.mem_map.mp hy
    have h1 := savedTxt_len h (hn k hk)
    have h3 : (Str.ofString "\n").length = 1 := by decide +kernel
    show (savedTxt P k ++ Str.ofString "\n").length ≤ _
    rw [PySem.Str.length_append]; omega)
  rw [List.length_map, empty_is] at this
  exact this
theorem saved_rows {P : List (Int × Str)} (h : PTx P) (few : P.length ≤ 10) {ns : List Int} (hp : ns.Perm (P.map (·.1))) : Rows (savedStr P ns) (ns.map (savedD P) ++ [.blank 0]) := by
  have hn : ∀ k ∈ ns, k ∈ P.map (·.1) := fun k hk => hp.mem_iff.mp hk
  have hl : ns.length ≤ 10 := by rw [hp.length_eq, List.length_map]; exact few
  refine ⟨?_, ?_, ?_, ?_⟩
  · have := saved_len h hn; omega
  · rw [saved_split h hn, List.map_append, List.map_map]
    congr 1
    exact List.map_congr_left fun k _ => (savedD_str P k).symm
  · intro r hr
    rcases List.mem_append.mp hr with hr | hr
    · obtain ⟨k, hk, rfl⟩ := List.mem_map.mp hr
      obtain ⟨x, e, hl, hx, hne⟩ := at_some h (hn k hk)
      refine row_ok hl (.inr ⟨_, rfl⟩) (Nat.zero_le _) ?_
      rw [e, Option.getD_some, List.length_cons]
      have := texts5_len' _ hx
      omega
    · rw [List.mem_singleton.mp hr]; exact Nat.zero_le _
  · rw [List.length_append, List.length_map, List.length_singleton]; omega
theorem saved_foldl {P : List (Int × Str)} (h : PTx P) : ∀ {ns : List Int} {Q : List (Int × Str)}, (∀ k ∈ ns, k ∈ P.map (·.1)) → ∀ j, at' ((ns.map (savedD P)).foldl loadStep Q) j = if j ∈ ns then at' P j else at' Q j
  | [], Q, _, j => by simp
  | k :: r, Q, hn, j => by
    obtain ⟨x, e, hl, hx, hne⟩ := at_some h (hn k (.head _))
    obtain ⟨_, _, _, d4⟩ := digs hl
    have hs : loadStep Q (savedD P k) = put Q k x := by
      show (if isBlank ((at' P k).getD ⟨#[]⟩).cps.toList then del Q (numOf (Str.ofString (toString k)).cps.toList) else put Q (numOf (Str.ofString (toString k)).cps.toList) ⟨((at' P k).getD ⟨#[]⟩).cps.toList.toArray⟩) = _
      rw [e, Option.getD_some, texts5_ok _ hx hne, d4]
      rfl
    rw [List.map_cons, List.foldl_cons, hs, saved_foldl h (fun q hq => hn q (.tail _ hq)) j, at_put]
    by_cases h1 : k = j
    · subst h1
      rw [if_pos rfl, if_pos (List.mem_cons_self), e]
      split <;> rfl
    · rw [if_neg h1]
      have : (j ∈ k :: r) ↔ j ∈ r := by rw [List.mem_cons]; exact ⟨fun q => q.resolve_left (Ne.symm h1), .inr⟩
      simp only [this]
theorem saved_fold {P : List (Int × Str)} (h : PTx P) {ns : List Int} (hp : ns.Perm (P.map (·.1))) (j : Int) : at' ((ns.map (savedD P) ++ [RowD.blank 0]).foldl loadStep []) j = at' P j := by
  rw [List.foldl_append]
  show at' ((ns.map (savedD P)).foldl loadStep []) j = _
  rw [saved_foldl h (fun k hk => hp.mem_iff.mp hk) j]
  split
  · rfl
  · rename_i hj
    rw [at_none.mpr fun q => hj (hp.mem_iff.mpr q), at_nil]
theorem perm_same {a b c : List Int} (ha : a.Perm c) (hb : b.Perm c) (sa : a.Pairwise (· ≤ ·)) (sb : b.Pairwise (· ≤ ·)) : a = b := ksm_same (ha.trans hb.symm) sa sb

set_option maxHeartbeats 8000000
structure Nr1 (x : Str) (t : Tok) (k : Nat) (h₀ : Heap) (L : Addr) (s s' : Shared) : Prop where
  is : ∃ h' tk t', s' = { s with heap := h', toks := tk } ∧ Fr h₀ L h' (fun y => if y = Str.ofString "at" then some (.int k t') else if y = Str.ofString "row" then some (.str x t) else none) ∧ News h₀ L h' []
structure Nr2 (x : Str) (t : Tok) (k n : Nat) (v : Int) (h₀ : Heap) (L : Addr) (s s' : Shared) : Prop where
  is : ∃ h' tk t1 t2 t3, s' = { s with heap := h', toks := tk } ∧ Fr h₀ L h' (fun y => if y = Str.ofString "begin" then some (.int k t2) else if y = Str.ofString "number" then some (.int v t1) else if y = Str.ofString "at" then some (.int (k + n) t3) else if y = Str.ofString "row" then some (.str x t) else none) ∧ News h₀ L h' []

theorem up1 {a : Str} {v u : Option Value} {m : Str → Option Value} : (fun y => if y = a then v else if y = a then u else m y) = fun y => if y = a then v else m y := by
  funext y
  by_cases h : y = a
  · simp [h]
  · simp [h]
theorem up3 {a b c : Str} (hab : a ≠ b) (hac : a ≠ c) (hbc : b ≠ c) {A B C B' C' : Option Value} {m : Str → Option Value} :
    (fun y => if y = c then C' else if y = b then B' else if y = a then A else if y = b then B else if y = c then C else m y) = fun y => if y = a then A else if y = b then B' else if y = c then C' else m y := by
  funext y
  by_cases h1 : y = c
  · subst h1; simp [Ne.symm hac, Ne.symm hbc]
  · by_cases h2 : y = b
    · subst h2; simp [h1, Ne.symm hab]
    · simp [h1, h2]
theorem numOf_snoc (l : List Nat) (d : Nat) : numOf (l ++ [d]) = 10 * numOf l + (d : Int) - 48 := by
  unfold numOf; rw [List.foldl_append]; rfl

theorem nrow_spec {prog : Program} {w : World} {mean : ExcName → Option Value} {mg mb : Str → Option Value} {A : Around} {s : Shared} {Q E : Value → Shared → Prop} {x : Str} {t : Tok}
    {k : Nat} {ds rest : List Nat}
    (c : Cx w mean mg mb s.heap) (r : Rm A 2) (hx : x.length ≤ 1048576) (hr : RowIs x k ds rest) (hv : numOf ds ≤ 65529)
    (h : ∀ h' tk a t1 t2, (∀ b o, s.heap.get? b = some o → h'.get? b = some o) → s.heap.get? a = none →
      h'.get? a = some { cls := .type "tuple", data := .seq #[.int (numOf ds) t1, .str ⟨(unblank rest).toArray⟩ t2] } →
      Q (.ref a) { s with heap := h', toks := tk }) :
    wpAny (model prog w) A (call (.ref 44) [.str x t]) Q E s := by
  obtain ⟨X, T⟩ := c
  obtain ⟨rd, ru, rh⟩ := r
  obtain ⟨ah, ad, af, ag, au⟩ := A
  dsimp only at rd ru rh
  subst rh
  have hlen := hr.len
  refine wpAny_call ?_
  k_dflt (refine' enter0 (binds := [(Str.ofString "row", .str x t)]) X T ?k6 ?k7 ?k8 ?k9 ?kB ?_ ?c2 ?c3 ?c4 ?c5; (((case k6 => k_is); (case k7 => k_is); (case k8 => ((try dsimp only); omega)); (case k9 => exact BindsTo.of_eq rfl); (case c5 => decide); (case kB => exact locs rfl); (case c2 => exact rfl); (case c3 => exact rfl); (case c4 => exact rfl))))
  intro L h1 F N
  rw [lk1] at F
  dsimp only
  k_fold
  (repeat' (first | (k_unfold; (try dsimp only)) | ((fail_if_success (with_reducible show wpAny _ _ (setItem _ _ _) _ _ _)); (((with_reducible show wpAny _ _ _ _ _ _); (fail_if_success (with_reducible show wpAny _ _ (exec (Stmt.While _ _ _ _) _) _ _ _)); (fail_if_success (with_reducible show wpAny _ _ (exec (Stmt.Raise _ _ _) _) _ _ _)); (fail_if_success (with_reducible show wpAny _ _ (exec (Stmt.Try _ _ _ _ _) _) _ _ _)); (fail_if_success (with_reducible show wpAny _ _ (exec (Stmt.For _ _ _ _ _) _) _ _ _)); (fail_if_success (with_reducible show wpAny _ _ (call (Value.ref _) _) _ _ _)); (fail_if_success (with_reducible show wpAny _ _ (call (Value.builtin "dict.pop") _) _ _ _)); (fail_if_success (with_reducible show wpAny _ _ (eval (Expr.ListComp _ _ _ _) _) _ _ _)); (fail_if_success (with_reducible show wpAny _ _ (exec (Stmt.Assign _ (Expr.ListComp _ _ _ _) _) _) _ _ _)); (fail_if_success (with_reducible show wpAny _ _ (call (Value.builtin "sorted") _) _ _ _)); (fail_if_success (with_reducible show wpAny _ _ (call (Value.type "list") [Value.ref _]) _ _ _)); (fail_if_success (with_reducible show wpAny _ _ (call (Value.type "dict") [Value.ref _]) _ _ _)); (try dsimp only); walk1))) | (first | ((with_reducible show ite _ _ _); walk1) | ((with_reducible show _ ∧ _); walk1) | (leave1; (try dsimp only)) | (dsimp only [InvPostN]) | fail "no step")))
  refine While_post (fun n m nx => ∃ i : Int, ∃ t' : Tok, m = (fun y => if y = Str.ofString "at" then some (.int i t') else if y = Str.ofString "row" then some (.str x t) else none) ∧ nx = [] ∧ 0 ≤ i ∧ i ≤ k ∧ n = k - i.toNat)
    (Nr1 x t k s.heap L s) k (by assumption) (by assumption) ⟨0, _, rfl, rfl, Int.le_refl 0, by omega, by omega⟩ ?_ ?_
  · rintro n m₁ news₁ h₁ tk₁ F1 N1 ⟨i, t', rfl, rfl, i0, ik, hn⟩
    dsimp only
    k_fold
    have hdl : 0 < ds.length := List.length_pos_iff.mpr hr.ne
    have at_k : i = k → (Txt.item x i == Str.ofString " ") = false := by
      intro e
      rw [hr.figure hdl (by omega), blank_is, one_beq]
      have := hr.fig _ (List.getElem_mem hdl)
      simp; omega
    have in_k : i < k → (Txt.item x i == Str.ofString " ") = true := by
      intro e
      rw [hr.blank i0 e, blank_is]; rfl
    (repeat' (first | (k_unfold; (try dsimp only)) | ((fail_if_success (with_reducible show wpAny _ _ (setItem _ _ _) _ _ _)); (((with_reducible show wpAny _ _ _ _ _ _); (fail_if_success (with_reducible show wpAny _ _ (exec (Stmt.While _ _ _ _) _) _ _ _)); (fail_if_success (with_reducible show wpAny _ _ (exec (Stmt.Raise _ _ _) _) _ _ _)); (fail_if_success (with_reducible show wpAny _ _ (exec (Stmt.Try _ _ _ _ _) _) _ _ _)); (fail_if_success (with_reducible show wpAny _ _ (exec (Stmt.For _ _ _ _ _) _) _ _ _)); (fail_if_success (with_reducible show wpAny _ _ (call (Value.ref _) _) _ _ _)); (fail_if_success (with_reducible show wpAny _ _ (call (Value.builtin "dict.pop") _) _ _ _)); (fail_if_success (with_reducible show wpAny _ _ (eval (Expr.ListComp _ _ _ _) _) _ _ _)); (fail_if_success (with_reducible show wpAny _ _ (exec (Stmt.Assign _ (Expr.ListComp _ _ _ _) _) _) _ _ _)); (fail_if_success (with_reducible show wpAny _ _ (call (Value.builtin "sorted") _) _ _ _)); (fail_if_success (with_reducible show wpAny _ _ (call (Value.type "list") [Value.ref _]) _ _ _)); (fail_if_success (with_reducible show wpAny _ _ (call (Value.type "dict") [Value.ref _]) _ _ _)); (try dsimp only); walk1))) | (first | ((with_reducible show ite _ _ _); walk1) | ((with_reducible show _ ∧ _); walk1) | (leave1; (try dsimp only)) | (dsimp only [InvPostN]) | fail "no step")))
    · have hb : (Txt.item x i == Str.ofString " ") = true := by assumption
      have : i < k := by
        rcases Int.lt_or_eq_of_le ik with h | h
        · exact h
        · rw [at_k h] at hb; cases hb
      exact While_step (by assumption) (by assumption) (by omega) ⟨i + 1, _, up1, rfl, by omega, by omega, rfl⟩
    · have hb : (Txt.item x i == Str.ofString " ") = false := by assumption
      have : i = k := by
        rcases Int.lt_or_eq_of_le ik with h | h
        · rw [in_k h] at hb; cases hb
        · exact h
      subst this
      exact ⟨_, _, _, rfl, F1, N1⟩
  · rintro s' ⟨h2, tk2, t2, rfl, F2, N2⟩
    dsimp only
    (repeat' (first | (k_unfold; (try dsimp only)) | ((fail_if_success (with_reducible show wpAny _ _ (setItem _ _ _) _ _ _)); (((with_reducible show wpAny _ _ _ _ _ _); (fail_if_success (with_reducible show wpAny _ _ (exec (Stmt.While _ _ _ _) _) _ _ _)); (fail_if_success (with_reducible show wpAny _ _ (exec (Stmt.Raise _ _ _) _) _ _ _)); (fail_if_success (with_reducible show wpAny _ _ (exec (Stmt.Try _ _ _ _ _) _) _ _ _)); (fail_if_success (with_reducible show wpAny _ _ (exec (Stmt.For _ _ _ _ _) _) _ _ _)); (fail_if_success (with_reducible show wpAny _ _ (call (Value.ref _) _) _ _ _)); (fail_if_success (with_reducible show wpAny _ _ (call (Value.builtin "dict.pop") _) _ _ _)); (fail_if_success (with_reducible show wpAny _ _ (eval (Expr.ListComp _ _ _ _) _) _ _ _)); (fail_if_success (with_reducible show wpAny _ _ (exec (Stmt.Assign _ (Expr.ListComp _ _ _ _) _) _) _ _ _)); (fail_if_success (with_reducible show wpAny _ _ (call (Value.builtin "sorted") _) _ _ _)); (fail_if_success (with_reducible show wpAny _ _ (call (Value.type "list") [Value.ref _]) _ _ _)); (fail_if_success (with_reducible show wpAny _ _ (call (Value.type "dict") [Value.ref _]) _ _ _)); (try dsimp only); walk1))) | (first | ((with_reducible show ite _ _ _); walk1) | ((with_reducible show _ ∧ _); walk1) | (leave1; (try dsimp only)) | (dsimp only [InvPostN]) | fail "no step")))
    refine While_post (fun n m nx => ∃ j : Nat, ∃ t1 t2 t3 : Tok, m = (fun y => if y = Str.ofString "begin" then some (.int k t2) else if y = Str.ofString "number" then some (.int (numOf (ds.take j)) t1) else if y = Str.ofString "at" then some (.int (k + j) t3) else if y = Str.ofString "row" then some (.str x t) else none) ∧ nx = [] ∧ j ≤ ds.length ∧ n = ds.length - j)
      (Nr2 x t k ds.length (numOf ds) s.heap L s) ds.length (by assumption) News.nil ⟨0, _, _, _, rfl, rfl, Nat.zero_le _, rfl⟩ ?_ ?_
    · rintro n m₁ news₁ h₁ tk₁ F1 N1 ⟨j, t1, t2, t3, rfl, rfl, jk, hn⟩
      dsimp only
      k_fold
      have few := hr.few
      have in_f : j < ds.length → ∃ c : Nat, ds[j]? = some c ∧ Txt.item x (k + j) = ⟨#[c]⟩ ∧ 48 ≤ c ∧ c ≤ 57 := fun e =>
        ⟨ds[j], List.getElem?_eq_getElem e, hr.figure e rfl, (hr.fig _ (List.getElem_mem e)).1, (hr.fig _ (List.getElem_mem e)).2⟩
      have out_f : j = ds.length → (k : Int) + j < x.length → ∃ c : Nat, Txt.item x (k + j) = ⟨#[c]⟩ ∧ ¬ (48 ≤ c ∧ c ≤ 57) := fun e e2 => by
        have : 0 < rest.length := by omega
        refine ⟨rest[0], hr.behind (by omega) (by rw [List.head?_eq_getElem?, List.getElem?_eq_getElem this]), hr.off _ (by rw [List.head?_eq_getElem?, List.getElem?_eq_getElem this])⟩
      have out_j : ∀ c, Txt.item x (k + j) = ⟨#[c]⟩ → c < 48 ∨ 57 < c → j = ds.length := fun c e1 e2 => by
        rcases Nat.lt_or_eq_of_le jk with e | e
        · obtain ⟨c', _, e3, e4, e5⟩ := in_f e
          rw [e1] at e3
          injection e3 with e3
          simp at e3
          omega
        · exact e
      (repeat' (first | (k_unfold; (try dsimp only)) | ((fail_if_success (with_reducible show wpAny _ _ (setItem _ _ _) _ _ _)); (((with_reducible show wpAny _ _ _ _ _ _); (fail_if_success (with_reducible show wpAny _ _ (exec (Stmt.While _ _ _ _) _) _ _ _)); (fail_if_success (with_reducible show wpAny _ _ (exec (Stmt.Raise _ _ _) _) _ _ _)); (fail_if_success (with_reducible show wpAny _ _ (exec (Stmt.Try _ _ _ _ _) _) _ _ _)); (fail_if_success (with_reducible show wpAny _ _ (exec (Stmt.For _ _ _ _ _) _) _ _ _)); (fail_if_success (with_reducible show wpAny _ _ (call (Value.ref _) _) _ _ _)); (fail_if_success (with_reducible show wpAny _ _ (call (Value.builtin "dict.pop") _) _ _ _)); (fail_if_success (with_reducible show wpAny _ _ (eval (Expr.ListComp _ _ _ _) _) _ _ _)); (fail_if_success (with_reducible show wpAny _ _ (exec (Stmt.Assign _ (Expr.ListComp _ _ _ _) _) _) _ _ _)); (fail_if_success (with_reducible show wpAny _ _ (call (Value.builtin "sorted") _) _ _ _)); (fail_if_success (with_reducible show wpAny _ _ (call (Value.type "list") [Value.ref _]) _ _ _)); (fail_if_success (with_reducible show wpAny _ _ (call (Value.type "dict") [Value.ref _]) _ _ _)); (try dsimp only); walk1))) | (first | ((with_reducible show ite _ _ _); walk1) | ((with_reducible show _ ∧ _); walk1) | (leave1; (try dsimp only)) | (dsimp only [InvPostN]) | fail "no step")))
      · have hb : (Txt.item x (k + j)).cps.toList < (Str.ofString "0").cps.toList := by assumption
        obtain ⟨c, e1⟩ : ∃ c, Txt.item x (k + j) = ⟨#[c]⟩ := ⟨_, rfl⟩
        rw [e1, zero_is] at hb
        have e := out_j c e1 (.inl ((one_lt' _ _).mp hb))
        subst e
        rw [List.take_length] at F1
        exact ⟨_, _, _, _, _, rfl, F1, N1⟩
      · have hb : (Str.ofString "9").cps.toList < (Txt.item x (k + j)).cps.toList := by assumption
        obtain ⟨c, e1⟩ : ∃ c, Txt.item x (k + j) = ⟨#[c]⟩ := ⟨_, rfl⟩
        rw [e1, nine_is] at hb
        have e := out_j c e1 (.inr ((one_lt' _ _).mp hb))
        subst e
        rw [List.take_length] at F1
        exact ⟨_, _, _, _, _, rfl, F1, N1⟩
      · exfalso
        have hb1 : ¬ (Txt.item x (k + j)).cps.toList < (Str.ofString "0").cps.toList := by assumption
        have hb2 : ¬ (Str.ofString "9").cps.toList < (Txt.item x (k + j)).cps.toList := by assumption
        have hb3 : (k : Int) + j < x.length := by assumption
        have hb4 : (5 : Int) ≤ k + j - k := by assumption
        have : j = ds.length := by omega
        obtain ⟨c, e1, e2⟩ := out_f this hb3
        rw [e1, zero_is] at hb1
        rw [e1, nine_is] at hb2
        exact e2 ⟨Nat.le_of_not_lt fun q => hb1 ((one_lt' _ _).mpr q), Nat.le_of_not_lt fun q => hb2 ((one_lt' _ _).mpr q)⟩
      · have hb1 : ¬ (Txt.item x (k + j)).cps.toList < (Str.ofString "0").cps.toList := by assumption
        have hb2 : ¬ (Str.ofString "9").cps.toList < (Txt.item x (k + j)).cps.toList := by assumption
        have hb3 : (k : Int) + j < x.length := by assumption
        have jl : j < ds.length := by
          rcases Nat.lt_or_eq_of_le jk with e | e
          · exact e
          · exfalso
            obtain ⟨c, e1, e2⟩ := out_f e hb3
            rw [e1, zero_is] at hb1
            rw [e1, nine_is] at hb2
            exact e2 ⟨Nat.le_of_not_lt fun q => hb1 ((one_lt' _ _).mpr q), Nat.le_of_not_lt fun q => hb2 ((one_lt' _ _).mpr q)⟩
        obtain ⟨c, e0, e1, _⟩ := in_f jl
        have e5 : List.take (j + 1) ds = List.take j ds ++ [c] := by
          rw [List.take_add_one, e0]; rfl
        have e6 := numOf_snoc (List.take j ds) c
        rw [← e5] at e6
        have e7 : 10 * numOf (List.take j ds) + (((Txt.item x (k + j)).cps.getD 0 0 : Nat) : Int) - 48 = numOf (List.take (j + 1) ds) := by
          rw [e1, e6]; rfl
        rename Fr _ _ _ _ => F9
        rw [e7, up3 (by decide +kernel) (by decide +kernel) (by decide +kernel)] at F9
        exact While_step F9 (by assumption) (by rw [hn]; exact Nat.sub_lt_sub_left jl (Nat.lt_succ_self j)) ⟨j + 1, _, _, _, rfl, rfl, jl, rfl⟩
      · have e : j = ds.length := by omega
        subst e
        rw [List.take_length] at F1
        exact ⟨_, _, _, _, _, rfl, F1, N1⟩
    · rintro s' ⟨h3, tk3, t4, t5, t6, rfl, F3, N3⟩
      dsimp only
      have hdl : 0 < ds.length := List.length_pos_iff.mpr hr.ne
      (repeat' (first | (k_unfold; (try dsimp only)) | ((fail_if_success (with_reducible show wpAny _ _ (setItem _ _ _) _ _ _)); (((with_reducible show wpAny _ _ _ _ _ _); (fail_if_success (with_reducible show wpAny _ _ (exec (Stmt.While _ _ _ _) _) _ _ _)); (fail_if_success (with_reducible show wpAny _ _ (exec (Stmt.Raise _ _ _) _) _ _ _)); (fail_if_success (with_reducible show wpAny _ _ (exec (Stmt.Try _ _ _ _ _) _) _ _ _)); (fail_if_success (with_reducible show wpAny _ _ (exec (Stmt.For _ _ _ _ _) _) _ _ _)); (fail_if_success (with_reducible show wpAny _ _ (call (Value.ref _) _) _ _ _)); (fail_if_success (with_reducible show wpAny _ _ (call (Value.builtin "dict.pop") _) _ _ _)); (fail_if_success (with_reducible show wpAny _ _ (eval (Expr.ListComp _ _ _ _) _) _ _ _)); (fail_if_success (with_reducible show wpAny _ _ (exec (Stmt.Assign _ (Expr.ListComp _ _ _ _) _) _) _ _ _)); (fail_if_success (with_reducible show wpAny _ _ (call (Value.builtin "sorted") _) _ _ _)); (fail_if_success (with_reducible show wpAny _ _ (call (Value.type "list") [Value.ref _]) _ _ _)); (fail_if_success (with_reducible show wpAny _ _ (call (Value.type "dict") [Value.ref _]) _ _ _)); (try dsimp only); walk1))) | (first | ((with_reducible show ite _ _ _); walk1) | ((with_reducible show _ ∧ _); walk1) | (leave1; (try dsimp only)) | (dsimp only [InvPostN]) | fail "no step")))
      · omega
      · have hb : (Txt.item x (k + ds.length) == Str.ofString " ") = true := by assumption
        have hl : (k : Int) + ds.length < x.length := by assumption
        obtain ⟨c, r, rfl⟩ : ∃ c r, rest = c :: r := by
          cases rest with
          | nil => exfalso; simp at hlen; omega
          | cons c r => exact ⟨c, r, rfl⟩
        rw [hr.behind rfl rfl, blank_is, one_beq] at hb
        have : c = 32 := by simpa using hb
        subst this
        have e : Txt.slice x (some ((k : Int) + ds.length + 1)) none = ⟨r.toArray⟩ := by
          rw [slice_from (by omega) (by omega), hr.is]
          have : ((k : Int) + ds.length + 1).toNat = (List.replicate k 32 ++ (ds ++ [32])).length := by simp; omega
          rw [this, show List.replicate k 32 ++ (ds ++ 32 :: r) = (List.replicate k 32 ++ (ds ++ [32])) ++ r from by simp, List.drop_left]
        rename News _ _ _ _ => N9
        rename Fr _ _ _ _ => F9
        rw [e] at N9
        exact h _ _ _ _ _ F9.keep (N9 _ (.head _)).2.2 (N9 _ (.head _)).1
      · have hb : (Txt.item x (k + ds.length) == Str.ofString " ") = false := by assumption
        have hl : (k : Int) + ds.length < x.length := by assumption
        have e : Txt.slice x (some ((k : Int) + ds.length)) none = ⟨rest.toArray⟩ := by
          rw [slice_from (by omega) (by omega), hr.is]
          have : ((k : Int) + ds.length).toNat = (List.replicate k 32 ++ ds).length := by simp; omega
          rw [this, ← List.append_assoc, List.drop_left]
        obtain ⟨c, r, rfl⟩ : ∃ c r, rest = c :: r := by
          cases rest with
          | nil => exfalso; simp at hlen; omega
          | cons c r => exact ⟨c, r, rfl⟩
        rw [hr.behind rfl rfl, blank_is, one_beq] at hb
        have hc : ¬ c = 32 := by simpa using hb
        have e2 : unblank (c :: r) = c :: r := by
          unfold unblank
          split
          · rename_i q; injection q with q; exact absurd q hc
          · rfl
        rename News _ _ _ _ => N9
        rename Fr _ _ _ _ => F9
        rw [e] at N9
        have g := (N9 _ (.head _)).1
        dsimp only at g
        rw [← e2] at g
        exact h _ _ _ _ _ F9.keep (N9 _ (.head _)).2.2 g
      · have hl : ¬ (k : Int) + ds.length < x.length := by assumption
        have e : Txt.slice x (some ((k : Int) + ds.length)) none = ⟨rest.toArray⟩ := by
          rw [slice_from (by omega) (by omega), hr.is]
          have : ((k : Int) + ds.length).toNat = (List.replicate k 32 ++ ds).length := by simp; omega
          rw [this, ← List.append_assoc, List.drop_left]
        have : rest = [] := by
          cases rest with
          | nil => rfl
          | cons c r => exfalso; simp at hlen; omega
        subst this
        rename News _ _ _ _ => N9
        rename Fr _ _ _ _ => F9
        rw [e] at N9
        exact h _ _ _ _ _ F9.keep (N9 _ (.head _)).2.2 (N9 _ (.head _)).1

structure Ld (prog : Program) (w : World) (d : Addr) (h₀ : Heap) (L : Addr) (P : List (Int × Str)) (s s' : Shared) : Prop where
  is : ∃ h' tk m o kvs, s' = { s with heap := h', toks := tk } ∧ m (Str.ofString "found") = some (.ref d) ∧ Fr h₀ L h' m ∧ News h₀ L h' [(d, o)] ∧ o.IsDictOf (intKind prog w) kvs ∧ AllStr kvs ∧ proj kvs = P

theorem loaded_spec {prog : Program} {w : World} {mean : ExcName → Option Value} {mg mb : Str → Option Value} {A : Around} {s : Shared} {Q E : Value → Shared → Prop} {x : Str} {t : Tok} {rows : List RowD}
    (c : Cx w mean mg mb s.heap) (r : Rm A 4) (hx : x.length ≤ 1048576) (hs : Txt.split x (Str.ofString "\n") = rows.map RowD.str) (hok : ∀ r ∈ rows, r.Ok) (hlen : rows.length ≤ 1000)
    (h : ∀ h' tk a, (∀ b o, s.heap.get? b = some o → h'.get? b = some o) → s.heap.get? a = none → ProgAt prog w h' a (rows.foldl loadStep []) →
      Q (.ref a) { s with heap := h', toks := tk }) :
    wpAny (model prog w) A (call (.ref 56) [.str x t]) Q E s := by
  have c0 := c
  obtain ⟨X, T⟩ := c
  have rm := r
  obtain ⟨rd, ru, rh⟩ := r
  obtain ⟨ah, ad, af, ag, au⟩ := A
  dsimp only at rd ru rh
  subst rh
  refine wpAny_call ?_
  k_dflt (refine' enter0 (binds := [(Str.ofString "text", .str x t)]) X T ?k6 ?k7 ?k8 ?k9 ?kB ?_ ?c2 ?c3 ?c4 ?c5; (((case k6 => k_is); (case k7 => k_is); (case k8 => ((try dsimp only); omega)); (case k9 => exact BindsTo.of_eq rfl); (case c5 => decide); (case kB => exact locs rfl); (case c2 => exact rfl); (case c3 => exact rfl); (case c4 => exact rfl))))
  intro L h1 F N
  rw [lk1] at F
  dsimp only
  k_fold
  (repeat' (first | (k_unfold; (try dsimp only)) | ((fail_if_success (with_reducible show wpAny _ _ (setItem _ _ _) _ _ _)); (((with_reducible show wpAny _ _ _ _ _ _); (fail_if_success (with_reducible show wpAny _ _ (exec (Stmt.While _ _ _ _) _) _ _ _)); (fail_if_success (with_reducible show wpAny _ _ (exec (Stmt.Raise _ _ _) _) _ _ _)); (fail_if_success (with_reducible show wpAny _ _ (exec (Stmt.Try _ _ _ _ _) _) _ _ _)); (fail_if_success (with_reducible show wpAny _ _ (exec (Stmt.For _ _ _ _ _) _) _ _ _)); (fail_if_success (with_reducible show wpAny _ _ (call (Value.ref _) _) _ _ _)); (fail_if_success (with_reducible show wpAny _ _ (call (Value.builtin "dict.pop") _) _ _ _)); (fail_if_success (with_reducible show wpAny _ _ (eval (Expr.ListComp _ _ _ _) _) _ _ _)); (fail_if_success (with_reducible show wpAny _ _ (exec (Stmt.Assign _ (Expr.ListComp _ _ _ _) _) _) _ _ _)); (fail_if_success (with_reducible show wpAny _ _ (call (Value.builtin "sorted") _) _ _ _)); (fail_if_success (with_reducible show wpAny _ _ (call (Value.type "list") [Value.ref _]) _ _ _)); (fail_if_success (with_reducible show wpAny _ _ (call (Value.type "dict") [Value.ref _]) _ _ _)); (try dsimp only); walk1))) | (first | ((with_reducible show ite _ _ _); walk1) | ((with_reducible show _ ∧ _); walk1) | (leave1; (try dsimp only)) | (dsimp only [InvPostN]) | fail "no step")))
  rename_i tk0 d h2 o lo hs' fs hi fi l1 h3 F0 N0
  clear hs' fs fi l1
  refine For_vals (h₀ := s.heap) (Ld prog w d s.heap L (rows.foldl loadStep []) s) rfl rfl rfl ?_ ?_
  · (repeat' (first | (k_unfold; (try dsimp only)) | ((fail_if_success (with_reducible show wpAny _ _ (setItem _ _ _) _ _ _)); (((with_reducible show wpAny _ _ _ _ _ _); (fail_if_success (with_reducible show wpAny _ _ (exec (Stmt.While _ _ _ _) _) _ _ _)); (fail_if_success (with_reducible show wpAny _ _ (exec (Stmt.Raise _ _ _) _) _ _ _)); (fail_if_success (with_reducible show wpAny _ _ (exec (Stmt.Try _ _ _ _ _) _) _ _ _)); (fail_if_success (with_reducible show wpAny _ _ (exec (Stmt.For _ _ _ _ _) _) _ _ _)); (fail_if_success (with_reducible show wpAny _ _ (call (Value.ref _) _) _ _ _)); (fail_if_success (with_reducible show wpAny _ _ (call (Value.builtin "dict.pop") _) _ _ _)); (fail_if_success (with_reducible show wpAny _ _ (eval (Expr.ListComp _ _ _ _) _) _ _ _)); (fail_if_success (with_reducible show wpAny _ _ (exec (Stmt.Assign _ (Expr.ListComp _ _ _ _) _) _) _ _ _)); (fail_if_success (with_reducible show wpAny _ _ (call (Value.builtin "sorted") _) _ _ _)); (fail_if_success (with_reducible show wpAny _ _ (call (Value.type "list") [Value.ref _]) _ _ _)); (fail_if_success (with_reducible show wpAny _ _ (call (Value.type "dict") [Value.ref _]) _ _ _)); (try dsimp only); walk1))) | (first | ((with_reducible show ite _ _ _); walk1) | ((with_reducible show _ ∧ _); walk1) | (leave1; (try dsimp only)) | (dsimp only [InvPostN]) | fail "no step")))
    rename_i l h4 tk4 e1 i1 b1 l2 F1 N1
    dsimp only at N1 l2
    refine ⟨_, _, _, [(d, o)], fun i m nx => ∃ o kvs, m (Str.ofString "found") = some (.ref d) ∧ nx = [(d, o)] ∧ o.IsDictOf (intKind prog w) kvs ∧ AllStr kvs ∧ proj kvs = (rows.take i).foldl loadStep [] ∧ kvs.length ≤ i,
      rfl, l2, ?_, ?_, F1, (fun p hp => N1 p (.tail _ hp)), ⟨o, [], rfl, rfl, hi, AllStr.nil, rfl, Nat.le_refl _⟩, ?_, ?_⟩
    · exact (N1 _ (.head _)).2.1
    · intro p hp
      rw [List.mem_singleton.mp hp]
      rintro (e : d = _)
      have g1 := (N1 _ (.head _)).1
      have g2 := (N1 _ (.tail _ (.head _))).1
      dsimp only at g1 g2
      rw [e, g1] at g2
      cases g2
      obtain ⟨_, _, hc, _⟩ := hi
      have q := hc.1
      simp at q
    · rintro i v m₁ news₁ h5 tk5 own hv ha hoff ⟨o1, kvs, hm, rfl, hd, hall, hpr, hle⟩ F2 N2
      dsimp only
      k_fold
      have hil : i < rows.length := by
        have : i < l.length := by
          have := (List.getElem?_eq_some_iff.mp hv).1
          simpa [strValues] using this
        have e2 := congrArg List.length (e1.trans hs)
        simp at e2
        omega
      obtain ⟨tv, rfl⟩ : ∃ tv, v = .str (rows[i]).str tv := by
        have e2 : (l.map (·.1))[i]? = some (rows[i]).str := by rw [e1, hs]; simp [hil]
        unfold strValues at hv
        rw [List.getElem?_map] at hv e2
        cases hq : l[i]? with
        | none => rw [hq] at hv; cases hv
        | some q =>
          rw [hq] at hv e2
          simp only [Option.map_some, Option.some.injEq] at hv e2
          exact ⟨q.2, by rw [← hv, ← e2]⟩
      have hr := hok _ (List.getElem_mem hil)
      have hrl : (rows[i]).str.length ≤ 1000 := hr.len
      have em : m₁ = fun y => if y = Str.ofString "found" then some (.ref d) else m₁ y := by
        funext y
        by_cases ey : y = Str.ofString "found"
        · rw [if_pos ey, ey, hm]
        · rw [if_neg ey]
      rw [em] at F2
      dsimp only [List.cons_append, List.nil_append] at N2
      have hsb := strip_blank (rows[i]).str
      rw [RowD.toList] at hsb
      (repeat' (first | (k_unfold; (try dsimp only)) | ((fail_if_success (with_reducible show wpAny _ _ (setItem _ _ _) _ _ _)); (((with_reducible show wpAny _ _ _ _ _ _); (fail_if_success (with_reducible show wpAny _ _ (exec (Stmt.While _ _ _ _) _) _ _ _)); (fail_if_success (with_reducible show wpAny _ _ (exec (Stmt.Raise _ _ _) _) _ _ _)); (fail_if_success (with_reducible show wpAny _ _ (exec (Stmt.Try _ _ _ _ _) _) _ _ _)); (fail_if_success (with_reducible show wpAny _ _ (exec (Stmt.For _ _ _ _ _) _) _ _ _)); (fail_if_success (with_reducible show wpAny _ _ (call (Value.ref _) _) _ _ _)); (fail_if_success (with_reducible show wpAny _ _ (call (Value.builtin "dict.pop") _) _ _ _)); (fail_if_success (with_reducible show wpAny _ _ (eval (Expr.ListComp _ _ _ _) _) _ _ _)); (fail_if_success (with_reducible show wpAny _ _ (exec (Stmt.Assign _ (Expr.ListComp _ _ _ _) _) _) _ _ _)); (fail_if_success (with_reducible show wpAny _ _ (call (Value.builtin "sorted") _) _ _ _)); (fail_if_success (with_reducible show wpAny _ _ (call (Value.type "list") [Value.ref _]) _ _ _)); (fail_if_success (with_reducible show wpAny _ _ (call (Value.type "dict") [Value.ref _]) _ _ _)); (try dsimp only); walk1))) | (first | ((with_reducible show ite _ _ _); walk1) | ((with_reducible show _ ∧ _); walk1) | (leave1; (try dsimp only)) | (dsimp only [InvPostN]) | fail "no step")))
      · have hb : (Txt.stripChars (rows[i]).str (Str.ofString " ") == Str.ofString "") = true := by assumption
        rw [hsb] at hb
        obtain ⟨n, e⟩ := blank_row hr hb
        refine InvEndN.intro F2 N2 ⟨o1, kvs, rfl, rfl, hd, hall, ?_, Nat.le_succ_of_le hle⟩ rfl (fun p hp => by rw [List.mem_singleton.mp hp]; exact .head _) (fun p hp => .tail _ hp)
        rw [hpr, take_succ_foldl hil, e]
        rfl
      · have hb : (Txt.stripChars (rows[i]).str (Str.ofString " ") == Str.ofString "") = false := by assumption
        rw [hsb] at hb
        obtain ⟨k, ds, rest, e⟩ : ∃ k ds rest, rows[i] = .row k ds rest := by
          cases e : rows[i] with
          | blank n => rw [e, not_blank] at hb; cases hb
          | row k ds rest => exact ⟨_, _, _, rfl⟩
        have estep : (rows.take (i + 1)).foldl loadStep [] = loadStep (proj kvs) (.row k ds rest) := by
          rw [hpr, take_succ_foldl hil, e]
        rw [e] at hr hrl ⊢
        refine nrow_spec (c0.keeps F2.keep) (rm.deep (by decide)) (by omega) hr.1 hr.2.1 ?_
        intro h6 tk6 a t1 t2 hk6 hn6 ha6
        dsimp only at hk6 hn6
        obtain ⟨F3, N3, ne3⟩ := news_add F2 N2 hk6 hn6 ha6
        have hda := ne3 (d, o1) (by simp)
        dsimp only at hda
        have hul : (⟨(unblank rest).toArray⟩ : Str).length ≤ 1000 := by
          have h1 := hr.1.len
          have h2 := hr.2.2
          have h3 : (⟨(unblank rest).toArray⟩ : Str).length = (unblank rest).length := by simp [len_toList]
          have h4 : (unblank rest).length ≤ rest.length := by
            unfold unblank
            split
            · simp
            · exact Nat.le_refl _
          omega
        have hsb2 := strip_blank ⟨(unblank rest).toArray⟩
        have hown : ∀ p ∈ own, p.1 ≠ d := hoff.ne (by simp)
        have hz : kvs.length ≤ sizeLine := by rw [sizeLine_eq]; omega
        (repeat' (first | (k_unfold; (try dsimp only)) | ((fail_if_success (with_reducible show wpAny _ _ (setItem _ _ _) _ _ _)); (((with_reducible show wpAny _ _ _ _ _ _); (fail_if_success (with_reducible show wpAny _ _ (exec (Stmt.While _ _ _ _) _) _ _ _)); (fail_if_success (with_reducible show wpAny _ _ (exec (Stmt.Raise _ _ _) _) _ _ _)); (fail_if_success (with_reducible show wpAny _ _ (exec (Stmt.Try _ _ _ _ _) _) _ _ _)); (fail_if_success (with_reducible show wpAny _ _ (exec (Stmt.For _ _ _ _ _) _) _ _ _)); (fail_if_success (with_reducible show wpAny _ _ (call (Value.ref _) _) _ _ _)); (fail_if_success (with_reducible show wpAny _ _ (call (Value.builtin "dict.pop") _) _ _ _)); (fail_if_success (with_reducible show wpAny _ _ (eval (Expr.ListComp _ _ _ _) _) _ _ _)); (fail_if_success (with_reducible show wpAny _ _ (exec (Stmt.Assign _ (Expr.ListComp _ _ _ _) _) _) _ _ _)); (fail_if_success (with_reducible show wpAny _ _ (call (Value.builtin "sorted") _) _ _ _)); (fail_if_success (with_reducible show wpAny _ _ (call (Value.type "list") [Value.ref _]) _ _ _)); (fail_if_success (with_reducible show wpAny _ _ (call (Value.type "dict") [Value.ref _]) _ _ _)); (try dsimp only); walk1))) | (first | ((with_reducible show ite _ _ _); walk1) | ((with_reducible show _ ∧ _); walk1) | (leave1; (try dsimp only)) | (dsimp only [InvPostN]) | fail "no step")))
        · have hb2 : (Txt.stripChars ⟨(unblank rest).toArray⟩ (Str.ofString " ") == Str.ofString "") = true := by assumption
          rw [hsb2] at hb2
          rename News _ _ _ _ => N4
          rename Fr _ _ _ _ => F4
          refine pop_pairs (knd := intKind prog w) (intKind_is _ _ _ _) rfl (PySem.F.args_dict_pop_3 _ _ _) lo F4 N4 (UpdF.tail (Ne.symm hda) (UpdF.head hown)) hd ?_ hz
          intro h7 o2 v7 F5 N5 hd2
          (try dsimp only at N5)
          (try dsimp only)
          (repeat' (first | (k_unfold; (try dsimp only)) | ((fail_if_success (with_reducible show wpAny _ _ (setItem _ _ _) _ _ _)); (((with_reducible show wpAny _ _ _ _ _ _); (fail_if_success (with_reducible show wpAny _ _ (exec (Stmt.While _ _ _ _) _) _ _ _)); (fail_if_success (with_reducible show wpAny _ _ (exec (Stmt.Raise _ _ _) _) _ _ _)); (fail_if_success (with_reducible show wpAny _ _ (exec (Stmt.Try _ _ _ _ _) _) _ _ _)); (fail_if_success (with_reducible show wpAny _ _ (exec (Stmt.For _ _ _ _ _) _) _ _ _)); (fail_if_success (with_reducible show wpAny _ _ (call (Value.ref _) _) _ _ _)); (fail_if_success (with_reducible show wpAny _ _ (call (Value.builtin "dict.pop") _) _ _ _)); (fail_if_success (with_reducible show wpAny _ _ (eval (Expr.ListComp _ _ _ _) _) _ _ _)); (fail_if_success (with_reducible show wpAny _ _ (exec (Stmt.Assign _ (Expr.ListComp _ _ _ _) _) _) _ _ _)); (fail_if_success (with_reducible show wpAny _ _ (call (Value.builtin "sorted") _) _ _ _)); (fail_if_success (with_reducible show wpAny _ _ (call (Value.type "list") [Value.ref _]) _ _ _)); (fail_if_success (with_reducible show wpAny _ _ (call (Value.type "dict") [Value.ref _]) _ _ _)); (try dsimp only); walk1))) | (first | ((with_reducible show ite _ _ _); walk1) | ((with_reducible show _ ∧ _); walk1) | (leave1; (try dsimp only)) | (dsimp only [InvPostN]) | fail "no step")))
          refine InvEndN.intro F5 N5 ⟨o2, _, rfl, rfl, hd2, hall.without, ?_, ?_⟩ rfl (fun p hp => by rw [List.mem_singleton.mp hp]; exact .tail _ (.head _)) (fun p hp => .tail _ (.tail _ hp))
          · rw [estep, proj_without]
            show _ = if isBlank (unblank rest) = true then _ else _
            rw [if_pos (show isBlank (unblank rest) = true from hb2)]
          · exact Nat.le_succ_of_le (Nat.le_trans (List.length_filter_le _ _) hle)
        · have hb2 : (Txt.stripChars ⟨(unblank rest).toArray⟩ (Str.ofString " ") == Str.ofString "") = false := by assumption
          rw [hsb2] at hb2
          rename News _ _ _ _ => N4
          rename Fr _ _ _ _ => F4
          refine kda_set (knd := intKind prog w) F4 N4 (UpdF.tail (Ne.symm hda) (UpdF.head hown)) hd (intKind_is _ _ _ _) hz ?_
          intro h7 o2 F5 N5 hd2
          (try dsimp only at N5)
          (try dsimp only)
          (repeat' (first | (k_unfold; (try dsimp only)) | ((fail_if_success (with_reducible show wpAny _ _ (setItem _ _ _) _ _ _)); (((with_reducible show wpAny _ _ _ _ _ _); (fail_if_success (with_reducible show wpAny _ _ (exec (Stmt.While _ _ _ _) _) _ _ _)); (fail_if_success (with_reducible show wpAny _ _ (exec (Stmt.Raise _ _ _) _) _ _ _)); (fail_if_success (with_reducible show wpAny _ _ (exec (Stmt.Try _ _ _ _ _) _) _ _ _)); (fail_if_success (with_reducible show wpAny _ _ (exec (Stmt.For _ _ _ _ _) _) _ _ _)); (fail_if_success (with_reducible show wpAny _ _ (call (Value.ref _) _) _ _ _)); (fail_if_success (with_reducible show wpAny _ _ (call (Value.builtin "dict.pop") _) _ _ _)); (fail_if_success (with_reducible show wpAny _ _ (eval (Expr.ListComp _ _ _ _) _) _ _ _)); (fail_if_success (with_reducible show wpAny _ _ (exec (Stmt.Assign _ (Expr.ListComp _ _ _ _) _) _) _ _ _)); (fail_if_success (with_reducible show wpAny _ _ (call (Value.builtin "sorted") _) _ _ _)); (fail_if_success (with_reducible show wpAny _ _ (call (Value.type "list") [Value.ref _]) _ _ _)); (fail_if_success (with_reducible show wpAny _ _ (call (Value.type "dict") [Value.ref _]) _ _ _)); (try dsimp only); walk1))) | (first | ((with_reducible show ite _ _ _); walk1) | ((with_reducible show _ ∧ _); walk1) | (leave1; (try dsimp only)) | (dsimp only [InvPostN]) | fail "no step")))
          refine InvEndN.intro F5 N5 ⟨o2, _, rfl, rfl, hd2, hall.stored, ?_, ?_⟩ rfl (fun p hp => by rw [List.mem_singleton.mp hp]; exact .tail _ (.head _)) (fun p hp => .tail _ (.tail _ hp))
          · rw [estep, proj_stored]
            show _ = if isBlank (unblank rest) = true then _ else _
            have : isBlank (unblank rest) = false := hb2
            rw [this, if_neg Bool.false_ne_true]
          · exact Nat.le_trans (stored_length_le _ _ _) (Nat.succ_le_succ hle)
    · rintro m₁ news₁ h5 tk5 ⟨o1, kvs, hm, rfl, hd, hall, hpr, hle⟩ F2 N2
      refine ⟨h5, tk5, m₁, o1, kvs, rfl, hm, F2, N2, hd, hall, ?_⟩
      have e2 := congrArg List.length (e1.trans hs)
      simp only [List.length_map] at e2
      have e3 : (strValues l).length = rows.length := by simp [strValues, e2]
      rw [hpr, e3, List.take_length]
  · rintro s' ⟨h5, tk5, m₁, o1, kvs, rfl, hm, F2, N2, hd, hall, hpr⟩
    have em : m₁ = fun y => if y = Str.ofString "found" then some (.ref d) else m₁ y := by
      funext y
      by_cases ey : y = Str.ofString "found"
      · rw [if_pos ey, ey, hm]
      · rw [if_neg ey]
    rw [em] at F2
    dsimp only
    (repeat' (first | (k_unfold; (try dsimp only)) | ((fail_if_success (with_reducible show wpAny _ _ (setItem _ _ _) _ _ _)); (((with_reducible show wpAny _ _ _ _ _ _); (fail_if_success (with_reducible show wpAny _ _ (exec (Stmt.While _ _ _ _) _) _ _ _)); (fail_if_success (with_reducible show wpAny _ _ (exec (Stmt.Raise _ _ _) _) _ _ _)); (fail_if_success (with_reducible show wpAny _ _ (exec (Stmt.Try _ _ _ _ _) _) _ _ _)); (fail_if_success (with_reducible show wpAny _ _ (exec (Stmt.For _ _ _ _ _) _) _ _ _)); (fail_if_success (with_reducible show wpAny _ _ (call (Value.ref _) _) _ _ _)); (fail_if_success (with_reducible show wpAny _ _ (call (Value.builtin "dict.pop") _) _ _ _)); (fail_if_success (with_reducible show wpAny _ _ (eval (Expr.ListComp _ _ _ _) _) _ _ _)); (fail_if_success (with_reducible show wpAny _ _ (exec (Stmt.Assign _ (Expr.ListComp _ _ _ _) _) _) _ _ _)); (fail_if_success (with_reducible show wpAny _ _ (call (Value.builtin "sorted") _) _ _ _)); (fail_if_success (with_reducible show wpAny _ _ (call (Value.type "list") [Value.ref _]) _ _ _)); (fail_if_success (with_reducible show wpAny _ _ (call (Value.type "dict") [Value.ref _]) _ _ _)); (try dsimp only); walk1))) | (first | ((with_reducible show ite _ _ _); walk1) | ((with_reducible show _ ∧ _); walk1) | (leave1; (try dsimp only)) | (dsimp only [InvPostN]) | fail "no step")))
    exact h _ _ _ F2.keep (N2 _ (.head _)).2.2 ⟨lo, kvs, Heap.dictOf_iff.mpr ⟨o1, (N2 _ (.head _)).1, hd⟩, hall, hpr⟩

def isArr (x : Str) : Bool := PySem.Txt.slice x (some (-2)) none == Str.ofString "()"

theorem isarr_spec {prog : Program} {w : World} {mean : ExcName → Option Value} {mg mb : Str → Option Value} {A : Around} {s : Shared} {Q E : Value → Shared → Prop} {x : Str} {t : Tok}
    (c : Cx w mean mg mb s.heap) (r : Rm A 2) (hx : x.length ≤ 1048576)
    (h : ∀ h' tk, (∀ b o, s.heap.get? b = some o → h'.get? b = some o) → Q (.bool (isArr x)) { s with heap := h', toks := tk }) :
    wpAny (model prog w) A (call (.ref 84) [.str x t]) Q E s := by
  obtain ⟨X, T⟩ := c
  obtain ⟨rd, ru, rh⟩ := r
  obtain ⟨ah, ad, af, ag, au⟩ := A
  dsimp only at rd ru rh
  subst rh
  refine wpAny_call ?_
  k_dflt (refine' enter0 (binds := [(Str.ofString "word", .str x t)]) X T ?k6 ?k7 ?k8 ?k9 ?kB ?_ ?c2 ?c3 ?c4 ?c5; (((case k6 => k_is); (case k7 => k_is); (case k8 => ((try dsimp only); omega)); (case k9 => exact BindsTo.of_eq rfl); (case c5 => decide); (case kB => exact locs rfl); (case c2 => exact rfl); (case c3 => exact rfl); (case c4 => exact rfl))))
  intro L h1 F N
  rw [lk1] at F
  dsimp only
  k_fold
  (repeat' (first | (k_unfold; (try dsimp only)) | ((fail_if_success (with_reducible show wpAny _ _ (setItem _ _ _) _ _ _)); (((with_reducible show wpAny _ _ _ _ _ _); (fail_if_success (with_reducible show wpAny _ _ (exec (Stmt.While _ _ _ _) _) _ _ _)); (fail_if_success (with_reducible show wpAny _ _ (exec (Stmt.Raise _ _ _) _) _ _ _)); (fail_if_success (with_reducible show wpAny _ _ (exec (Stmt.Try _ _ _ _ _) _) _ _ _)); (fail_if_success (with_reducible show wpAny _ _ (exec (Stmt.For _ _ _ _ _) _) _ _ _)); (fail_if_success (with_reducible show wpAny _ _ (call (Value.ref _) _) _ _ _)); (fail_if_success (with_reducible show wpAny _ _ (call (Value.builtin "dict.pop") _) _ _ _)); (fail_if_success (with_reducible show wpAny _ _ (eval (Expr.ListComp _ _ _ _) _) _ _ _)); (fail_if_success (with_reducible show wpAny _ _ (exec (Stmt.Assign _ (Expr.ListComp _ _ _ _) _) _) _ _ _)); (fail_if_success (with_reducible show wpAny _ _ (call (Value.builtin "sorted") _) _ _ _)); (fail_if_success (with_reducible show wpAny _ _ (call (Value.type "list") [Value.ref _]) _ _ _)); (fail_if_success (with_reducible show wpAny _ _ (call (Value.type "dict") [Value.ref _]) _ _ _)); (try dsimp only); walk1))) | (first | ((with_reducible show ite _ _ _); walk1) | ((with_reducible show _ ∧ _); walk1) | (leave1; (try dsimp only)) | (dsimp only [InvPostN]) | fail "no step")))
  exact h _ _ (Fr.keep (by assumption))

theorem saved_spec {prog : Program} {w : World} {mean : ExcName → Option Value} {mg mb : Str → Option Value} {A : Around} {s : Shared} {Q E : Value → Shared → Prop} {d : Addr} {P : List (Int × Str)}
    (c : Cx w mean mg mb s.heap) (r : Rm A 4) (hpr : ProgAt prog w s.heap d P) (ok : ProgOk P)
    (h : ∀ h' tk t ns, (∀ b o, s.heap.get? b = some o → h'.get? b = some o) → ns.Perm (P.map (·.1)) → ns.Pairwise (· ≤ ·) → Q (.str (savedStr P ns) t) { s with heap := h', toks := tk }) :
    wpAny (model prog w) A (call (.ref 49) [.ref d]) Q E s := by
  have c0 := c
  obtain ⟨X, T⟩ := c
  obtain ⟨rd, ru, rh⟩ := r
  obtain ⟨ah, ad, af, ag, au⟩ := A
  obtain ⟨lo, kvs, hd, hall, hP⟩ := hpr
  have hn : kvs.length < 32 := by rw [← len_proj (kvs := kvs), hP]; exact ok.few
  have hkeys : kvs.map (·.1) = P.map (·.1) := by rw [← hP, keys_proj]
  dsimp only at rd ru rh
  subst rh
  refine wpAny_call ?_
  k_dflt (refine' enterC (binds := [(Str.ofString "program", .ref d)]) X T ?k6 ?k7 ?k8 ?k9 ?kB ?c5 ?_ ?c2 ?c3 ?c4; (((case k6 => k_is); (case k7 => k_is); (case k8 => ((try dsimp only); omega)); (case k9 => exact BindsTo.of_eq rfl); (case kB => exact rfl); (case c5 => decide); (case c2 => exact rfl); (case c3 => exact rfl); (case c4 => exact rfl))))
  intro L h1 tk1 cells F N CA
  dsimp only
  k_fold
  have F' : Fr s.heap L h1 (fun _ => none) := F
  have CA' : CellsAre (fun y => if y = Str.ofString "program" then some (.ref d) else none) [(Str.ofString "program", L + 1)] cells := CA
  clear F CA
  obtain ⟨o1, rfl, hc1⟩ := CA'.one
  rw [if_pos rfl] at hc1
  clear CA'
  (repeat' (first | (k_unfold; (try dsimp only)) | ((fail_if_success (with_reducible show wpAny _ _ (setItem _ _ _) _ _ _)); (((with_reducible show wpAny _ _ _ _ _ _); (fail_if_success (with_reducible show wpAny _ _ (exec (Stmt.While _ _ _ _) _) _ _ _)); (fail_if_success (with_reducible show wpAny _ _ (exec (Stmt.Raise _ _ _) _) _ _ _)); (fail_if_success (with_reducible show wpAny _ _ (exec (Stmt.Try _ _ _ _ _) _) _ _ _)); (fail_if_success (with_reducible show wpAny _ _ (exec (Stmt.For _ _ _ _ _) _) _ _ _)); (fail_if_success (with_reducible show wpAny _ _ (call (Value.ref _) _) _ _ _)); (fail_if_success (with_reducible show wpAny _ _ (call (Value.builtin "dict.pop") _) _ _ _)); (fail_if_success (with_reducible show wpAny _ _ (eval (Expr.ListComp _ _ _ _) _) _ _ _)); (fail_if_success (with_reducible show wpAny _ _ (exec (Stmt.Assign _ (Expr.ListComp _ _ _ _) _) _) _ _ _)); (fail_if_success (with_reducible show wpAny _ _ (call (Value.builtin "sorted") _) _ _ _)); (fail_if_success (with_reducible show wpAny _ _ (call (Value.type "list") [Value.ref _]) _ _ _)); (fail_if_success (with_reducible show wpAny _ _ (call (Value.type "dict") [Value.ref _]) _ _ _)); (try dsimp only); walk1))) | (first | ((with_reducible show ite _ _ _); walk1) | ((with_reducible show _ ∧ _); walk1) | (leave1; (try dsimp only)) | (dsimp only [InvPostN]) | fail "no step")))
  refine ListComp_J s.heap L (fun _ => none) (by with_unfolding_all rfl) (by decide) (by rfl) (by decide) (by rfl) ?_
  (repeat' (first | (k_unfold; (try dsimp only)) | ((fail_if_success (with_reducible show wpAny _ _ (setItem _ _ _) _ _ _)); (((with_reducible show wpAny _ _ _ _ _ _); (fail_if_success (with_reducible show wpAny _ _ (exec (Stmt.While _ _ _ _) _) _ _ _)); (fail_if_success (with_reducible show wpAny _ _ (exec (Stmt.Raise _ _ _) _) _ _ _)); (fail_if_success (with_reducible show wpAny _ _ (exec (Stmt.Try _ _ _ _ _) _) _ _ _)); (fail_if_success (with_reducible show wpAny _ _ (exec (Stmt.For _ _ _ _ _) _) _ _ _)); (fail_if_success (with_reducible show wpAny _ _ (call (Value.ref _) _) _ _ _)); (fail_if_success (with_reducible show wpAny _ _ (call (Value.builtin "dict.pop") _) _ _ _)); (fail_if_success (with_reducible show wpAny _ _ (eval (Expr.ListComp _ _ _ _) _) _ _ _)); (fail_if_success (with_reducible show wpAny _ _ (exec (Stmt.Assign _ (Expr.ListComp _ _ _ _) _) _) _ _ _)); (fail_if_success (with_reducible show wpAny _ _ (call (Value.builtin "sorted") _) _ _ _)); (fail_if_success (with_reducible show wpAny _ _ (call (Value.type "list") [Value.ref _]) _ _ _)); (fail_if_success (with_reducible show wpAny _ _ (call (Value.type "dict") [Value.ref _]) _ _ _)); (try dsimp only); walk1))) | (first | ((with_reducible show ite _ _ _); walk1) | ((with_reducible show _ ∧ _); walk1) | (leave1; (try dsimp only)) | (dsimp only [InvPostN]) | fail "no step")))
  rename Fr _ _ _ _ => F2
  rename News _ _ _ _ => N2
  refine sorted_dict rfl F2 N2 (hd.keep F2.keep) lo (by omega) ?_
  intro D h3 tk3 vs ns e F3 N3 ne3 hi hp hs
  (try dsimp only)
  rw [hkeys] at hp
  have hsz : vs.length = ns.length := hi.length
  have hmem : ∀ k ∈ ns, k ∈ P.map (·.1) := fun k hk => hp.mem_iff.mp hk
  have hlen : ns.length < 32 := by rw [hp.length_eq, List.length_map]; exact ok.few
  have hrow : ∀ k ∈ ns, ∃ tx, at' P k = some tx ∧ tx.length ≤ 100 ∧ LineNo k := fun k hk => by
    obtain ⟨v, e1, e2⟩ := at_mem (hmem k hk)
    exact ⟨v, e1, ok.texts _ e2, ok.keys _ e2⟩
  refine SrcJ.list (vs := vs) (ol := listOf vs.toArray e) (fun i ys nw => nw = [(D, listOf vs.toArray e), (L + 1, o1)] ∧ StrsAre ys ((ns.take i).map (savedRow P))) rfl ⟨_, (N3 _ (.head _)).1, rfl, e, rfl⟩ (N3 _ (.head _)).1 ?_ F3 N3 ⟨rfl, .nil⟩ (.inr ?_) ?_ ?_
  · rw [sizeLine_eq]; omega
  · rintro i ys nw ⟨rfl, _⟩; exact .head _
  · rintro g i v ys nw I oI C oC Dl m2 h4 tk4 E' hi4 hv ⟨rfl, hys⟩ hC hx F4 N4 off ne4
    refine wpAny_tests_nil ?_
    rw [if_pos rfl]
    obtain ⟨k, tk, rfl, hk⟩ := ints_at hi hv
    obtain ⟨tx, hat, htl, hln⟩ := hrow k (List.mem_of_getElem? hk)
    have hk0 : 0 ≤ k ∧ k ≤ 65529 := LineNo.all (P := fun k => 0 ≤ k ∧ k ≤ 65529) (by omega) (by omega) (by omega) (by omega) hln
    have hl : (Str.ofString (toString k)).length ≤ 100 := LineNo.all (P := fun k => (Str.ofString (toString k)).length ≤ 100) (by decide +kernel) (by decide +kernel) (by decide +kernel) (by decide +kernel) hln
    obtain ⟨tt, hvt⟩ : ∃ tt, valueAt kvs k = some (.str tx tt) := by
      rw [← hP, at_proj] at hat
      obtain ⟨v, hv, rfl⟩ := Option.map_eq_some_iff.mp hat
      obtain ⟨tt, e⟩ := hall.at hv
      exact ⟨tt, by rw [hv, e]; rfl⟩
    (repeat' (first | (k_unfold; (try dsimp only)) | ((fail_if_success (with_reducible show wpAny _ _ (setItem _ _ _) _ _ _)); (((with_reducible show wpAny _ _ _ _ _ _); (fail_if_success (with_reducible show wpAny _ _ (exec (Stmt.While _ _ _ _) _) _ _ _)); (fail_if_success (with_reducible show wpAny _ _ (exec (Stmt.Raise _ _ _) _) _ _ _)); (fail_if_success (with_reducible show wpAny _ _ (exec (Stmt.Try _ _ _ _ _) _) _ _ _)); (fail_if_success (with_reducible show wpAny _ _ (exec (Stmt.For _ _ _ _ _) _) _ _ _)); (fail_if_success (with_reducible show wpAny _ _ (call (Value.ref _) _) _ _ _)); (fail_if_success (with_reducible show wpAny _ _ (call (Value.builtin "dict.pop") _) _ _ _)); (fail_if_success (with_reducible show wpAny _ _ (eval (Expr.ListComp _ _ _ _) _) _ _ _)); (fail_if_success (with_reducible show wpAny _ _ (exec (Stmt.Assign _ (Expr.ListComp _ _ _ _) _) _) _ _ _)); (fail_if_success (with_reducible show wpAny _ _ (call (Value.builtin "sorted") _) _ _ _)); (fail_if_success (with_reducible show wpAny _ _ (call (Value.type "list") [Value.ref _]) _ _ _)); (fail_if_success (with_reducible show wpAny _ _ (call (Value.type "dict") [Value.ref _]) _ _ _)); (try dsimp only); walk1))) | (first | ((with_reducible show ite _ _ _); walk1) | ((with_reducible show _ ∧ _); walk1) | (leave1; (try dsimp only)) | (dsimp only [InvPostN]) | fail "no step")))
    rename Fr _ _ _ _ => F5
    refine dict_item (knd := intKind prog w) (hd.keep F5.keep) (intKind_is _ _ _ _) hvt ?_
    (repeat' (first | (k_unfold; (try dsimp only)) | ((fail_if_success (with_reducible show wpAny _ _ (setItem _ _ _) _ _ _)); (((with_reducible show wpAny _ _ _ _ _ _); (fail_if_success (with_reducible show wpAny _ _ (exec (Stmt.While _ _ _ _) _) _ _ _)); (fail_if_success (with_reducible show wpAny _ _ (exec (Stmt.Raise _ _ _) _) _ _ _)); (fail_if_success (with_reducible show wpAny _ _ (exec (Stmt.Try _ _ _ _ _) _) _ _ _)); (fail_if_success (with_reducible show wpAny _ _ (exec (Stmt.For _ _ _ _ _) _) _ _ _)); (fail_if_success (with_reducible show wpAny _ _ (call (Value.ref _) _) _ _ _)); (fail_if_success (with_reducible show wpAny _ _ (call (Value.builtin "dict.pop") _) _ _ _)); (fail_if_success (with_reducible show wpAny _ _ (eval (Expr.ListComp _ _ _ _) _) _ _ _)); (fail_if_success (with_reducible show wpAny _ _ (exec (Stmt.Assign _ (Expr.ListComp _ _ _ _) _) _) _ _ _)); (fail_if_success (with_reducible show wpAny _ _ (call (Value.builtin "sorted") _) _ _ _)); (fail_if_success (with_reducible show wpAny _ _ (call (Value.type "list") [Value.ref _]) _ _ _)); (fail_if_success (with_reducible show wpAny _ _ (call (Value.type "dict") [Value.ref _]) _ _ _)); (try dsimp only); walk1))) | (first | ((with_reducible show ite _ _ _); walk1) | ((with_reducible show _ ∧ _); walk1) | (leave1; (try dsimp only)) | (dsimp only [InvPostN]) | fail "no step")))
    rename Fr _ _ _ _ => F6
    rename News _ _ _ _ => N6
    refine TurnEnd.intro F6 N6 _ (fun _ h => h) off ⟨rfl, ?_⟩
    have e1 : List.take (i + 1) ns = List.take i ns ++ [k] := by rw [List.take_add_one, hk]; rfl
    rw [e1, List.map_append]
    have e2 : savedRow P k = Str.ofString (toString k) ++ Str.ofString " " ++ tx ++ Str.ofString "\n" := by unfold savedRow; rw [hat]; rfl
    rw [List.map_singleton, e2]
    exact strs_snoc hys
  · rintro ys nw ⟨rfl, hys⟩ Dl h5 tk5 F5 N5 ne5
    rw [hsz, List.take_length] at hys
    (repeat' (first | (k_unfold; (try dsimp only)) | ((fail_if_success (with_reducible show wpAny _ _ (setItem _ _ _) _ _ _)); (((with_reducible show wpAny _ _ _ _ _ _); (fail_if_success (with_reducible show wpAny _ _ (exec (Stmt.While _ _ _ _) _) _ _ _)); (fail_if_success (with_reducible show wpAny _ _ (exec (Stmt.Raise _ _ _) _) _ _ _)); (fail_if_success (with_reducible show wpAny _ _ (exec (Stmt.Try _ _ _ _ _) _) _ _ _)); (fail_if_success (with_reducible show wpAny _ _ (exec (Stmt.For _ _ _ _ _) _) _ _ _)); (fail_if_success (with_reducible show wpAny _ _ (call (Value.ref _) _) _ _ _)); (fail_if_success (with_reducible show wpAny _ _ (call (Value.builtin "dict.pop") _) _ _ _)); (fail_if_success (with_reducible show wpAny _ _ (eval (Expr.ListComp _ _ _ _) _) _ _ _)); (fail_if_success (with_reducible show wpAny _ _ (exec (Stmt.Assign _ (Expr.ListComp _ _ _ _) _) _) _ _ _)); (fail_if_success (with_reducible show wpAny _ _ (call (Value.builtin "sorted") _) _ _ _)); (fail_if_success (with_reducible show wpAny _ _ (call (Value.type "list") [Value.ref _]) _ _ _)); (fail_if_success (with_reducible show wpAny _ _ (call (Value.type "dict") [Value.ref _]) _ _ _)); (try dsimp only); walk1))) | (first | ((with_reducible show ite _ _ _); walk1) | ((with_reducible show _ ∧ _); walk1) | (leave1; (try dsimp only)) | (dsimp only [InvPostN]) | fail "no step")))
    refine join_strs ⟨_, (N5 _ (.head _)).1, rfl, _, rfl⟩ hys 400 ?_ ?_ ?_
    · intro y hy
      obtain ⟨k, hk, rfl⟩ := List.mem_map.mp hy
      obtain ⟨tx, hat, htl, hln⟩ := hrow k hk
      have hl : (Str.ofString (toString k)).length ≤ 100 := LineNo.all (P := fun k => (Str.ofString (toString k)).length ≤ 100) (by decide +kernel) (by decide +kernel) (by decide +kernel) (by decide +kernel) hln
      unfold savedRow
      rw [hat, Option.getD_some]
      rw [PySem.Str.length_append, PySem.Str.length_append, PySem.Str.length_append]
      have e3 : (Str.ofString " ").length = 1 := by decide +kernel
      have e4 : (Str.ofString "\n").length = 1 := by decide +kernel
      omega
    · rw [List.length_map]
      have e3 : (Str.ofString "").length = 0 := by decide +kernel
      rw [e3]
      omega
    · intro t' k
      dsimp only
      exact h _ _ _ ns F5.keep hp hs

structure Mg (prog : Program) (w : World) (d : Addr) (h₀ : Heap) (L : Addr) (P : List (Int × Str)) (s s' : Shared) : Prop where
  is : ∃ h' tk m o kvs, s' = { s with heap := h', toks := tk } ∧ m (Str.ofString "found") = some (.ref d) ∧ Fr h₀ L h' m ∧ News h₀ L h' [(d, o)] ∧ o.IsDictOf (intKind prog w) kvs ∧ AllStr kvs ∧ proj kvs = P

theorem merged_spec {prog : Program} {w : World} {mean : ExcName → Option Value} {mg mb : Str → Option Value} {A : Around} {s : Shared} {Q E : Value → Shared → Prop} {d1 d2 : Addr} {P1 P2 : List (Int × Str)}
    (c : Cx w mean mg mb s.heap) (r : Rm A 4) (hp1 : ProgAt prog w s.heap d1 P1) (hp2 : ProgAt prog w s.heap d2 P2) (ok1 : P1.length < 32) (ok2 : P2.length < 32)
    (h : ∀ h' tk a, (∀ b o, s.heap.get? b = some o → h'.get? b = some o) → s.heap.get? a = none → ProgAt prog w h' a (mergeP P1 P2) → Q (.ref a) { s with heap := h', toks := tk }) :
    wpAny (model prog w) A (call (.ref 63) [.ref d1, .ref d2]) Q E s := by
  have c0 := c
  obtain ⟨X, T⟩ := c
  obtain ⟨rd, ru, rh⟩ := r
  obtain ⟨ah, ad, af, ag, au⟩ := A
  obtain ⟨lo1, kvs1, hd1, hall1, hP1⟩ := hp1
  obtain ⟨lo2, kvs2, hd2, hall2, hP2⟩ := hp2
  have hn1 : kvs1.length < 32 := by rw [← len_proj (kvs := kvs1), hP1]; exact ok1
  have hn2 : kvs2.length < 32 := by rw [← len_proj (kvs := kvs2), hP2]; exact ok2
  dsimp only at rd ru rh
  subst rh
  refine wpAny_call ?_
  k_dflt (refine' enter0 (binds := [(Str.ofString "program", .ref d1), (Str.ofString "other", .ref d2)]) X T ?k6 ?k7 ?k8 ?k9 ?kB ?_ ?c2 ?c3 ?c4 ?c5; (((case k6 => k_is); (case k7 => k_is); (case k8 => ((try dsimp only); omega)); (case k9 => exact BindsTo.of_eq rfl); (case c5 => decide); (case kB => exact locs rfl); (case c2 => exact rfl); (case c3 => exact rfl); (case c4 => exact rfl))))
  intro L h1 F N
  rw [lk2] at F
  dsimp only
  k_fold
  (repeat' (first | (k_unfold; (try dsimp only)) | ((fail_if_success (with_reducible show wpAny _ _ (setItem _ _ _) _ _ _)); (((with_reducible show wpAny _ _ _ _ _ _); (fail_if_success (with_reducible show wpAny _ _ (exec (Stmt.While _ _ _ _) _) _ _ _)); (fail_if_success (with_reducible show wpAny _ _ (exec (Stmt.Raise _ _ _) _) _ _ _)); (fail_if_success (with_reducible show wpAny _ _ (exec (Stmt.Try _ _ _ _ _) _) _ _ _)); (fail_if_success (with_reducible show wpAny _ _ (exec (Stmt.For _ _ _ _ _) _) _ _ _)); (fail_if_success (with_reducible show wpAny _ _ (call (Value.ref _) _) _ _ _)); (fail_if_success (with_reducible show wpAny _ _ (call (Value.builtin "dict.pop") _) _ _ _)); (fail_if_success (with_reducible show wpAny _ _ (eval (Expr.ListComp _ _ _ _) _) _ _ _)); (fail_if_success (with_reducible show wpAny _ _ (exec (Stmt.Assign _ (Expr.ListComp _ _ _ _) _) _) _ _ _)); (fail_if_success (with_reducible show wpAny _ _ (call (Value.builtin "sorted") _) _ _ _)); (fail_if_success (with_reducible show wpAny _ _ (call (Value.type "list") [Value.ref _]) _ _ _)); (fail_if_success (with_reducible show wpAny _ _ (call (Value.type "dict") [Value.ref _]) _ _ _)); (try dsimp only); walk1))) | (first | ((with_reducible show ite _ _ _); walk1) | ((with_reducible show _ ∧ _); walk1) | (leave1; (try dsimp only)) | (dsimp only [InvPostN]) | fail "no step")))
  refine dict_of_dict (knd := intKind prog w) F N T.nolimit (hd1.keep F.keep) lo1 (by rw [sizeLine_eq]; omega) ?_
  intro h3 o0 D F3 N3 lo hi ne3
  (repeat' (first | (k_unfold; (try dsimp only)) | ((fail_if_success (with_reducible show wpAny _ _ (setItem _ _ _) _ _ _)); (((with_reducible show wpAny _ _ _ _ _ _); (fail_if_success (with_reducible show wpAny _ _ (exec (Stmt.While _ _ _ _) _) _ _ _)); (fail_if_success (with_reducible show wpAny _ _ (exec (Stmt.Raise _ _ _) _) _ _ _)); (fail_if_success (with_reducible show wpAny _ _ (exec (Stmt.Try _ _ _ _ _) _) _ _ _)); (fail_if_success (with_reducible show wpAny _ _ (exec (Stmt.For _ _ _ _ _) _) _ _ _)); (fail_if_success (with_reducible show wpAny _ _ (call (Value.ref _) _) _ _ _)); (fail_if_success (with_reducible show wpAny _ _ (call (Value.builtin "dict.pop") _) _ _ _)); (fail_if_success (with_reducible show wpAny _ _ (eval (Expr.ListComp _ _ _ _) _) _ _ _)); (fail_if_success (with_reducible show wpAny _ _ (exec (Stmt.Assign _ (Expr.ListComp _ _ _ _) _) _) _ _ _)); (fail_if_success (with_reducible show wpAny _ _ (call (Value.builtin "sorted") _) _ _ _)); (fail_if_success (with_reducible show wpAny _ _ (call (Value.type "list") [Value.ref _]) _ _ _)); (fail_if_success (with_reducible show wpAny _ _ (call (Value.type "dict") [Value.ref _]) _ _ _)); (try dsimp only); walk1))) | (first | ((with_reducible show ite _ _ _); walk1) | ((with_reducible show _ ∧ _); walk1) | (leave1; (try dsimp only)) | (dsimp only [InvPostN]) | fail "no step")))
  rename Fr _ _ _ _ => F4
  rename News _ _ _ _ => N4
  refine For_keys (h₀ := s.heap) (intKind prog w) (Mg prog w D s.heap L (mergeP P1 P2) s) rfl rfl rfl ?_ ?_
  · (repeat' (first | (k_unfold; (try dsimp only)) | ((fail_if_success (with_reducible show wpAny _ _ (setItem _ _ _) _ _ _)); (((with_reducible show wpAny _ _ _ _ _ _); (fail_if_success (with_reducible show wpAny _ _ (exec (Stmt.While _ _ _ _) _) _ _ _)); (fail_if_success (with_reducible show wpAny _ _ (exec (Stmt.Raise _ _ _) _) _ _ _)); (fail_if_success (with_reducible show wpAny _ _ (exec (Stmt.Try _ _ _ _ _) _) _ _ _)); (fail_if_success (with_reducible show wpAny _ _ (exec (Stmt.For _ _ _ _ _) _) _ _ _)); (fail_if_success (with_reducible show wpAny _ _ (call (Value.ref _) _) _ _ _)); (fail_if_success (with_reducible show wpAny _ _ (call (Value.builtin "dict.pop") _) _ _ _)); (fail_if_success (with_reducible show wpAny _ _ (eval (Expr.ListComp _ _ _ _) _) _ _ _)); (fail_if_success (with_reducible show wpAny _ _ (exec (Stmt.Assign _ (Expr.ListComp _ _ _ _) _) _) _ _ _)); (fail_if_success (with_reducible show wpAny _ _ (call (Value.builtin "sorted") _) _ _ _)); (fail_if_success (with_reducible show wpAny _ _ (call (Value.type "list") [Value.ref _]) _ _ _)); (fail_if_success (with_reducible show wpAny _ _ (call (Value.type "dict") [Value.ref _]) _ _ _)); (try dsimp only); walk1))) | (first | ((with_reducible show ite _ _ _); walk1) | ((with_reducible show _ ∧ _); walk1) | (leave1; (try dsimp only)) | (dsimp only [InvPostN]) | fail "no step")))
    rename Fr _ _ _ _ => F5
    rename News _ _ _ _ => N5
    obtain ⟨od2, hod2, _⟩ := Heap.dictOf_iff.mp hd2
    refine ⟨_, kvs2, _, [(D, o0)], fun i m nx => ∃ o kvs, m (Str.ofString "found") = some (.ref D) ∧ m (Str.ofString "other") = some (.ref d2) ∧ nx = [(D, o)] ∧ o.IsDictOf (intKind prog w) kvs ∧ AllStr kvs ∧ proj kvs = mergeP P1 (P2.take i) ∧ kvs.length ≤ 32 + i,
      rfl, hd2.keep F5.keep, lo2, ?_, ?_, F5, N5, ⟨o0, kvs1, rfl, rfl, rfl, hi, hall1, hP1, by omega⟩, ?_, ?_⟩
    · exact fr_ne F5 hod2
    · intro p hp
      rw [List.mem_singleton.mp hp]
      rintro rfl
      have := (N5 _ (.head _)).2.2
      rw [hod2] at this
      cases this
    · rintro i k y v m₁ news₁ h5 tk5 own hki hkv ha hoff ⟨o1, kvs, hm, hm2, rfl, hdo, hall, hpr, hle⟩ F6 N6
      dsimp only
      k_fold
      obtain ⟨tv, rfl⟩ := Value.isInt_shape hkv
      have hvy := valueAt_of_get (dict_nodup hd2) hki
      obtain ⟨sy, ty, rfl⟩ := allstr_get hall2 hvy
      have em := own2 hm hm2
      rw [em] at F6
      (repeat' (first | (k_unfold; (try dsimp only)) | ((fail_if_success (with_reducible show wpAny _ _ (setItem _ _ _) _ _ _)); (((with_reducible show wpAny _ _ _ _ _ _); (fail_if_success (with_reducible show wpAny _ _ (exec (Stmt.While _ _ _ _) _) _ _ _)); (fail_if_success (with_reducible show wpAny _ _ (exec (Stmt.Raise _ _ _) _) _ _ _)); (fail_if_success (with_reducible show wpAny _ _ (exec (Stmt.Try _ _ _ _ _) _) _ _ _)); (fail_if_success (with_reducible show wpAny _ _ (exec (Stmt.For _ _ _ _ _) _) _ _ _)); (fail_if_success (with_reducible show wpAny _ _ (call (Value.ref _) _) _ _ _)); (fail_if_success (with_reducible show wpAny _ _ (call (Value.builtin "dict.pop") _) _ _ _)); (fail_if_success (with_reducible show wpAny _ _ (eval (Expr.ListComp _ _ _ _) _) _ _ _)); (fail_if_success (with_reducible show wpAny _ _ (exec (Stmt.Assign _ (Expr.ListComp _ _ _ _) _) _) _ _ _)); (fail_if_success (with_reducible show wpAny _ _ (call (Value.builtin "sorted") _) _ _ _)); (fail_if_success (with_reducible show wpAny _ _ (call (Value.type "list") [Value.ref _]) _ _ _)); (fail_if_success (with_reducible show wpAny _ _ (call (Value.type "dict") [Value.ref _]) _ _ _)); (try dsimp only); walk1))) | (first | ((with_reducible show ite _ _ _); walk1) | ((with_reducible show _ ∧ _); walk1) | (leave1; (try dsimp only)) | (dsimp only [InvPostN]) | fail "no step")))
      refine dict_item (knd := intKind prog w) (hd2.keep F6.keep) (intKind_is _ _ _ _) hvy ?_
      (repeat' (first | (k_unfold; (try dsimp only)) | ((fail_if_success (with_reducible show wpAny _ _ (setItem _ _ _) _ _ _)); (((with_reducible show wpAny _ _ _ _ _ _); (fail_if_success (with_reducible show wpAny _ _ (exec (Stmt.While _ _ _ _) _) _ _ _)); (fail_if_success (with_reducible show wpAny _ _ (exec (Stmt.Raise _ _ _) _) _ _ _)); (fail_if_success (with_reducible show wpAny _ _ (exec (Stmt.Try _ _ _ _ _) _) _ _ _)); (fail_if_success (with_reducible show wpAny _ _ (exec (Stmt.For _ _ _ _ _) _) _ _ _)); (fail_if_success (with_reducible show wpAny _ _ (call (Value.ref _) _) _ _ _)); (fail_if_success (with_reducible show wpAny _ _ (call (Value.builtin "dict.pop") _) _ _ _)); (fail_if_success (with_reducible show wpAny _ _ (eval (Expr.ListComp _ _ _ _) _) _ _ _)); (fail_if_success (with_reducible show wpAny _ _ (exec (Stmt.Assign _ (Expr.ListComp _ _ _ _) _) _) _ _ _)); (fail_if_success (with_reducible show wpAny _ _ (call (Value.builtin "sorted") _) _ _ _)); (fail_if_success (with_reducible show wpAny _ _ (call (Value.type "list") [Value.ref _]) _ _ _)); (fail_if_success (with_reducible show wpAny _ _ (call (Value.type "dict") [Value.ref _]) _ _ _)); (try dsimp only); walk1))) | (first | ((with_reducible show ite _ _ _); walk1) | ((with_reducible show _ ∧ _); walk1) | (leave1; (try dsimp only)) | (dsimp only [InvPostN]) | fail "no step")))
      rename Fr _ _ _ _ => F7
      rename News _ _ _ _ => N7
      have hown : ∀ p ∈ own, p.1 ≠ D := hoff.ne (by simp)
      have hz : kvs.length ≤ sizeLine := by
        have : i < kvs2.length := (List.getElem?_eq_some_iff.mp hki).1
        rw [sizeLine_eq]; omega
      refine kda_set (knd := intKind prog w) F7 N7 (UpdF.head hown) hdo (intKind_is _ _ _ _) hz ?_
      intro h8 o2 F8 N8 hd8
      (try dsimp only at N8)
      (try dsimp only)
      (repeat' (first | (k_unfold; (try dsimp only)) | ((fail_if_success (with_reducible show wpAny _ _ (setItem _ _ _) _ _ _)); (((with_reducible show wpAny _ _ _ _ _ _); (fail_if_success (with_reducible show wpAny _ _ (exec (Stmt.While _ _ _ _) _) _ _ _)); (fail_if_success (with_reducible show wpAny _ _ (exec (Stmt.Raise _ _ _) _) _ _ _)); (fail_if_success (with_reducible show wpAny _ _ (exec (Stmt.Try _ _ _ _ _) _) _ _ _)); (fail_if_success (with_reducible show wpAny _ _ (exec (Stmt.For _ _ _ _ _) _) _ _ _)); (fail_if_success (with_reducible show wpAny _ _ (call (Value.ref _) _) _ _ _)); (fail_if_success (with_reducible show wpAny _ _ (call (Value.builtin "dict.pop") _) _ _ _)); (fail_if_success (with_reducible show wpAny _ _ (eval (Expr.ListComp _ _ _ _) _) _ _ _)); (fail_if_success (with_reducible show wpAny _ _ (exec (Stmt.Assign _ (Expr.ListComp _ _ _ _) _) _) _ _ _)); (fail_if_success (with_reducible show wpAny _ _ (call (Value.builtin "sorted") _) _ _ _)); (fail_if_success (with_reducible show wpAny _ _ (call (Value.type "list") [Value.ref _]) _ _ _)); (fail_if_success (with_reducible show wpAny _ _ (call (Value.type "dict") [Value.ref _]) _ _ _)); (try dsimp only); walk1))) | (first | ((with_reducible show ite _ _ _); walk1) | ((with_reducible show _ ∧ _); walk1) | (leave1; (try dsimp only)) | (dsimp only [InvPostN]) | fail "no step")))
      refine InvEndN.intro F8 N8 ⟨o2, _, rfl, ?_, rfl, hd8, hall.stored, ?_, ?_⟩ rfl (fun p hp => by rw [List.mem_singleton.mp hp]; exact .head _) (fun p hp => .tail _ hp)
      · rfl
      · rw [proj_stored, hpr]
        have e1 : P2[i]? = some (k, sy) := by rw [← hP2]; unfold proj; rw [List.getElem?_map, hki]; rfl
        unfold mergeP
        rw [take_succ_foldl (List.getElem?_eq_some_iff.mp e1).1, (List.getElem?_eq_some_iff.mp e1).2]
      · exact Nat.le_trans (stored_length_le _ _ _) (Nat.succ_le_succ hle)
    · rintro m₁ news₁ h5 tk5 ⟨o1, kvs, hm, hm2, rfl, hdo, hall, hpr, hle⟩ F6 N6
      refine ⟨h5, tk5, m₁, o1, kvs, rfl, hm, F6, N6, hdo, hall, ?_⟩
      have e3 : kvs2.length = P2.length := by rw [← hP2, len_proj]
      rw [hpr, e3, List.take_length]
  · rintro s' ⟨h5, tk5, m₁, o1, kvs, rfl, hm, F6, N6, hdo, hall, hpr⟩
    have em := own1 hm
    rw [em] at F6
    dsimp only
    (repeat' (first | (k_unfold; (try dsimp only)) | ((fail_if_success (with_reducible show wpAny _ _ (setItem _ _ _) _ _ _)); (((with_reducible show wpAny _ _ _ _ _ _); (fail_if_success (with_reducible show wpAny _ _ (exec (Stmt.While _ _ _ _) _) _ _ _)); (fail_if_success (with_reducible show wpAny _ _ (exec (Stmt.Raise _ _ _) _) _ _ _)); (fail_if_success (with_reducible show wpAny _ _ (exec (Stmt.Try _ _ _ _ _) _) _ _ _)); (fail_if_success (with_reducible show wpAny _ _ (exec (Stmt.For _ _ _ _ _) _) _ _ _)); (fail_if_success (with_reducible show wpAny _ _ (call (Value.ref _) _) _ _ _)); (fail_if_success (with_reducible show wpAny _ _ (call (Value.builtin "dict.pop") _) _ _ _)); (fail_if_success (with_reducible show wpAny _ _ (eval (Expr.ListComp _ _ _ _) _) _ _ _)); (fail_if_success (with_reducible show wpAny _ _ (exec (Stmt.Assign _ (Expr.ListComp _ _ _ _) _) _) _ _ _)); (fail_if_success (with_reducible show wpAny _ _ (call (Value.builtin "sorted") _) _ _ _)); (fail_if_success (with_reducible show wpAny _ _ (call (Value.type "list") [Value.ref _]) _ _ _)); (fail_if_success (with_reducible show wpAny _ _ (call (Value.type "dict") [Value.ref _]) _ _ _)); (try dsimp only); walk1))) | (first | ((with_reducible show ite _ _ _); walk1) | ((with_reducible show _ ∧ _); walk1) | (leave1; (try dsimp only)) | (dsimp only [InvPostN]) | fail "no step")))
    exact h _ _ _ F6.keep (N6 _ (.head _)).2.2 ⟨lo, kvs, Heap.dictOf_iff.mpr ⟨o1, (N6 _ (.head _)).1, hdo⟩, hall, hpr⟩

theorem take_spec {prog : Program} {w : World} {mean : ExcName → Option Value} {mg mb : Str → Option Value} {A : Around} {s : Shared} {Q E : Value → Shared → Prop} {g : Heap} {sp l : Addr} {o : Obj} {n : Nat} {vs : List Value} {ns : List Int}
    (c : Cx w mean mg mb g) (r : Rm A 2) (on : On g [(sp, o)] s.heap) (io : IsSpool o n l) (hl : g.IsList l vs.toArray) (sl : Spl vs ns) (hn : n ≤ 1000)
    (h : ∀ h' tk v t o', On g [(sp, o')] h' → IsSpool o' (n + 1) l → 0 ≤ v → Q (.int v t) { s with heap := h', toks := tk }) :
    wpAny (model prog w) A (call (.ref 144) [.ref sp]) Q E s := by
  have c0 := c
  obtain ⟨hi, hpos, hlen⟩ := sl
  obtain ⟨X, T⟩ := c
  obtain ⟨rd, ru, rh⟩ := r
  obtain ⟨ah, ad, af, ag, au⟩ := A
  obtain ⟨t0, cc, rfl⟩ := io
  dsimp only at rd ru rh
  subst rh
  refine wpAny_call ?_
  k_dflt (refine' enterG (binds := [(Str.ofString "spool", .ref sp)]) on X T ?k6 ?k7 ?k8 ?k9 ?kB ?_ ?c2 ?c3 ?c4 ?c5; (((case k6 => k_is); (case k7 => k_is); (case k8 => ((try dsimp only); omega)); (case k9 => exact BindsTo.of_eq rfl); (case c5 => decide); (case kB => exact locs rfl); (case c2 => exact rfl); (case c3 => exact rfl); (case c4 => exact rfl))))
  intro L h1 F N hL0 hk0
  rw [lk1] at F
  dsimp only
  k_fold
  (repeat' (first | (k_unfold; (try dsimp only)) | ((((with_reducible show wpAny _ _ _ _ _ _); (fail_if_success (with_reducible show wpAny _ _ (exec (Stmt.While _ _ _ _) _) _ _ _)); (fail_if_success (with_reducible show wpAny _ _ (exec (Stmt.Raise _ _ _) _) _ _ _)); (fail_if_success (with_reducible show wpAny _ _ (exec (Stmt.Try _ _ _ _ _) _) _ _ _)); (fail_if_success (with_reducible show wpAny _ _ (exec (Stmt.For _ _ _ _ _) _) _ _ _)); (fail_if_success (with_reducible show wpAny _ _ (call (Value.ref _) _) _ _ _)); (fail_if_success (with_reducible show wpAny _ _ (call (Value.builtin "dict.pop") _) _ _ _)); (fail_if_success (with_reducible show wpAny _ _ (eval (Expr.ListComp _ _ _ _) _) _ _ _)); (fail_if_success (with_reducible show wpAny _ _ (exec (Stmt.Assign _ (Expr.ListComp _ _ _ _) _) _) _ _ _)); (fail_if_success (with_reducible show wpAny _ _ (call (Value.builtin "sorted") _) _ _ _)); (fail_if_success (with_reducible show wpAny _ _ (call (Value.type "list") [Value.ref _]) _ _ _)); (fail_if_success (with_reducible show wpAny _ _ (call (Value.type "dict") [Value.ref _]) _ _ _)); (try dsimp only); walk1))) | (first | ((with_reducible show ite _ _ _); walk1) | ((with_reducible show _ ∧ _); walk1) | (leave1; (try dsimp only)) | (dsimp only [InvPostN]) | fail "no step")))
  · rename Fr _ _ _ _ => F9
    rename News _ _ _ _ => N9
    have hb : (n : Int) + 1 ≤ ns.length := by assumption
    refine h _ _ _ _ _ (On.of F9 N9) ⟨_, _, rfl⟩ (hpos _ (kso_getD ?_))
    omega
  · rename Fr _ _ _ _ => F9
    rename News _ _ _ _ => N9
    refine h _ _ _ _ _ (On.of F9 N9) ⟨_, _, rfl⟩ ?_
    have : 0 ≤ ((n : Int) + 1).fdiv 5 := Int.fdiv_nonneg (by omega) (by omega)
    omega

theorem take_led {prog : Program} {w : World} {mean : ExcName → Option Value} {mg mb : Str → Option Value} {A : Around} {s : Shared} {Q E : Value → Shared → Prop} {h₀ : Heap} {L : Addr} {m : Str → Option Value} {news : List (Addr × Obj)} {gf : Obj → List (Addr × Obj)} {sp l : Addr} {o : Obj} {n : Nat} {vs : List Value} {ns : List Int}
    (c : Cx w mean mg mb h₀) (F : Fr h₀ L s.heap m) (N : News h₀ L s.heap news) (U : UpdF sp o news gf) (r : Rm A 2) (io : IsSpool o n l) (hl : s.heap.IsList l vs.toArray) (hne : l ≠ sp) (sl : Spl vs ns) (hn : n ≤ 1000)
    (h : ∀ h' tk v t o', Fr h₀ L h' m → News h₀ L h' (gf o') → IsSpool o' (n + 1) l → 0 ≤ v → Q (.int v t) { s with heap := h', toks := tk }) :
    wpAny (model prog w) A (call (.ref 144) [.ref sp]) Q E s := by
  have hm := updF_mem U
  refine take_spec (c.over F N (as := [sp]) fun a ha => ⟨o, by rw [List.mem_singleton.mp ha]; exact hm⟩) r (On.hole1 N hm) io (holes_list hl (by simpa using hne)) sl hn fun h' tk v t o' on io' hv => ?_
  obtain ⟨F', N'⟩ := On.back1 F N U on
  exact h h' tk v t o' F' N' io' hv

theorem ne_tt {x y : Str} (h1 : (x != y) = true) (h2 : (x == y) = true) : False := by rw [bne, h2] at h1; cases h1
theorem ne_ff {x y : Str} (h1 : (x != y) = false) (h2 : (x == y) = false) : False := by rw [bne, h2] at h1; cases h1
theorem ne_of' {x y : Str} (h : (x != y) = true ∨ (x == y) = false) : ¬ x = y := fun e => by
  subst e
  rcases h with h | h
  · rw [bne, beq_self_eq_true] at h; cases h
  · rw [beq_self_eq_true] at h; cases h
theorem eq_of' {x y : Str} (h : (x != y) = false ∨ (x == y) = true) : x = y := by
  rcases h with h | h
  · by_cases e : x = y
    · exact e
    · rw [bne, beq_eq_false_iff_ne.mpr e] at h; cases h
  · exact eq_of_beq h
structure LtJ (prog : Program) (w : World) (R D sp l : Addr) (n : Nat) (i : Nat) (m : Str → Option Value) (nx : List (Addr × Obj)) : Prop where
  is : ∃ (ps : List (Int × Str)) (oD os : Obj) (c n' : Nat) (kvs : List (Int × Value)) (ys : List Value), m (Str.ofString "rows") = some (.ref R) ∧ m (Str.ofString "found") = some (.ref D) ∧ m (Str.ofString "spool") = some (.ref sp) ∧
    nx = [(D, oD), (R, W.listOf ys.toArray c), (sp, os)] ∧ IsSpool os n' l ∧ n' ≤ n + 1 + 2 * i ∧ ps.length = i ∧ (∀ p ∈ ps, LineNo p.1 ∧ p.2 ∈ texts5) ∧ StrsAre ys (ps.map rowStr) ∧ oD.IsDictOf (intKind prog w) kvs ∧ AllStr kvs ∧ proj kvs = ps.foldl stepP [] ∧ kvs.length ≤ i

structure LtEnd (prog : Program) (w : World) (g : Heap) (L R D sp l : Addr) (n : Nat) (s s' : Shared) : Prop where
  is : ∃ h' tk m nx i, s' = { s with heap := h', toks := tk } ∧ i ≤ 5 ∧ LtJ prog w R D sp l n i m nx ∧ Fr g L h' m ∧ News g L h' nx

theorem ltext_spec {prog : Program} {w : World} {mean : ExcName → Option Value} {mg mb : Str → Option Value} {A : Around} {s : Shared} {Q E : Value → Shared → Prop} {g : Heap} {sp l : Addr} {o : Obj} {n : Nat} {vs : List Value} {ns : List Int}
    (c : Cx w mean mg mb g) (r : Rm A 4) (on : On g [(sp, o)] s.heap) (io : IsSpool o n l) (hl : g.IsList l vs.toArray) (sl : Spl vs ns) (hn : n ≤ 200)
    (h : ∀ h' tk a d ot od tx tt o' n' P, On g [(a, ot), (d, od), (sp, o')] h' → a ≠ sp → d ≠ sp → IsSpool o' n' l → n' ≤ n + 12 → ot = { cls := .type "tuple", data := .seq #[.str tx tt, .ref d] } → ProgAt prog w h' d P → LText tx P →
      Q (.ref a) { s with heap := h', toks := tk }) :
    wpAny (model prog w) A (call (.ref 151) [.ref sp]) Q E s := by
  have c0 := c
  obtain ⟨X, T⟩ := c
  have rm := r
  obtain ⟨rd, ru, rh⟩ := r
  obtain ⟨ah, ad, af, ag, au⟩ := A
  dsimp only at rd ru rh
  subst rh
  refine wpAny_call ?_
  k_dflt (refine' enterG (binds := [(Str.ofString "spool", .ref sp)]) on X T ?k6 ?k7 ?k8 ?k9 ?kB ?_ ?c2 ?c3 ?c4 ?c5; (((case k6 => k_is); (case k7 => k_is); (case k8 => ((try dsimp only); omega)); (case k9 => exact BindsTo.of_eq rfl); (case c5 => decide); (case kB => exact locs rfl); (case c2 => exact rfl); (case c3 => exact rfl); (case c4 => exact rfl))))
  intro L h1 F N hL0 hk0
  rw [lk1] at F
  dsimp only
  k_fold
  (repeat' (first | (k_unfold; (try dsimp only)) | ((fail_if_success (with_reducible show wpAny _ _ (setItem _ _ _) _ _ _)); (((with_reducible show wpAny _ _ _ _ _ _); (fail_if_success (with_reducible show wpAny _ _ (exec (Stmt.While _ _ _ _) _) _ _ _)); (fail_if_success (with_reducible show wpAny _ _ (exec (Stmt.Raise _ _ _) _) _ _ _)); (fail_if_success (with_reducible show wpAny _ _ (exec (Stmt.Try _ _ _ _ _) _) _ _ _)); (fail_if_success (with_reducible show wpAny _ _ (exec (Stmt.For _ _ _ _ _) _) _ _ _)); (fail_if_success (with_reducible show wpAny _ _ (call (Value.ref _) _) _ _ _)); (fail_if_success (with_reducible show wpAny _ _ (call (Value.builtin "dict.pop") _) _ _ _)); (fail_if_success (with_reducible show wpAny _ _ (eval (Expr.ListComp _ _ _ _) _) _ _ _)); (fail_if_success (with_reducible show wpAny _ _ (exec (Stmt.Assign _ (Expr.ListComp _ _ _ _) _) _) _ _ _)); (fail_if_success (with_reducible show wpAny _ _ (call (Value.builtin "sorted") _) _ _ _)); (fail_if_success (with_reducible show wpAny _ _ (call (Value.type "list") [Value.ref _]) _ _ _)); (fail_if_success (with_reducible show wpAny _ _ (call (Value.type "dict") [Value.ref _]) _ _ _)); (try dsimp only); walk1))) | (first | ((with_reducible show ite _ _ _); walk1) | ((with_reducible show _ ∧ _); walk1) | (leave1; (try dsimp only)) | (dsimp only [InvPostN]) | fail "no step")))
  rename_i tk0 R h2 l1 D hD2 oD lo hs' fs' hiD fi' l2 D' h3 l3 h4 h5 h6 F6 N6
  clear hs' fs'
  have hspl : l ≠ sp := by
    rintro rfl
    obtain ⟨ol, e, _⟩ := hl
    rw [(on.led _ (.head _)).2] at e; cases e
  refine For_range (h₀ := g) (LtEnd prog w g L R D sp l n s) rfl rfl rfl ?_ ?_
  · (repeat' (first | (k_unfold; (try dsimp only)) | ((fail_if_success (with_reducible show wpAny _ _ (setItem _ _ _) _ _ _)); (((with_reducible show wpAny _ _ _ _ _ _); (fail_if_success (with_reducible show wpAny _ _ (exec (Stmt.While _ _ _ _) _) _ _ _)); (fail_if_success (with_reducible show wpAny _ _ (exec (Stmt.Raise _ _ _) _) _ _ _)); (fail_if_success (with_reducible show wpAny _ _ (exec (Stmt.Try _ _ _ _ _) _) _ _ _)); (fail_if_success (with_reducible show wpAny _ _ (exec (Stmt.For _ _ _ _ _) _) _ _ _)); (fail_if_success (with_reducible show wpAny _ _ (call (Value.ref _) _) _ _ _)); (fail_if_success (with_reducible show wpAny _ _ (call (Value.builtin "dict.pop") _) _ _ _)); (fail_if_success (with_reducible show wpAny _ _ (eval (Expr.ListComp _ _ _ _) _) _ _ _)); (fail_if_success (with_reducible show wpAny _ _ (exec (Stmt.Assign _ (Expr.ListComp _ _ _ _) _) _) _ _ _)); (fail_if_success (with_reducible show wpAny _ _ (call (Value.builtin "sorted") _) _ _ _)); (fail_if_success (with_reducible show wpAny _ _ (call (Value.type "list") [Value.ref _]) _ _ _)); (fail_if_success (with_reducible show wpAny _ _ (call (Value.type "dict") [Value.ref _]) _ _ _)); (try dsimp only); walk1))) | (first | ((with_reducible show ite _ _ _); walk1) | ((with_reducible show _ ∧ _); walk1) | (leave1; (try dsimp only)) | (dsimp only [InvPostN]) | fail "no step")))
    refine take_led c0 F6 (news_sub (l' := [(D, oD), (R, W.listOf #[] 0), (sp, o)]) N6 fun p hp => .tail _ hp) (.tail (Nat.ne_of_gt l2.2) (.tail (Nat.ne_of_gt l1) (.head fun _ h => nomatch h))) (rm.deep (by decide)) io (list_keep hl F6.keep) hspl sl (by omega) ?_
    intro h7 tk7 v tv o7 F7 N7 io7 hv
    (try dsimp only at N7)
    (try dsimp only)
    (repeat' (first | (k_unfold; (try dsimp only)) | ((fail_if_success (with_reducible show wpAny _ _ (setItem _ _ _) _ _ _)); (((with_reducible show wpAny _ _ _ _ _ _); (fail_if_success (with_reducible show wpAny _ _ (exec (Stmt.While _ _ _ _) _) _ _ _)); (fail_if_success (with_reducible show wpAny _ _ (exec (Stmt.Raise _ _ _) _) _ _ _)); (fail_if_success (with_reducible show wpAny _ _ (exec (Stmt.Try _ _ _ _ _) _) _ _ _)); (fail_if_success (with_reducible show wpAny _ _ (exec (Stmt.For _ _ _ _ _) _) _ _ _)); (fail_if_success (with_reducible show wpAny _ _ (call (Value.ref _) _) _ _ _)); (fail_if_success (with_reducible show wpAny _ _ (call (Value.builtin "dict.pop") _) _ _ _)); (fail_if_success (with_reducible show wpAny _ _ (eval (Expr.ListComp _ _ _ _) _) _ _ _)); (fail_if_success (with_reducible show wpAny _ _ (exec (Stmt.Assign _ (Expr.ListComp _ _ _ _) _) _) _ _ _)); (fail_if_success (with_reducible show wpAny _ _ (call (Value.builtin "sorted") _) _ _ _)); (fail_if_success (with_reducible show wpAny _ _ (call (Value.type "list") [Value.ref _]) _ _ _)); (fail_if_success (with_reducible show wpAny _ _ (call (Value.type "dict") [Value.ref _]) _ _ _)); (try dsimp only); walk1))) | (first | ((with_reducible show ite _ _ _); walk1) | ((with_reducible show _ ∧ _); walk1) | (leave1; (try dsimp only)) | (dsimp only [InvPostN]) | fail "no step")))
    rename IsRange _ _ _ _ _ _ _ _ => hrg
    rename Fr _ _ _ _ => F8
    rename News _ _ _ _ => N8
    have e6 : ((v.fmod 6).toNat : Int) = v.fmod 6 := by have := Int.fmod_nonneg_of_pos v (b := 6) (by omega); omega
    have b6 : v.fmod 6 < 6 := Int.fmod_lt_of_pos v (by omega)
    rw [← e6] at hrg
    refine ⟨_, (v.fmod 6).toNat, _, _, _, _, _, LtJ prog w R D sp l n, rfl, hrg, by omega, F8, N8, ⟨[], oD, o7, 0, n + 1, [], [], rfl, rfl, rfl, rfl, io7, Nat.le_refl _, rfl, (fun _ h => nomatch h), .nil, hiD, AllStr.nil, rfl, Nat.le_refl _⟩, ?_, ?_⟩
    · rintro i ti m₁ news₁ h9 tk9 own hi9 ha hoff ⟨ps, oD1, os1, c1, n1, kvs, ys, hm1, hm2, hm3, rfl, io1, hn1, hps, hall, hys, hdk, hak, hpk, hlk⟩ F9 N9
      dsimp only
      k_fold
      have em := own3 hm1 hm2 hm3
      rw [em] at F9
      dsimp only [List.cons_append, List.nil_append] at N9

      (repeat' (first | (k_unfold; (try dsimp only)) | ((fail_if_success (with_reducible show wpAny _ _ (setItem _ _ _) _ _ _)); (((with_reducible show wpAny _ _ _ _ _ _); (fail_if_success (with_reducible show wpAny _ _ (exec (Stmt.While _ _ _ _) _) _ _ _)); (fail_if_success (with_reducible show wpAny _ _ (exec (Stmt.Raise _ _ _) _) _ _ _)); (fail_if_success (with_reducible show wpAny _ _ (exec (Stmt.Try _ _ _ _ _) _) _ _ _)); (fail_if_success (with_reducible show wpAny _ _ (exec (Stmt.For _ _ _ _ _) _) _ _ _)); (fail_if_success (with_reducible show wpAny _ _ (call (Value.ref _) _) _ _ _)); (fail_if_success (with_reducible show wpAny _ _ (call (Value.builtin "dict.pop") _) _ _ _)); (fail_if_success (with_reducible show wpAny _ _ (eval (Expr.ListComp _ _ _ _) _) _ _ _)); (fail_if_success (with_reducible show wpAny _ _ (exec (Stmt.Assign _ (Expr.ListComp _ _ _ _) _) _) _ _ _)); (fail_if_success (with_reducible show wpAny _ _ (call (Value.builtin "sorted") _) _ _ _)); (fail_if_success (with_reducible show wpAny _ _ (call (Value.type "list") [Value.ref _]) _ _ _)); (fail_if_success (with_reducible show wpAny _ _ (call (Value.type "dict") [Value.ref _]) _ _ _)); (try dsimp only); walk1))) | (first | ((with_reducible show ite _ _ _); walk1) | ((with_reducible show _ ∧ _); walk1) | (leave1; (try dsimp only)) | (dsimp only [InvPostN]) | fail "no step")))
      have hown1 : ∀ p ∈ own, p.1 ≠ D := hoff.ne (by simp)
      have hown2 : ∀ p ∈ own, p.1 ≠ R := hoff.ne (by simp)
      have hown3 : ∀ p ∈ own, p.1 ≠ sp := hoff.ne (by simp)
      refine take_led c0 F9 N9 (by k_updF) (rm.deep (by decide)) io1 (list_keep hl F9.keep) hspl sl (by omega) ?_
      intro h10 tk10 v10 tv10 o10 F10 N10 io10 hv10
      (try dsimp only at N10)
      (try dsimp only)
      (repeat' (first | (k_unfold; (try dsimp only)) | ((fail_if_success (with_reducible show wpAny _ _ (setItem _ _ _) _ _ _)); (((with_reducible show wpAny _ _ _ _ _ _); (fail_if_success (with_reducible show wpAny _ _ (exec (Stmt.While _ _ _ _) _) _ _ _)); (fail_if_success (with_reducible show wpAny _ _ (exec (Stmt.Raise _ _ _) _) _ _ _)); (fail_if_success (with_reducible show wpAny _ _ (exec (Stmt.Try _ _ _ _ _) _) _ _ _)); (fail_if_success (with_reducible show wpAny _ _ (exec (Stmt.For _ _ _ _ _) _) _ _ _)); (fail_if_success (with_reducible show wpAny _ _ (call (Value.ref _) _) _ _ _)); (fail_if_success (with_reducible show wpAny _ _ (call (Value.builtin "dict.pop") _) _ _ _)); (fail_if_success (with_reducible show wpAny _ _ (eval (Expr.ListComp _ _ _ _) _) _ _ _)); (fail_if_success (with_reducible show wpAny _ _ (exec (Stmt.Assign _ (Expr.ListComp _ _ _ _) _) _) _ _ _)); (fail_if_success (with_reducible show wpAny _ _ (call (Value.builtin "sorted") _) _ _ _)); (fail_if_success (with_reducible show wpAny _ _ (call (Value.type "list") [Value.ref _]) _ _ _)); (fail_if_success (with_reducible show wpAny _ _ (call (Value.type "dict") [Value.ref _]) _ _ _)); (try dsimp only); walk1))) | (first | ((with_reducible show ite _ _ _); walk1) | ((with_reducible show _ ∧ _); walk1) | (leave1; (try dsimp only)) | (dsimp only [InvPostN]) | fail "no step")))
      rename Fr _ _ _ _ => F11
      rename News _ _ _ _ => N11
      refine take_led c0 F11 N11 (by k_updF) (rm.deep (by decide)) io10 (list_keep hl F11.keep) hspl sl (by omega) ?_
      intro h12 tk12 v12 tv12 o12 F12 N12 io12 hv12
      (try dsimp only at N12)
      (try dsimp only)
      (repeat' (first | (k_unfold; (try dsimp only)) | ((fail_if_success (with_reducible show wpAny _ _ (setItem _ _ _) _ _ _)); (((with_reducible show wpAny _ _ _ _ _ _); (fail_if_success (with_reducible show wpAny _ _ (exec (Stmt.While _ _ _ _) _) _ _ _)); (fail_if_success (with_reducible show wpAny _ _ (exec (Stmt.Raise _ _ _) _) _ _ _)); (fail_if_success (with_reducible show wpAny _ _ (exec (Stmt.Try _ _ _ _ _) _) _ _ _)); (fail_if_success (with_reducible show wpAny _ _ (exec (Stmt.For _ _ _ _ _) _) _ _ _)); (fail_if_success (with_reducible show wpAny _ _ (call (Value.ref _) _) _ _ _)); (fail_if_success (with_reducible show wpAny _ _ (call (Value.builtin "dict.pop") _) _ _ _)); (fail_if_success (with_reducible show wpAny _ _ (eval (Expr.ListComp _ _ _ _) _) _ _ _)); (fail_if_success (with_reducible show wpAny _ _ (exec (Stmt.Assign _ (Expr.ListComp _ _ _ _) _) _) _ _ _)); (fail_if_success (with_reducible show wpAny _ _ (call (Value.builtin "sorted") _) _ _ _)); (fail_if_success (with_reducible show wpAny _ _ (call (Value.type "list") [Value.ref _]) _ _ _)); (fail_if_success (with_reducible show wpAny _ _ (call (Value.type "dict") [Value.ref _]) _ _ _)); (try dsimp only); walk1))) | (first | ((with_reducible show ite _ _ _); walk1) | ((with_reducible show _ ∧ _); walk1) | (leave1; (try dsimp only)) | (dsimp only [InvPostN]) | fail "no step")))
      have h5 := Int.fmod_nonneg_of_pos v12 (b := 5) (by omega)
      have h5' := Int.fmod_lt_of_pos v12 (b := 5) (by omega)
      obtain ⟨x, tx, hx, hx5⟩ := texts5_pick (v := v12) (fun i => match i with | 0 => tk | 1 => tk + 1 | 2 => tk + 1 + 1 | 3 => tk + 1 + 1 + 1 | _ => tk + 1 + 1 + 1 + 1)
      have hxl := texts5_len x hx5
      refine list_item ⟨_, (N12 _ (.head _)).1, rfl, _, rfl⟩ h5 (by omega) hx ?_
      have hk := LineNo.of (v := v10)
      generalize 10 * (1 + v10.fmod 4) = k at F12 hk
      have hk0 : 10 ≤ k ∧ k ≤ 40 := by unfold LineNo at hk; omega
      have hkd : 0 ≤ k.fdiv 20 ∧ k.fdiv 20 ≤ 2 := LineNo.all (P := fun k => 0 ≤ k.fdiv 20 ∧ k.fdiv 20 ≤ 2) (by decide) (by decide) (by decide) (by decide) hk
      have hks : (Str.ofString (toString k)).length ≤ 100 := LineNo.all (P := fun k => (Str.ofString (toString k)).length ≤ 100) (by decide +kernel) (by decide +kernel) (by decide +kernel) (by decide +kernel) hk
      have hz : kvs.length ≤ sizeLine := by rw [sizeLine_eq]; omega
      have hall2 : ∀ p ∈ ps ++ [(k, x)], LineNo p.1 ∧ p.2 ∈ texts5 := fun p hp => by
        rcases List.mem_append.mp hp with hp | hp
        · exact hall p hp
        · rw [List.mem_singleton.mp hp]; exact ⟨hk, hx5⟩
      (try dsimp only)
      (repeat' (first | (k_unfold; (try dsimp only)) | ((fail_if_success (with_reducible show wpAny _ _ (setItem _ _ _) _ _ _)); (((with_reducible show wpAny _ _ _ _ _ _); (fail_if_success (with_reducible show wpAny _ _ (exec (Stmt.While _ _ _ _) _) _ _ _)); (fail_if_success (with_reducible show wpAny _ _ (exec (Stmt.Raise _ _ _) _) _ _ _)); (fail_if_success (with_reducible show wpAny _ _ (exec (Stmt.Try _ _ _ _ _) _) _ _ _)); (fail_if_success (with_reducible show wpAny _ _ (exec (Stmt.For _ _ _ _ _) _) _ _ _)); (fail_if_success (with_reducible show wpAny _ _ (call (Value.ref _) _) _ _ _)); (fail_if_success (with_reducible show wpAny _ _ (call (Value.builtin "dict.pop") _) _ _ _)); (fail_if_success (with_reducible show wpAny _ _ (eval (Expr.ListComp _ _ _ _) _) _ _ _)); (fail_if_success (with_reducible show wpAny _ _ (exec (Stmt.Assign _ (Expr.ListComp _ _ _ _) _) _) _ _ _)); (fail_if_success (with_reducible show wpAny _ _ (call (Value.builtin "sorted") _) _ _ _)); (fail_if_success (with_reducible show wpAny _ _ (call (Value.type "list") [Value.ref _]) _ _ _)); (fail_if_success (with_reducible show wpAny _ _ (call (Value.type "dict") [Value.ref _]) _ _ _)); (try dsimp only); walk1))) | (first | ((with_reducible show ite _ _ _); walk1) | ((with_reducible show _ ∧ _); walk1) | (leave1; (try dsimp only)) | (dsimp only [InvPostN]) | fail "no step")))
      all_goals first
        | exact (ne_tt (x := x) (y := Str.ofString "") (by assumption) (by assumption)).elim
        | exact (ne_ff (x := x) (y := Str.ofString "") (by assumption) (by assumption)).elim
        | (have hx0 : ¬ x = Str.ofString "" := ne_of' (by first | exact .inl (by assumption) | exact .inr (by assumption))
           rename Fr _ _ _ _ => F13
           rename News _ _ _ _ => N13'
           rw [List.push_toArray] at N13'
           obtain ⟨tn, N13⟩ : ∃ tn, News g L _ ((D, oD1) :: (R, W.listOf (ys ++ [Value.str (Txt.mul (Str.ofString " ") (k.fdiv 20) ++ Str.ofString (toString k) ++ Str.ofString " " ++ x) tn]).toArray (c1 + 1)) :: (sp, o12) :: own) := ⟨_, news_sub N13' fun p hp => .tail _ hp⟩
           refine kda_set (knd := intKind prog w) F13 N13 (by k_updF) hdk (intKind_is _ _ _ _) hz ?_
           intro h14 o14 F14 N14 hd14
           (try dsimp only at N14)
           (try dsimp only)
           (repeat' (first | (k_unfold; (try dsimp only)) | ((fail_if_success (with_reducible show wpAny _ _ (setItem _ _ _) _ _ _)); (((with_reducible show wpAny _ _ _ _ _ _); (fail_if_success (with_reducible show wpAny _ _ (exec (Stmt.While _ _ _ _) _) _ _ _)); (fail_if_success (with_reducible show wpAny _ _ (exec (Stmt.Raise _ _ _) _) _ _ _)); (fail_if_success (with_reducible show wpAny _ _ (exec (Stmt.Try _ _ _ _ _) _) _ _ _)); (fail_if_success (with_reducible show wpAny _ _ (exec (Stmt.For _ _ _ _ _) _) _ _ _)); (fail_if_success (with_reducible show wpAny _ _ (call (Value.ref _) _) _ _ _)); (fail_if_success (with_reducible show wpAny _ _ (call (Value.builtin "dict.pop") _) _ _ _)); (fail_if_success (with_reducible show wpAny _ _ (eval (Expr.ListComp _ _ _ _) _) _ _ _)); (fail_if_success (with_reducible show wpAny _ _ (exec (Stmt.Assign _ (Expr.ListComp _ _ _ _) _) _) _ _ _)); (fail_if_success (with_reducible show wpAny _ _ (call (Value.builtin "sorted") _) _ _ _)); (fail_if_success (with_reducible show wpAny _ _ (call (Value.type "list") [Value.ref _]) _ _ _)); (fail_if_success (with_reducible show wpAny _ _ (call (Value.type "dict") [Value.ref _]) _ _ _)); (try dsimp only); walk1))) | (first | ((with_reducible show ite _ _ _); walk1) | ((with_reducible show _ ∧ _); walk1) | (leave1; (try dsimp only)) | (dsimp only [InvPostN]) | fail "no step")))
           refine InvEndN.intro F14 N14 ⟨ps ++ [(k, x)], o14, o12, c1 + 1, n1 + 1 + 1, _, ys ++ [Value.str (Txt.mul (Str.ofString " ") (k.fdiv 20) ++ Str.ofString (toString k) ++ Str.ofString " " ++ x) tn], rfl, rfl, rfl, rfl, io12, by omega, by simp [hps], hall2, ?_, hd14, hak.stored, ?_, ?_⟩ rfl (fun p hp => ?_) (fun p hp => ?_)
           · rw [List.map_append, List.map_singleton]
             have e : rowStr (k, x) = Txt.mul (Str.ofString " ") (k.fdiv 20) ++ Str.ofString (toString k) ++ Str.ofString " " ++ x := by unfold rowStr; rw [if_neg hx0]
             rw [e]
             exact strs_snoc hys
           · rw [proj_stored, hpk, List.foldl_append]
             show _ = stepP _ (k, x)
             unfold stepP
             rw [if_neg hx0]
           · exact Nat.le_trans (stored_length_le _ _ _) (Nat.succ_le_succ hlk)
           · revert p hp; (((repeat' (first | exact all_nil | refine all_cons ?_ ?_)) <;> first | k_mem | (exact fun p hp => by repeat (first | exact hp | exact List.mem_append_left _ hp | apply List.Mem.tail))))
           · simp only [List.mem_cons] at hp ⊢
             simp [hp])
        | (have hx0 : x = Str.ofString "" := eq_of' (by first | exact .inl (by assumption) | exact .inr (by assumption))
           rename Fr _ _ _ _ => F13
           rename News _ _ _ _ => N13'
           rw [List.push_toArray] at N13'
           obtain ⟨tn, N13⟩ : ∃ tn, News g L _ ((D, oD1) :: (R, W.listOf (ys ++ [Value.str (Txt.mul (Str.ofString " ") (k.fdiv 20) ++ Str.ofString (toString k) ++ Str.ofString "" ++ x) tn]).toArray (c1 + 1)) :: (sp, o12) :: own) := ⟨_, news_sub N13' fun p hp => .tail _ hp⟩
           refine pop_pairs (knd := intKind prog w) (intKind_is _ _ _ _) rfl (PySem.F.args_dict_pop_3 _ _ _) lo F13 N13 (by k_updF) hdk ?_ hz
           intro h14 o14 v14 F14 N14 hd14
           (try dsimp only at N14)
           (try dsimp only)
           (repeat' (first | (k_unfold; (try dsimp only)) | ((fail_if_success (with_reducible show wpAny _ _ (setItem _ _ _) _ _ _)); (((with_reducible show wpAny _ _ _ _ _ _); (fail_if_success (with_reducible show wpAny _ _ (exec (Stmt.While _ _ _ _) _) _ _ _)); (fail_if_success (with_reducible show wpAny _ _ (exec (Stmt.Raise _ _ _) _) _ _ _)); (fail_if_success (with_reducible show wpAny _ _ (exec (Stmt.Try _ _ _ _ _) _) _ _ _)); (fail_if_success (with_reducible show wpAny _ _ (exec (Stmt.For _ _ _ _ _) _) _ _ _)); (fail_if_success (with_reducible show wpAny _ _ (call (Value.ref _) _) _ _ _)); (fail_if_success (with_reducible show wpAny _ _ (call (Value.builtin "dict.pop") _) _ _ _)); (fail_if_success (with_reducible show wpAny _ _ (eval (Expr.ListComp _ _ _ _) _) _ _ _)); (fail_if_success (with_reducible show wpAny _ _ (exec (Stmt.Assign _ (Expr.ListComp _ _ _ _) _) _) _ _ _)); (fail_if_success (with_reducible show wpAny _ _ (call (Value.builtin "sorted") _) _ _ _)); (fail_if_success (with_reducible show wpAny _ _ (call (Value.type "list") [Value.ref _]) _ _ _)); (fail_if_success (with_reducible show wpAny _ _ (call (Value.type "dict") [Value.ref _]) _ _ _)); (try dsimp only); walk1))) | (first | ((with_reducible show ite _ _ _); walk1) | ((with_reducible show _ ∧ _); walk1) | (leave1; (try dsimp only)) | (dsimp only [InvPostN]) | fail "no step")))
           refine InvEndN.intro F14 N14 ⟨ps ++ [(k, x)], o14, o12, c1 + 1, n1 + 1 + 1, _, ys ++ [Value.str (Txt.mul (Str.ofString " ") (k.fdiv 20) ++ Str.ofString (toString k) ++ Str.ofString "" ++ x) tn], rfl, rfl, rfl, rfl, io12, by omega, by simp [hps], hall2, ?_, hd14, hak.without, ?_, ?_⟩ rfl (fun p hp => ?_) (fun p hp => ?_)
           · rw [List.map_append, List.map_singleton]
             have e : rowStr (k, x) = Txt.mul (Str.ofString " ") (k.fdiv 20) ++ Str.ofString (toString k) ++ Str.ofString "" ++ x := by unfold rowStr; rw [if_pos hx0]
             rw [e]
             exact strs_snoc hys
           · rw [proj_without, hpk, List.foldl_append]
             show _ = stepP _ (k, x)
             unfold stepP
             rw [if_pos hx0]
           · exact Nat.le_succ_of_le (Nat.le_trans (List.length_filter_le _ _) hlk)
           · revert p hp; (((repeat' (first | exact all_nil | refine all_cons ?_ ?_)) <;> first | k_mem | (exact fun p hp => by repeat (first | exact hp | exact List.mem_append_left _ hp | apply List.Mem.tail))))
           · simp only [List.mem_cons] at hp ⊢
             simp [hp])
    · rintro m₁ news₁ h9 tk9 j F9 N9
      exact ⟨h9, tk9, m₁, news₁, _, rfl, by omega, j, F9, N9⟩
  · rintro s' ⟨h9, tk9, m₁, nx, i, rfl, hi5, ⟨ps, oD1, os1, c1, n1, kvs, ys, hm1, hm2, hm3, rfl, io1, hn1, hps, hall, hys, hdk, hak, hpk, hlk⟩, F9, N9⟩
    have em := own3 hm1 hm2 hm3
    rw [em] at F9
    have hlen : (Txt.join (Str.ofString "\n") (ps.map rowStr)).length ≤ 1000 := by
      have h1 := join_len (sep := Str.ofString "\n") (B := 100) (texts := ps.map rowStr) (fun y hy => by
        obtain ⟨p, hp, rfl⟩ := List.mem_map.mp hy
        exact rowStr_len (hall p hp).1 (hall p hp).2)
      have h2 : (Str.ofString "\n").length = 1 := by decide +kernel
      rw [List.length_map, h2] at h1
      omega
    dsimp only
    (repeat' (first | (k_unfold; (try dsimp only)) | ((fail_if_success (with_reducible show wpAny _ _ (setItem _ _ _) _ _ _)); (((with_reducible show wpAny _ _ _ _ _ _); (fail_if_success (with_reducible show wpAny _ _ (exec (Stmt.While _ _ _ _) _) _ _ _)); (fail_if_success (with_reducible show wpAny _ _ (exec (Stmt.Raise _ _ _) _) _ _ _)); (fail_if_success (with_reducible show wpAny _ _ (exec (Stmt.Try _ _ _ _ _) _) _ _ _)); (fail_if_success (with_reducible show wpAny _ _ (exec (Stmt.For _ _ _ _ _) _) _ _ _)); (fail_if_success (with_reducible show wpAny _ _ (call (Value.ref _) _) _ _ _)); (fail_if_success (with_reducible show wpAny _ _ (call (Value.builtin "dict.pop") _) _ _ _)); (fail_if_success (with_reducible show wpAny _ _ (eval (Expr.ListComp _ _ _ _) _) _ _ _)); (fail_if_success (with_reducible show wpAny _ _ (exec (Stmt.Assign _ (Expr.ListComp _ _ _ _) _) _) _ _ _)); (fail_if_success (with_reducible show wpAny _ _ (call (Value.builtin "sorted") _) _ _ _)); (fail_if_success (with_reducible show wpAny _ _ (call (Value.type "list") [Value.ref _]) _ _ _)); (fail_if_success (with_reducible show wpAny _ _ (call (Value.type "dict") [Value.ref _]) _ _ _)); (try dsimp only); walk1))) | (first | ((with_reducible show ite _ _ _); walk1) | ((with_reducible show _ ∧ _); walk1) | (leave1; (try dsimp only)) | (dsimp only [InvPostN]) | fail "no step")))
    refine join_strs ⟨_, (N9 _ (.tail _ (.head _))).1, rfl, _, rfl⟩ hys 100 ?_ ?_ ?_
    · intro y hy
      obtain ⟨p, hp, rfl⟩ := List.mem_map.mp hy
      exact rowStr_len (hall p hp).1 (hall p hp).2
    · have h2 : (Str.ofString "\n").length = 1 := by decide +kernel
      rw [List.length_map, h2]
      omega
    intro tj kj
    (try dsimp only)
    (repeat' (first | (k_unfold; (try dsimp only)) | ((fail_if_success (with_reducible show wpAny _ _ (setItem _ _ _) _ _ _)); (((with_reducible show wpAny _ _ _ _ _ _); (fail_if_success (with_reducible show wpAny _ _ (exec (Stmt.While _ _ _ _) _) _ _ _)); (fail_if_success (with_reducible show wpAny _ _ (exec (Stmt.Raise _ _ _) _) _ _ _)); (fail_if_success (with_reducible show wpAny _ _ (exec (Stmt.Try _ _ _ _ _) _) _ _ _)); (fail_if_success (with_reducible show wpAny _ _ (exec (Stmt.For _ _ _ _ _) _) _ _ _)); (fail_if_success (with_reducible show wpAny _ _ (call (Value.ref _) _) _ _ _)); (fail_if_success (with_reducible show wpAny _ _ (call (Value.builtin "dict.pop") _) _ _ _)); (fail_if_success (with_reducible show wpAny _ _ (eval (Expr.ListComp _ _ _ _) _) _ _ _)); (fail_if_success (with_reducible show wpAny _ _ (exec (Stmt.Assign _ (Expr.ListComp _ _ _ _) _) _) _ _ _)); (fail_if_success (with_reducible show wpAny _ _ (call (Value.builtin "sorted") _) _ _ _)); (fail_if_success (with_reducible show wpAny _ _ (call (Value.type "list") [Value.ref _]) _ _ _)); (fail_if_success (with_reducible show wpAny _ _ (call (Value.type "dict") [Value.ref _]) _ _ _)); (try dsimp only); walk1))) | (first | ((with_reducible show ite _ _ _); walk1) | ((with_reducible show _ ∧ _); walk1) | (leave1; (try dsimp only)) | (dsimp only [InvPostN]) | fail "no step")))
    rename Fr _ _ _ _ => F11
    rename News _ _ _ _ => N11
    refine take_led c0 F11 N11 (by k_updF) (rm.deep (by decide)) io1 (list_keep hl F11.keep) hspl sl (by omega) ?_
    intro h12 tk12 v12 tv12 o12 F12 N12 io12 hv12
    (try dsimp only at N12)
    (try dsimp only)
    have hlt12 : sp < h12.objs.size := Heap.lt_size (N12 (sp, o12) (by simp)).1
    (repeat' (first | (k_unfold; (try dsimp only)) | ((fail_if_success (with_reducible show wpAny _ _ (setItem _ _ _) _ _ _)); (((with_reducible show wpAny _ _ _ _ _ _); (fail_if_success (with_reducible show wpAny _ _ (exec (Stmt.While _ _ _ _) _) _ _ _)); (fail_if_success (with_reducible show wpAny _ _ (exec (Stmt.Raise _ _ _) _) _ _ _)); (fail_if_success (with_reducible show wpAny _ _ (exec (Stmt.Try _ _ _ _ _) _) _ _ _)); (fail_if_success (with_reducible show wpAny _ _ (exec (Stmt.For _ _ _ _ _) _) _ _ _)); (fail_if_success (with_reducible show wpAny _ _ (call (Value.ref _) _) _ _ _)); (fail_if_success (with_reducible show wpAny _ _ (call (Value.builtin "dict.pop") _) _ _ _)); (fail_if_success (with_reducible show wpAny _ _ (eval (Expr.ListComp _ _ _ _) _) _ _ _)); (fail_if_success (with_reducible show wpAny _ _ (exec (Stmt.Assign _ (Expr.ListComp _ _ _ _) _) _) _ _ _)); (fail_if_success (with_reducible show wpAny _ _ (call (Value.builtin "sorted") _) _ _ _)); (fail_if_success (with_reducible show wpAny _ _ (call (Value.type "list") [Value.ref _]) _ _ _)); (fail_if_success (with_reducible show wpAny _ _ (call (Value.type "dict") [Value.ref _]) _ _ _)); (try dsimp only); walk1))) | (first | ((with_reducible show ite _ _ _); walk1) | ((with_reducible show _ ∧ _); walk1) | (leave1; (try dsimp only)) | (dsimp only [InvPostN]) | fail "no step")))
    all_goals
      rename Fr _ _ _ _ => F13
      rename News _ _ _ _ => N13
      obtain ⟨tl, tt, e1, e2, N14, htl⟩ : ∃ tl tt e1 e2, News g L _ [(_, ({ cls := .type "tuple", data := .seq #[.str (Txt.join (Str.ofString "\n") (ps.map rowStr) ++ tl) tt, .ref D] } : Obj)), e1, (D, oD1), e2, (sp, o12)] ∧ tl ∈ tails3 := ⟨_, _, _, _, N13, by simp [tails3]⟩
      refine h _ _ _ D _ oD1 _ tt o12 _ (ps.foldl stepP []) (On.sub (On.of F13 N14) fun p hp => ?_) (Nat.ne_of_gt hlt12) (Nat.ne_of_gt l2.2) io12 (by omega) rfl ⟨lo, kvs, Heap.dictOf_iff.mpr ⟨oD1, (N14 (D, oD1) (by simp)).1, hdk⟩, hak, hpk⟩ ⟨ps, tl, htl, by omega, hall, rfl, rfl⟩
      revert p hp; (((repeat' (first | exact all_nil | refine all_cons ?_ ?_)) <;> first | k_mem | (exact fun p hp => by repeat (first | exact hp | exact List.mem_append_left _ hp | apply List.Mem.tail))))

theorem world_spec {prog : Program} {w : World} {mean : ExcName → Option Value} {mg mb : Str → Option Value} {A : Around} {s : Shared} {Q E : Value → Shared → Prop}
    (c : Cx w mean mg mb s.heap) (r : Rm A 6)
    (h : ∀ h' tk x dx es n f dF oF, On s.heap [(x, instObj 133 dx), (dx, W.dictOf es n), (dF, oF)] h' → FieldsAre es f → AllF f → f (Str.ofString "files") = some (.ref dF) → oF.IsDictOf (PySem.strKind prog w) [] → (dF == sysModules) = false → dx < x → x ≠ dF → dx ≠ dF →
      Q (.ref x) { s with heap := h', toks := tk }) :
    wpAny (model prog w) A (call (.ref 133) []) Q E s := by
  obtain ⟨X, T⟩ := c
  obtain ⟨rd, ru, rh⟩ := r
  obtain ⟨ah, ad, af, ag, au⟩ := A
  obtain ⟨hh, gg, dd, tt, os⟩ := s
  dsimp only at rd ru rh X T h
  subst rh
  refine wpAny_call ?_
  refine make_core (C := 133) (init := .ref 130) (makes_of X (by k_is)) (looks_findIn X (by k_is)) (fun self => bind_fn X self (by k_is)) (.inl rfl) ?_
  have on0 : On hh [(hh.objs.size + 1, instObj 133 hh.objs.size), (hh.objs.size, emptyDict)] ((hh.push emptyDict).push (instObj 133 hh.objs.size)) := by
    refine ⟨fun b o e => Heap.get?_push_of_some _ (Heap.get?_push_of_some _ e), by rw [Heap.size_push, Heap.size_push]; omega, fun p hp => ?_⟩
    simp only [List.mem_cons, List.not_mem_nil, or_false] at hp
    rcases hp with rfl | rfl
    · exact ⟨by heap_get, Heap.get?_none_of_le (Nat.le_succ _)⟩
    · exact ⟨by heap_get, Heap.get?_none_of_le (Nat.le_refl _)⟩
  generalize hx : hh.objs.size + 1 = x at on0
  generalize hdx : hh.objs.size = dx at on0
  generalize (hh.push emptyDict).push (instObj 133 dx) = hb at on0
  have hlt : dx < x := by omega
  clear hx hdx
  have X' := X.keeps on0.keep
  have hroom : ad + 1 < recursionLimit := by omega
  k_dflt (refine' enterG (binds := [(Str.ofString "self", .ref x), (Str.ofString "bits", .int 16 351), (Str.ofString "digits", .int 9 352), (Str.ofString "most_steps", .int 2000 353), (Str.ofString "most_depth", .int 20 354), (Str.ofString "room", .int 2000 355)]) on0 X T ?k6 ?k7 ?k8 ?k9 ?kB ?_ ?c2 ?c3 ?c4 ?c5; (((case k6 => k_is); (case k7 => k_is); (case k8 => (simp only [depth_under_make]; omega)); (case k9 => exact binds_K (by assumption) rfl (by k_is) rfl (by with_unfolding_all rfl) (by with_unfolding_all rfl)); (case c5 => decide); (case kB => exact locs rfl); (case c2 => exact rfl); (case c3 => exact rfl); (case c4 => exact rfl))))
  intro L h1 F N hL0 hk0
  dsimp only
  k_fold
  rw [lkAll] at F
  simp only [List.reverse_cons, List.reverse_nil, List.nil_append, List.cons_append, ifs] at F
  have N' : News hh L h1 [(x, instObj 133 dx), (dx, W.dictOf [] 0)] := N
  clear N
  iterate 5 (((repeat' (first | (k_unfold; (try dsimp only)) | ((fail_if_success (with_reducible show wpAny _ _ (setAttr _ _ _) _ _ _)); (((with_reducible show wpAny _ _ _ _ _ _); (fail_if_success (with_reducible show wpAny _ _ (exec (Stmt.While _ _ _ _) _) _ _ _)); (fail_if_success (with_reducible show wpAny _ _ (exec (Stmt.Raise _ _ _) _) _ _ _)); (fail_if_success (with_reducible show wpAny _ _ (exec (Stmt.Try _ _ _ _ _) _) _ _ _)); (fail_if_success (with_reducible show wpAny _ _ (exec (Stmt.For _ _ _ _ _) _) _ _ _)); (fail_if_success (with_reducible show wpAny _ _ (call (Value.ref _) _) _ _ _)); (fail_if_success (with_reducible show wpAny _ _ (call (Value.builtin "dict.pop") _) _ _ _)); (fail_if_success (with_reducible show wpAny _ _ (eval (Expr.ListComp _ _ _ _) _) _ _ _)); (fail_if_success (with_reducible show wpAny _ _ (exec (Stmt.Assign _ (Expr.ListComp _ _ _ _) _) _) _ _ _)); (fail_if_success (with_reducible show wpAny _ _ (call (Value.builtin "sorted") _) _ _ _)); (fail_if_success (with_reducible show wpAny _ _ (call (Value.type "list") [Value.ref _]) _ _ _)); (fail_if_success (with_reducible show wpAny _ _ (call (Value.type "dict") [Value.ref _]) _ _ _)); (try dsimp only); walk1))) | (first | ((with_reducible show ite _ _ _); walk1) | ((with_reducible show _ ∧ _); walk1) | (leave1; (try dsimp only)) | (dsimp only [InvPostN]) | fail "no step"))); walk1; (try dsimp only)))
  iterate 5 (((repeat' (first | (k_unfold; (try dsimp only)) | ((fail_if_success (with_reducible show wpAny _ _ (setAttr _ _ _) _ _ _)); (((with_reducible show wpAny _ _ _ _ _ _); (fail_if_success (with_reducible show wpAny _ _ (exec (Stmt.While _ _ _ _) _) _ _ _)); (fail_if_success (with_reducible show wpAny _ _ (exec (Stmt.Raise _ _ _) _) _ _ _)); (fail_if_success (with_reducible show wpAny _ _ (exec (Stmt.Try _ _ _ _ _) _) _ _ _)); (fail_if_success (with_reducible show wpAny _ _ (exec (Stmt.For _ _ _ _ _) _) _ _ _)); (fail_if_success (with_reducible show wpAny _ _ (call (Value.ref _) _) _ _ _)); (fail_if_success (with_reducible show wpAny _ _ (call (Value.builtin "dict.pop") _) _ _ _)); (fail_if_success (with_reducible show wpAny _ _ (eval (Expr.ListComp _ _ _ _) _) _ _ _)); (fail_if_success (with_reducible show wpAny _ _ (exec (Stmt.Assign _ (Expr.ListComp _ _ _ _) _) _) _ _ _)); (fail_if_success (with_reducible show wpAny _ _ (call (Value.builtin "sorted") _) _ _ _)); (fail_if_success (with_reducible show wpAny _ _ (call (Value.type "list") [Value.ref _]) _ _ _)); (fail_if_success (with_reducible show wpAny _ _ (call (Value.type "dict") [Value.ref _]) _ _ _)); (try dsimp only); walk1))) | (first | ((with_reducible show ite _ _ _); walk1) | ((with_reducible show _ ∧ _); walk1) | (leave1; (try dsimp only)) | (dsimp only [InvPostN]) | fail "no step"))); walk1; (try dsimp only); rename News _ _ _ _ => kN; have kM := news_tail kN; clear kN))
  (((repeat' (first | (k_unfold; (try dsimp only)) | ((fail_if_success (with_reducible show wpAny _ _ (setAttr _ _ _) _ _ _)); (((with_reducible show wpAny _ _ _ _ _ _); (fail_if_success (with_reducible show wpAny _ _ (exec (Stmt.While _ _ _ _) _) _ _ _)); (fail_if_success (with_reducible show wpAny _ _ (exec (Stmt.Raise _ _ _) _) _ _ _)); (fail_if_success (with_reducible show wpAny _ _ (exec (Stmt.Try _ _ _ _ _) _) _ _ _)); (fail_if_success (with_reducible show wpAny _ _ (exec (Stmt.For _ _ _ _ _) _) _ _ _)); (fail_if_success (with_reducible show wpAny _ _ (call (Value.ref _) _) _ _ _)); (fail_if_success (with_reducible show wpAny _ _ (call (Value.builtin "dict.pop") _) _ _ _)); (fail_if_success (with_reducible show wpAny _ _ (eval (Expr.ListComp _ _ _ _) _) _ _ _)); (fail_if_success (with_reducible show wpAny _ _ (exec (Stmt.Assign _ (Expr.ListComp _ _ _ _) _) _) _ _ _)); (fail_if_success (with_reducible show wpAny _ _ (call (Value.builtin "sorted") _) _ _ _)); (fail_if_success (with_reducible show wpAny _ _ (call (Value.type "list") [Value.ref _]) _ _ _)); (fail_if_success (with_reducible show wpAny _ _ (call (Value.type "dict") [Value.ref _]) _ _ _)); (try dsimp only); walk1))) | (first | ((with_reducible show ite _ _ _); walk1) | ((with_reducible show _ ∧ _); walk1) | (leave1; (try dsimp only)) | (dsimp only [InvPostN]) | fail "no step"))); walk1; (try dsimp only)))
  (((repeat' (first | (k_unfold; (try dsimp only)) | ((fail_if_success (with_reducible show wpAny _ _ (setAttr _ _ _) _ _ _)); (((with_reducible show wpAny _ _ _ _ _ _); (fail_if_success (with_reducible show wpAny _ _ (exec (Stmt.While _ _ _ _) _) _ _ _)); (fail_if_success (with_reducible show wpAny _ _ (exec (Stmt.Raise _ _ _) _) _ _ _)); (fail_if_success (with_reducible show wpAny _ _ (exec (Stmt.Try _ _ _ _ _) _) _ _ _)); (fail_if_success (with_reducible show wpAny _ _ (exec (Stmt.For _ _ _ _ _) _) _ _ _)); (fail_if_success (with_reducible show wpAny _ _ (call (Value.ref _) _) _ _ _)); (fail_if_success (with_reducible show wpAny _ _ (call (Value.builtin "dict.pop") _) _ _ _)); (fail_if_success (with_reducible show wpAny _ _ (eval (Expr.ListComp _ _ _ _) _) _ _ _)); (fail_if_success (with_reducible show wpAny _ _ (exec (Stmt.Assign _ (Expr.ListComp _ _ _ _) _) _) _ _ _)); (fail_if_success (with_reducible show wpAny _ _ (call (Value.builtin "sorted") _) _ _ _)); (fail_if_success (with_reducible show wpAny _ _ (call (Value.type "list") [Value.ref _]) _ _ _)); (fail_if_success (with_reducible show wpAny _ _ (call (Value.type "dict") [Value.ref _]) _ _ _)); (try dsimp only); walk1))) | (first | ((with_reducible show ite _ _ _); walk1) | ((with_reducible show _ ∧ _); walk1) | (leave1; (try dsimp only)) | (dsimp only [InvPostN]) | fail "no step"))); walk1; (try dsimp only); rename News _ _ _ _ => kN; have kM := news_tail kN; clear kN))
  (((repeat' (first | (k_unfold; (try dsimp only)) | ((fail_if_success (with_reducible show wpAny _ _ (setAttr _ _ _) _ _ _)); (((with_reducible show wpAny _ _ _ _ _ _); (fail_if_success (with_reducible show wpAny _ _ (exec (Stmt.While _ _ _ _) _) _ _ _)); (fail_if_success (with_reducible show wpAny _ _ (exec (Stmt.Raise _ _ _) _) _ _ _)); (fail_if_success (with_reducible show wpAny _ _ (exec (Stmt.Try _ _ _ _ _) _) _ _ _)); (fail_if_success (with_reducible show wpAny _ _ (exec (Stmt.For _ _ _ _ _) _) _ _ _)); (fail_if_success (with_reducible show wpAny _ _ (call (Value.ref _) _) _ _ _)); (fail_if_success (with_reducible show wpAny _ _ (call (Value.builtin "dict.pop") _) _ _ _)); (fail_if_success (with_reducible show wpAny _ _ (eval (Expr.ListComp _ _ _ _) _) _ _ _)); (fail_if_success (with_reducible show wpAny _ _ (exec (Stmt.Assign _ (Expr.ListComp _ _ _ _) _) _) _ _ _)); (fail_if_success (with_reducible show wpAny _ _ (call (Value.builtin "sorted") _) _ _ _)); (fail_if_success (with_reducible show wpAny _ _ (call (Value.type "list") [Value.ref _]) _ _ _)); (fail_if_success (with_reducible show wpAny _ _ (call (Value.type "dict") [Value.ref _]) _ _ _)); (try dsimp only); walk1))) | (first | ((with_reducible show ite _ _ _); walk1) | ((with_reducible show _ ∧ _); walk1) | (leave1; (try dsimp only)) | (dsimp only [InvPostN]) | fail "no step"))); walk1; (try dsimp only)))
  iterate 3 (((repeat' (first | (k_unfold; (try dsimp only)) | ((fail_if_success (with_reducible show wpAny _ _ (setAttr _ _ _) _ _ _)); (((with_reducible show wpAny _ _ _ _ _ _); (fail_if_success (with_reducible show wpAny _ _ (exec (Stmt.While _ _ _ _) _) _ _ _)); (fail_if_success (with_reducible show wpAny _ _ (exec (Stmt.Raise _ _ _) _) _ _ _)); (fail_if_success (with_reducible show wpAny _ _ (exec (Stmt.Try _ _ _ _ _) _) _ _ _)); (fail_if_success (with_reducible show wpAny _ _ (exec (Stmt.For _ _ _ _ _) _) _ _ _)); (fail_if_success (with_reducible show wpAny _ _ (call (Value.ref _) _) _ _ _)); (fail_if_success (with_reducible show wpAny _ _ (call (Value.builtin "dict.pop") _) _ _ _)); (fail_if_success (with_reducible show wpAny _ _ (eval (Expr.ListComp _ _ _ _) _) _ _ _)); (fail_if_success (with_reducible show wpAny _ _ (exec (Stmt.Assign _ (Expr.ListComp _ _ _ _) _) _) _ _ _)); (fail_if_success (with_reducible show wpAny _ _ (call (Value.builtin "sorted") _) _ _ _)); (fail_if_success (with_reducible show wpAny _ _ (call (Value.type "list") [Value.ref _]) _ _ _)); (fail_if_success (with_reducible show wpAny _ _ (call (Value.type "dict") [Value.ref _]) _ _ _)); (try dsimp only); walk1))) | (first | ((with_reducible show ite _ _ _); walk1) | ((with_reducible show _ ∧ _); walk1) | (leave1; (try dsimp only)) | (dsimp only [InvPostN]) | fail "no step"))); walk1; (try dsimp only); rename News _ _ _ _ => kN; have kM := news_tail kN; clear kN))
  iterate 10 (((repeat' (first | (k_unfold; (try dsimp only)) | ((fail_if_success (with_reducible show wpAny _ _ (setAttr _ _ _) _ _ _)); (((with_reducible show wpAny _ _ _ _ _ _); (fail_if_success (with_reducible show wpAny _ _ (exec (Stmt.While _ _ _ _) _) _ _ _)); (fail_if_success (with_reducible show wpAny _ _ (exec (Stmt.Raise _ _ _) _) _ _ _)); (fail_if_success (with_reducible show wpAny _ _ (exec (Stmt.Try _ _ _ _ _) _) _ _ _)); (fail_if_success (with_reducible show wpAny _ _ (exec (Stmt.For _ _ _ _ _) _) _ _ _)); (fail_if_success (with_reducible show wpAny _ _ (call (Value.ref _) _) _ _ _)); (fail_if_success (with_reducible show wpAny _ _ (call (Value.builtin "dict.pop") _) _ _ _)); (fail_if_success (with_reducible show wpAny _ _ (eval (Expr.ListComp _ _ _ _) _) _ _ _)); (fail_if_success (with_reducible show wpAny _ _ (exec (Stmt.Assign _ (Expr.ListComp _ _ _ _) _) _) _ _ _)); (fail_if_success (with_reducible show wpAny _ _ (call (Value.builtin "sorted") _) _ _ _)); (fail_if_success (with_reducible show wpAny _ _ (call (Value.type "list") [Value.ref _]) _ _ _)); (fail_if_success (with_reducible show wpAny _ _ (call (Value.type "dict") [Value.ref _]) _ _ _)); (try dsimp only); walk1))) | (first | ((with_reducible show ite _ _ _); walk1) | ((with_reducible show _ ∧ _); walk1) | (leave1; (try dsimp only)) | (dsimp only [InvPostN]) | fail "no step"))); walk1; (try dsimp only)))
  iterate 2 (((repeat' (first | (k_unfold; (try dsimp only)) | ((fail_if_success (with_reducible show wpAny _ _ (setAttr _ _ _) _ _ _)); (((with_reducible show wpAny _ _ _ _ _ _); (fail_if_success (with_reducible show wpAny _ _ (exec (Stmt.While _ _ _ _) _) _ _ _)); (fail_if_success (with_reducible show wpAny _ _ (exec (Stmt.Raise _ _ _) _) _ _ _)); (fail_if_success (with_reducible show wpAny _ _ (exec (Stmt.Try _ _ _ _ _) _) _ _ _)); (fail_if_success (with_reducible show wpAny _ _ (exec (Stmt.For _ _ _ _ _) _) _ _ _)); (fail_if_success (with_reducible show wpAny _ _ (call (Value.ref _) _) _ _ _)); (fail_if_success (with_reducible show wpAny _ _ (call (Value.builtin "dict.pop") _) _ _ _)); (fail_if_success (with_reducible show wpAny _ _ (eval (Expr.ListComp _ _ _ _) _) _ _ _)); (fail_if_success (with_reducible show wpAny _ _ (exec (Stmt.Assign _ (Expr.ListComp _ _ _ _) _) _) _ _ _)); (fail_if_success (with_reducible show wpAny _ _ (call (Value.builtin "sorted") _) _ _ _)); (fail_if_success (with_reducible show wpAny _ _ (call (Value.type "list") [Value.ref _]) _ _ _)); (fail_if_success (with_reducible show wpAny _ _ (call (Value.type "dict") [Value.ref _]) _ _ _)); (try dsimp only); walk1))) | (first | ((with_reducible show ite _ _ _); walk1) | ((with_reducible show _ ∧ _); walk1) | (leave1; (try dsimp only)) | (dsimp only [InvPostN]) | fail "no step"))); walk1; (try dsimp only); rename News _ _ _ _ => kN; have kM := news_tail kN; clear kN))
  (repeat' (first | (k_unfold; (try dsimp only)) | ((((with_reducible show wpAny _ _ _ _ _ _); (fail_if_success (with_reducible show wpAny _ _ (exec (Stmt.While _ _ _ _) _) _ _ _)); (fail_if_success (with_reducible show wpAny _ _ (exec (Stmt.Raise _ _ _) _) _ _ _)); (fail_if_success (with_reducible show wpAny _ _ (exec (Stmt.Try _ _ _ _ _) _) _ _ _)); (fail_if_success (with_reducible show wpAny _ _ (exec (Stmt.For _ _ _ _ _) _) _ _ _)); (fail_if_success (with_reducible show wpAny _ _ (call (Value.ref _) _) _ _ _)); (fail_if_success (with_reducible show wpAny _ _ (call (Value.builtin "dict.pop") _) _ _ _)); (fail_if_success (with_reducible show wpAny _ _ (eval (Expr.ListComp _ _ _ _) _) _ _ _)); (fail_if_success (with_reducible show wpAny _ _ (exec (Stmt.Assign _ (Expr.ListComp _ _ _ _) _) _) _ _ _)); (fail_if_success (with_reducible show wpAny _ _ (call (Value.builtin "sorted") _) _ _ _)); (fail_if_success (with_reducible show wpAny _ _ (call (Value.type "list") [Value.ref _]) _ _ _)); (fail_if_success (with_reducible show wpAny _ _ (call (Value.type "dict") [Value.ref _]) _ _ _)); (try dsimp only); walk1))) | (first | ((with_reducible show ite _ _ _); walk1) | ((with_reducible show _ ∧ _); walk1) | (leave1; (try dsimp only)) | (dsimp only [InvPostN]) | fail "no step")))
  rename Fr _ _ _ _ => F9
  rename News _ _ _ _ => N9
  refine ⟨rfl, ?_⟩
  refine h _ _ x dx ?es ?n _ ?dF ?oF (On.mk2 F9.keep (Fr.size F9) (all_cons (led_goal N9 (by k_mem)) (all_cons (led_goal N9 ?m1) (all_cons (led_goal N9 ?m2) all_nil)))) (fields_of _ ?fa ?fb) (allF_of ?fc) ?fd ?fe ?ff hlt ?fg ?fh
  case m1 => repeat (first | exact List.Mem.head _ | apply List.Mem.tail)
  case fa => rfl
  case fb => exact Nat.le_of_ble_eq_true rfl
  case fc => rfl
  case fd => rfl
  case m2 => repeat (first | exact List.Mem.head _ | apply List.Mem.tail)
  case fe => assumption
  case ff => assumption
  case fg => k_ne
  case fh => k_ne

section
variable {w : World}
theorem world_find : ∀ name ∈ worldNames, findIn (Mine.hd.heap_39 w.params) (.ref 133) name = some none := by
  unfold worldNames
  (repeat' (first | exact all_nil | refine all_cons ?_ ?_)) <;> k_is
theorem world_taker (name : Str) (h : name ∈ worldNames) : takerIn (Mine.hd.heap_39 w.params) 133 name = some none := by
  unfold takerIn
  rw [world_find name h]
  rfl
theorem world_plain (name : Str) : plainGet (Mine.hd.heap_39 w.params) 133 name = true := by
  show plainGet (Mine.hd.heap_39 w.params) 133 (Str.ofString "files") = true
  k_is
theorem world_dict : hasDictIn (Mine.hd.heap_39 w.params) 133 = true := by k_is
theorem world_set : findIn (Mine.hd.heap_39 w.params) (.ref 133) "__setattr__" = some (some (.builtin "object.__setattr__")) := by k_is
theorem world_over : plainOver (Mine.hd.heap_39 w.params) 133 = true := by k_is
end
theorem upd_split {d : Addr} {o o' : Obj} {post : List (Addr × Obj)} (h2 : ∀ p ∈ post, p.1 ≠ d) : ∀ {pre : List (Addr × Obj)}, (∀ p ∈ pre, p.1 ≠ d) → Upd d o o' (pre ++ (d, o) :: post) (pre ++ (d, o') :: post)
  | [], _ => .head h2
  | p :: r, h => .tail (h p (.head _)) (upd_split h2 fun q hq => h q (.tail _ hq))

section
variable {prog : Program} {w : World} {mean : ExcName → Option Value} {mg mb : Str → Option Value} {A : Around} {E : Value → Shared → Prop} {s : Shared} {h₀ : Heap} {L x dx : Addr} {m : Str → Option Value} {news : List (Addr × Obj)} {es : List DictEntry} {n : Nat} {f : Str → Option Value} {name : Str} {v : Value}
theorem wgetH {expr : Bool} {Q : Value → Shared → Prop} (c : Cx w mean mg mb s.heap) (hx : s.heap.get? x = some (instObj 133 dx)) (hd : s.heap.get? dx = some (W.dictOf es n)) (fa : FieldsAre es f) (hn : name ∈ worldNames) (hf : f name = some v) (hv : handedIn v = true)
    (h : Q v { s with toks := s.toks + 1 }) : wpAny (model prog w) A (getAttr (.ref x) name expr) Q E s := by
  have I : InstAt s.heap x (instObj 133 dx) 133 (some (W.dictOf es n)) := ⟨hx, rfl, rfl, hd⟩
  refine get_value c.X I (plainGet_of (world_plain name)).1 (findObj_own world_dict (world_find name hn) rfl ?_) hv h
  rw [lookIn_dict, fa.look name, hf]
end
theorem wgetW {prog : Program} {w : World} {mean : ExcName → Option Value} {mg mb : Str → Option Value} {A : Around} {E : Value → Shared → Prop} {s : Shared} {x dx : Addr} {f : Str → Option Value} {name : Str} {v : Value} {expr : Bool} {Q : Value → Shared → Prop} (c : Cx w mean mg mb s.heap) (wa : WAt s.heap x dx f) (hn : name ∈ worldNames) (hf : f name = some v) (hv : handedIn v = true)
    (h : Q v { s with toks := s.toks + 1 }) : wpAny (model prog w) A (getAttr (.ref x) name expr) Q E s := by
  obtain ⟨es, n, a1, a2, a3⟩ := wa.is
  exact wgetH c a1 a2 a3 hn hf hv h
theorem wsetB {prog : Program} {w : World} {mean : ExcName → Option Value} {mg mb : Str → Option Value} {A : Around} {E : Value → Shared → Prop} {s : Shared} {h₀ : Heap} {L x dx : Addr} {m : Str → Option Value} {news : List (Addr × Obj)} {es : List DictEntry} {n : Nat} {f : Str → Option Value} {name : Str} {v : Value} {Q : Unit → Shared → Prop} {gf : Obj → List (Addr × Obj)} (c : Cx w mean mg mb h₀) (F : Fr h₀ L s.heap m) (N : News h₀ L s.heap news) (h1 : s.heap.get? x = some (instObj 133 dx)) (U : UpdF dx (W.dictOf es n) news gf) (fa : FieldsAre es f) (all : AllF f) (hn : name ∈ worldNames)
    (h : ∀ h' es' n', Fr h₀ L h' m → News h₀ L h' (gf (W.dictOf es' n')) → FieldsAre es' (fun y => if y = name then some v else f y) → AllF (fun y => if y = name then some v else f y) → Q () { s with heap := h', toks := s.toks + 2 }) :
    wpAny (model prog w) A (setAttr (.ref x) name v) Q E s := by
  obtain ⟨pre, post, rfl, hg, a, b⟩ := U.split
  have I : InstAt s.heap x (instObj 133 dx) 133 (some (W.dictOf es n)) := ⟨h1, rfl, rfl, (N (dx, _) (by simp)).1⟩
  have fp := fields_put fa (hsh := PyData.keyHash w.params name) (t := s.toks + 1) (v := v) (all name hn)
  refine set_dict F c.X N I rfl world_set world_over (world_taker name hn) world_dict (by rw [fa.look name]; rfl) rfl (upd_split b a) (Nat.le_trans fp.few (by decide)) fun h' F' N' => ?_
  rw [← hg] at N'
  exact h h' _ _ F' N' fp (allF_put all name v)

theorem exc_refuse (self : Value) : refuseLoop self "__setattr__" [.ref 34, .type "Exception", .type "BaseException", .type "object"] = pure () := by
  rw [refuseLoop_ref]; kernel_rfl
section
open PySem.Builtin PySem.Builtin.ObjectAttr
variable {prog : Program} {w : World} {mean : ExcName → Option Value} {mg mb : Str → Option Value} {A : Around} {E : Value → Shared → Prop} {s : Shared} {R : Result → Shared → Prop} {h₀ : Heap} {L e dx : Addr} {m : Str → Option Value} {news : List (Addr × Obj)} {oe : Obj} {od : Option Obj} {name : Str} {v : Value} {tk : Tok}
theorem exc_mro {M : Model} {h : Heap} (X : (Mine.hd.heap_39 w.params).In h) : Looks M h (mroOf (.ref 34)) [.ref 34, .type "Exception", .type "BaseException", .type "object"] := by
  have hc : ∃ cd, clsIn (Mine.hd.heap_39 w.params) 34 = some cd ∧ cd.mro = [.ref 34, .type "Exception", .type "BaseException", .type "object"] := ⟨_, by rfl, by rfl⟩
  obtain ⟨cd, hc, hm⟩ := hc
  rw [← hm]
  exact (looks_clsIn X hc).andThen .now
/-- the way to the own dict of an exception -/
theorem exc_open (X : (Mine.hd.heap_39 w.params).In s.heap) (I : InstAt s.heap e oe 34 od) (hn : findIn (Mine.hd.heap_39 w.params) (.ref 34) name = some none)
    (h : wpAny (model prog w) A.in1 (storeInOwnDict (.ref e) (.ref 34) (.str name tk) name v false)
      (fun fin s' => match fin with | .done f => R (.ok f) s' | .again c' => c'.quiet = true ∧ codeAny (model prog w) A c' R s') (fun e s' => R (.error e) s') s) :
    codeAny (model prog w) A (.call (.builtin "object.__setattr__") ⟨[.ref e, .str name tk, v], []⟩) R s := by
  have SF := PySem.F.store_object
  have sub : Looks (model prog w) s.heap (isInstance (.ref e) (.type "object")) true := I.type.andThen (looks_mroIn X (by k_is))
  refine codeAny_call_builtin SF.slot.plain SF.entry (@check_slot (model prog w) _ _ s "object.__setattr__" "object" "__setattr__" (.ref e) [.str name tk, v] [] _ SF.kind SF.split sub (SF.args (.ref e) (.str name tk) v) ?_)
  rw [osa_eq, refuse_eq]
  refine wpAny_bind (wpAny_bind (I.type.here (wpAny_bind ((exc_mro X).here ?_))))
  rw [exc_refuse]
  exact wpAny_pure (wpAny_bind (I.type.here (wpAny_bind ((looks_findIn X hn).here (wpAny_bind (wpAny_pure h))))))
end
section
open PySem.Builtin PySem.Builtin.ObjectAttr
variable {prog : Program} {w : World} {mean : ExcName → Option Value} {mg mb : Str → Option Value} {A : Around} {E : Value → Shared → Prop} {s : Shared} {h₀ : Heap} {L e dx : Addr} {m : Str → Option Value} {news : List (Addr × Obj)} {oe : Obj} {name : Str} {v : Value} {tk : Tok} {es : List DictEntry} {n : Nat}
theorem exc_cls : ∃ cd, clsIn (Mine.hd.heap_39 w.params) 34 = some cd ∧ cd.hasDict = true := ⟨_, by rfl, by rfl⟩
/-- the storing itself, where the own dict is known -/
theorem store_in {P : Fin → Shared → Prop} (F : Fr h₀ L s.heap m) (N : News h₀ L s.heap news) {gf : Obj → List (Addr × Obj)} (U : UpdF dx (W.dictOf es n) news gf) (hr : es.any (·.refKey) = false) (hz : es.length ≤ 100)
    (h : ∀ h' t, Fr h₀ L h' m → News h₀ L h' (gf (W.dictOf (putL name (PyData.keyHash w.params name) (.str name t) v es) (putN name es n))) → P (.done (.ret .none)) { s with heap := h', toks := s.toks + 1 }) :
    wpAny (model prog w) A (storeInDict dx (.str name tk) name v) P E s := by
  obtain ⟨pre, post, rfl, hg, a, b⟩ := U.split
  have D := (N (dx, W.dictOf es n) (by simp)).1
  have hz' : (putL name (PyData.keyHash w.params name) (.str name s.toks) v es).length ≤ 101 := by
    have : ∀ (es : List DictEntry), (putL name (PyData.keyHash w.params name) (.str name s.toks) v es).length ≤ es.length + 1 := by
      intro es
      induction es with
      | nil => simp [putL]
      | cons x r ih => unfold putL; split <;> simp [ih]
    have := this es
    omega
  have e : Obj.putName name (PyData.keyHash w.params name) (.str name s.toks) v (W.dictOf es n) = W.dictOf (putL name (PyData.keyHash w.params name) (.str name s.toks) v es) (putN name es n) := putName_dict _ _ _ _ _ _
  obtain ⟨U1, U2⟩ := news_upd (f := Obj.putName name (PyData.keyHash w.params name) (.str name s.toks) v) F N a b e (by rfl)
  have D' := (U2 (dx, _) (List.mem_append_right _ (.head _))).1
  rw [← hg] at U2
  unfold storeInDict
  refine wpAny_bind (wpAny_pure ?_)
  unfold nsSet
  refine wpAny_bind (wpAny_bind (wpAny_bind (wpAny_askSetting (wpAny_pure (wpAny_bind (wpAny_mkText (wpAny_bind (wpAny_loadPart D ?_))))))))
  dsimp only
  have c : (!es.toArray.any (·.key.isStr name) && es.toArray.any (·.refKey)) = false := by
    rw [← Array.any_toList, ← Array.any_toList]
    simp only [hr, Bool.and_false]
  rw [aRefKeyMayBeTheName_at, c]
  refine wpAny_updatePart D ?_
  refine wpAny_bind (wpAny_lookBehind D' (pastItsLine_dict (by rw [List.size_toArray, sizeLine_eq]; omega)) ?_)
  exact wpAny_pure (h _ _ U1 U2)

theorem exc_set_next {Q : Unit → Shared → Prop} {gf : Obj → List (Addr × Obj)} (c : Cx w mean mg mb h₀) (F : Fr h₀ L s.heap m) (N : News h₀ L s.heap news) (he : (e, oe) ∈ news) (hcl : oe.cls = .ref 34) (hdn : oe.dict = some dx) {vs : Array Value} (hd : oe.data = .fields vs)
    (U : UpdF dx (W.dictOf es n) news gf) (hr : es.any (·.refKey) = false) (hz : es.length ≤ 100) (hn : findIn (Mine.hd.heap_39 w.params) (.ref 34) name = some none)
    (h : ∀ h' t, Fr h₀ L h' m → News h₀ L h' (gf (W.dictOf (putL name (PyData.keyHash w.params name) (.str name t) v es) (putN name es n))) → Q () { s with heap := h', toks := s.toks + 2 }) :
    wpAny (model prog w) A (setAttr (.ref e) name v) Q E s := by
  obtain ⟨hh, gg, dd, tt, os⟩ := s
  have X : (Mine.hd.heap_39 w.params).In hh := c.X.keeps F.keep
  have I : InstAt hh e oe 34 (some (W.dictOf es n)) := ⟨(N _ he).1, hcl, by unfold notCls; rw [hd], by rw [hdn]; exact (N _ (updF_mem U)).1⟩
  obtain ⟨cd, hc, hcd⟩ := exc_cls (w := w)
  refine set_plain X I (by k_is) (exc_open (s := ⟨hh, gg, dd, tt + 1, os⟩) X I hn ?_)
  refine wpAny_bind (wpAny_pure (wpAny_bind (wpAny_bind (wpAny_loadPart I.at_ ?_))))
  rw [hcl]
  refine wpAny_bind ((looks_clsIn X hc).at ?_)
  rw [hcd, hdn]
  refine wpAny_pure (a := some dx) ?_
  exact store_in (s := ⟨hh, gg, dd, tt + 1, os⟩) F N U hr hz fun h' t F' N' => h h' t F' N'
theorem exc_set_first {Q : Unit → Shared → Prop} {gf : Obj → List (Addr × Obj)} (c : Cx w mean mg mb h₀) (F : Fr h₀ L s.heap m) (N : News h₀ L s.heap news) (hcl : oe.cls = .ref 34) (hdn : oe.dict = none) {vs : Array Value} (hd : oe.data = .fields vs)
    (U : UpdF e oe news gf) (hn : findIn (Mine.hd.heap_39 w.params) (.ref 34) name = some none)
    (h : ∀ h' t dx, Fr h₀ L h' m → News h₀ L h' ((dx, W.dictOf [⟨PyData.keyHash w.params name, .str name t, v⟩] 1) :: gf { oe with dict := some dx }) → (∀ p ∈ news, p.1 ≠ dx) → Q () { s with heap := h', toks := s.toks + 2 }) :
    wpAny (model prog w) A (setAttr (.ref e) name v) Q E s := by
  obtain ⟨hh, gg, dd, tt, os⟩ := s
  have X : (Mine.hd.heap_39 w.params).In hh := c.X.keeps F.keep
  have he := (N _ (updF_mem U)).1
  have I : InstAt hh e oe 34 none := ⟨he, hcl, by unfold notCls; rw [hd], by rw [hdn]; trivial⟩
  obtain ⟨cd, hc, hcd⟩ := exc_cls (w := w)
  refine set_plain X I (by k_is) (exc_open (s := ⟨hh, gg, dd, tt + 1, os⟩) X I hn ?_)
  refine wpAny_bind (wpAny_pure (wpAny_bind (wpAny_bind (wpAny_loadPart I.at_ ?_))))
  rw [hcl]
  refine wpAny_bind ((looks_clsIn X hc).at ?_)
  rw [hcd, hdn, hd]
  obtain ⟨pre, post, rfl, hg, a, b⟩ := U.split
  have N1 := News.push F N emptyDict
  have F1 := F.push emptyDict
  have hlt : ∀ p ∈ pre ++ (e, oe) :: post, p.1 ≠ hh.objs.size := fun p hp => Nat.ne_of_lt (Heap.lt_size (N p hp).1)
  have a1 : ∀ p ∈ (hh.objs.size, emptyDict) :: pre, p.1 ≠ e := fun p hp => by
    rcases List.mem_cons.mp hp with rfl | hp
    · exact Ne.symm (hlt (e, oe) (by simp))
    · exact a p hp
  obtain ⟨F2, N2⟩ := news_upd (f := fun o => { o with dict := some hh.objs.size }) (pre := (hh.objs.size, emptyDict) :: pre) (o' := { oe with dict := some hh.objs.size }) F1 N1 a1 b rfl (by unfold Obj.isFreed; simp only [hd])
  refine wpAny_bind (wpAny_alloc (wpAny_bind (wpAny_update (by rw [Heap.get?_push_of_some _ he]) (wpAny_pure (a := some hh.objs.size) ?_))))
  refine store_in (s := ⟨_, gg, dd, tt + 1, os⟩) (es := []) (n := 0) F2 N2 (.head fun p hp => ?_) rfl (Nat.zero_le _) fun h' t F' N' => h h' t hh.objs.size F' ?_ hlt
  · rcases List.mem_append.mp hp with hp | hp
    · exact hlt p (List.mem_append_left _ hp)
    · rcases List.mem_cons.mp hp with rfl | hp
      · exact hlt (e, oe) (by simp)
      · exact hlt p (List.mem_append_right _ (.tail _ hp))
  · rw [hg]
    exact N'
end

theorem exc_ga (self : Value) : bindSpecial (.builtin "BaseException.__getattribute__") self = pure (.builtin "BaseException.__getattribute__", [self]) := by kernel_rfl
section
open PySem.Builtin PySem.Builtin.ObjectAttr
variable {prog : Program} {w : World} {A : Around} {E : Value → Shared → Prop} {hh : Heap} {gg : Array GenState} {dd : Drawn} {tt : Nat} {os : OsState} {e dx : Addr} {oe : Obj} {es : List DictEntry} {n : Nat} {name : Str} {v : Value} {expr : Bool} {Q : Value → Shared → Prop}
theorem exc_slot : builtinKind "BaseException.__getattribute__" = some .slot := by decide +kernel
theorem exc_split : splitId "BaseException.__getattribute__" = some ("BaseException", "__getattribute__") := by decide +kernel
/-- an attribute of a BasicError that lies in its own dict -/
theorem exc_get (X : (Mine.hd.heap_39 w.params).In hh) (I : InstAt hh e oe 34 (some (W.dictOf es n))) (hn : findIn (Mine.hd.heap_39 w.params) (.ref 34) name = some none) (hl : getL name es = some (some v)) (hv : handedIn v = true)
    (h : Q v ⟨hh, gg, dd, tt + 1, os⟩) : wpAny (model prog w) A (getAttr (.ref e) name expr) Q E ⟨hh, gg, dd, tt, os⟩ := by
  have L0 := I.type (M := model prog w)
  have g1 : findIn (Mine.hd.heap_39 w.params) (.ref 34) "__getattribute__" = some (some (.builtin "BaseException.__getattribute__")) := by k_is
  have g2 : findIn (Mine.hd.heap_39 w.params) (.ref 34) "__getattr__" = some none := by k_is
  have L1 := looks_findIn (M := model prog w) X g1
  have L2 := looks_findIn (M := model prog w) X g2
  have hd : hasDictIn (Mine.hd.heap_39 w.params) 34 = true := by k_is
  have sub : Looks (model prog w) hh (isInstance (.ref e) (.type "BaseException")) true := I.type.andThen (looks_mroIn X (by k_is))
  have L3 := looks_find (M := model prog w) X I (findObj_own hd hn rfl (by rw [lookIn_dict]; exact hl))
  unfold getAttr getAttrBy
  refine wpAny_bind (wpAny_mkText (wpAny_holding (wpAny_bind (L0.at (wpAny_bind (L1.at ?_))))))
  show wpAny _ _ (if (onTheHeap (.ref 34) && (Value.builtin "BaseException.__getattribute__" == Value.builtin "object.__getattribute__")) = true then _ else _) _ _ _
  rw [show (Value.builtin "BaseException.__getattribute__" == Value.builtin "object.__getattribute__") = false from by decide +kernel, Bool.and_false, if_neg Bool.false_ne_true]
  unfold getAttrByItsOwn hookBefore callGetattribute boundAndCalled
  rw [show onTheHeap (.ref 34) = true from rfl, if_pos rfl]
  refine wpAny_bind (L2.at ?_)
  rw [show (expr && onTheHeap (Value.builtin "BaseException.__getattribute__")) = false by cases expr <;> rfl, if_neg Bool.false_ne_true]
  refine wpAny_bind (wpAny_attempt (wpAny_holding ?_))
  refine wpAny_bind (wpAny_of_eq (exc_ga _) ?_)
  refine wpAny_mono (Q := fun u s' => u = v ∧ s' = ⟨hh, gg, dd, tt + 1, os⟩) (E := fun _ _ => False) (wpAny_call (codeAny_call_builtin (by decide +kernel) PySem.F.entry_bexc_ga
    (@check_slot (model prog w) _ _ ⟨hh, gg, dd, tt + 1, os⟩ "BaseException.__getattribute__" "BaseException" "__getattribute__" (.ref e) [.str name tt] [] _ exc_slot exc_split sub (PySem.F.args_bexc_ga (.ref e) (.str name tt)) ?_))) (fun u s' hu => ?_) fun _ _ z => z.elim
  · refine wpAny_bind (wpAny_pure (wpAny_bind (wpAny_pure (wpAny_bind (L0.at (wpAny_bind (L3.at (wpAny_pure ?_))))))))
    exact ⟨rfl, rfl⟩
  · obtain ⟨rfl, rfl⟩ := hu
    show wpAny _ _ (handedOut u) _ _ _
    rw [handedOut_of hv]
    exact wpAny_pure h
end

theorem wd_type : typeOf (.builtin "Exception.__init__") = pure (.type "wrapper_descriptor") := by kernel_rfl
theorem wd_slot : Slot "wrapper_descriptor" "__get__" "wrapper_descriptor.__get__" := .of (owner := "wrapper_descriptor") (n := "__get__") (by rw [typeLookup_type, builtinLookup_eq_fast]; kernel_rfl) (by decide +kernel) (by decide +kernel) (by decide +kernel)
  (.inl (by decide +kernel)) (by rw [isSubtype_type]; kernel_rfl)
theorem wd_entry : entryFor table "wrapper_descriptor.__get__" = some Builtin.«wrapper_descriptor.__get__» := entryFor_of_tree (by kernel_rfl)
theorem wd_args (a b c : Value) : argsOk "wrapper_descriptor.__get__" ⟨[a, b, c], []⟩ := by unfold argsOk; kernel_rfl
abbrev wrapObj (e : Addr) : Obj := { cls := .type "method-wrapper", data := .fields #[.builtin "Exception.__init__", .ref e] }
section
variable {M : Model} {A : Around} {E : Value → Shared → Prop} {h : Heap} {g : Array GenState} {d : Drawn} {t : Nat} {os : OsState}
theorem wd_run {e : Addr} {oe : Obj} (he : h.get? e = some oe) (hc : oe.cls = .ref 34) {Q : Fin → Shared → Prop} (hs : Looks M h (isSubtype (.ref 34) (.type "Exception")) true)
    (hq : Q (.done (.ret (.ref h.objs.size))) ⟨h.push (wrapObj e), g, d, t, os⟩) :
    wpAny M A (Builtin.«wrapper_descriptor.__get__» ⟨[.builtin "Exception.__init__", .ref e, .ref 34], []⟩) Q E ⟨h, g, d, t, os⟩ := by
  have hown : (".".intercalate ("Exception.__init__".cutAt '.').dropLast) = "Exception" := by decide +kernel
  unfold Builtin.«wrapper_descriptor.__get__»
  repeat (first
    | (with_reducible refine wpAny_loadPart_at he ?_; rw [hc])
    | (rw [hown]; with_reducible refine Looks.at hs ?_)
    | wp_step
    | dsimp only)
  all_goals exact hq
end
section
variable {prog : Program} {w : World} {A : Around} {E : Value → Shared → Prop} {h : Heap} {g : Array GenState} {d : Drawn} {t : Nat} {os : OsState} {so e : Addr} {oe : Obj}
theorem xs_ga {tk : Tok} {Q : Fin → Shared → Prop} (hso : h.get? so = some (ks_superObj 34 e 34)) (hno : Looks (model prog w) h (opaqueClassAbove (.ref 34)) none) (X : (Mine.hd.heap_39 w.params).In h) (he : h.get? e = some oe) (hc : oe.cls = .ref 34) (hne : e ≠ 34)
    (hq : Q (.done (.ret (.ref h.objs.size))) ⟨h.push (wrapObj e), g, d, t, os⟩) :
    wpAny (model prog w) A (Builtin.«super.__getattribute__» ⟨[.ref so, .str (Str.ofString "__init__") tk], []⟩) Q E ⟨h, g, d, t, os⟩ := by
  have hm : ks_superIn (Mine.hd.heap_39 w.params) 34 34 (Str.ofString "__init__") = some (some (.builtin "Exception.__init__")) := by ks_is
  obtain ⟨cd, hcd, hf⟩ : ∃ cd, clsIn (Mine.hd.heap_39 w.params) 34 = some cd ∧ alongIn (Mine.hd.heap_39 w.params) (Str.ofString "__init__") ((cd.mro.dropWhile (· != .ref 34)).drop 1) = some (some (.builtin "Exception.__init__")) := by
    unfold ks_superIn at hm
    exact Option.bind_eq_some_iff.mp hm
  have hC : Looks (model prog w) h (mroOf (.ref 34)) cd.mro := (looks_clsIn X hcd).andThen .now
  generalize hl : (cd.mro.dropWhile (· != .ref 34)).drop 1 = l at hf
  have hlk := wd_slot.lookup
  have hne' : (Value.ref e == Value.ref 34) = false := by simp [hne]
  have hdt : (ks_superObj 34 e 34).data = .fields #[.ref 34, .ref e, .ref 34] := rfl
  have f0 : (#[.ref 34, .ref e, .ref 34] : Array Value)[0]? = some (.ref 34) := rfl
  have f1 : (#[.ref 34, .ref e, .ref 34] : Array Value)[1]? = some (.ref e) := rfl
  have f2 : (#[.ref 34, .ref e, .ref 34] : Array Value)[2]? = some (.ref 34) := rfl
  have hn : (Str.ofString "__init__" == ("__class__" : Str)) = false := by decide +kernel
  have hsub : Looks (model prog w) h (isSubtype (.ref 34) (.type "Exception")) true := looks_mroIn X (by k_is)
  have ht := wd_type
  unfold Builtin.«super.__getattribute__»
  repeat (first
    | (with_reducible refine wpAny_field hso hdt f0 ?_) | (with_reducible refine wpAny_field hso hdt f1 ?_) | (with_reducible refine wpAny_field hso hdt f2 ?_)
    | (with_reducible refine ks_wpAny_notOpaque hno ?_)
    | (with_reducible refine Looks.at hC ?_; rw [hl])
    | (refine ks_forIn_along X (fun _ _ => rfl) rfl ?_ hf)
    | (with_reducible refine wpAny_of_eq ht ?_)
    | (with_reducible refine wpAny_call_entry wd_slot ht wd_entry ?_ (wd_args _ _ _))
    | (with_reducible refine wd_run he hc hsub ?_)
    | (with_reducible refine ⟨_, rfl, ?_⟩)
    | (simp only [hn, hne', Bool.or_false, Bool.false_eq_true, if_false])
    | wp_step
    | dsimp only)
  refine codeAny_call_builtin wd_slot.plain wd_entry (wd_slot.check _ _ _ _ _ _ _ _ ht (wd_args _ _ _) (wd_run he hc hsub ?_))
  repeat (first | exact hq | wp_step | dsimp only)
theorem xs_method {pl : Sem Bool} {Q : Value × List Value → Shared → Prop} (hso : h.get? so = some (ks_superObj 34 e 34)) (hno : Looks (model prog w) h (opaqueClassAbove (.ref 34)) none) (X : (Mine.hd.heap_39 w.params).In h) (he : h.get? e = some oe) (hc : oe.cls = .ref 34) (hne : e ≠ 34)
    (hq : Q (.ref h.objs.size, []) ⟨h.push (wrapObj e), g, d, t + 1, os⟩) :
    wpAny (model prog w) A (getMethod (.ref so) (Str.ofString "__init__") pl) Q E ⟨h, g, d, t, os⟩ := by
  have hlk := PySem.F.ks_slot_super_ga.lookup
  have hcan := PySem.F.ks_canon_super_ga
  have hT : ∀ t', (⟨h, g, d, t', os⟩ : Shared).TypeIs (.ref so) "super" := fun _ => ⟨_, hso, rfl⟩
  unfold getMethod
  refine wpAny_bind (wpAny_specialOf (hT _) hlk ?_)
  show wpAny _ _ (if (Manifest.canonical "super.__getattribute__" != "object.__getattribute__") = true then _ else _) _ _ _
  rw [if_pos hcan]
  unfold getAttr getAttrBy
  refine wpAny_bind (wpAny_bind (wpAny_mkText (wpAny_holding (wpAny_bind (wpAny_typeOf (hT _) (wpAny_bind (wpAny_of_eq hlk ?_)))))))
  show wpAny _ _ (getAttrByItsOwn (.ref so) (.str (Str.ofString "__init__") t) (.type "super") (.builtin "super.__getattribute__") true false) _ _ _
  unfold getAttrByItsOwn hookBefore callGetattribute boundAndCalled
  refine wpAny_bind (wpAny_of_eq (show (if onTheHeap (.type "super") then typeLookup (.type "super") "__getattr__" else pure none) = pure none from rfl) ?_)
  refine wpAny_bind (wpAny_attempt (wpAny_holding ?_))
  show wpAny _ _ (bindSpecial (.builtin "super.__getattribute__") (.ref so) >>= _) _ _ _
  refine wpAny_bind (wpAny_of_eq (PySem.F.ks_slot_super_ga.bind _) ?_)
  refine wpAny_mono (Q := fun v s' => v = .ref h.objs.size ∧ s' = ⟨h.push (wrapObj e), g, d, t + 1, os⟩) (E := fun _ _ => False)
    (wpAny_call_entry PySem.F.ks_slot_super_ga (hT _) PySem.F.ks_entry_super_ga (xs_ga hso hno X he hc hne ⟨_, rfl, rfl, rfl⟩) (PySem.F.ks_gaArgs_super _ _)) (fun v s' hv => ?_) fun _ _ z => z.elim
  obtain ⟨rfl, rfl⟩ := hv
  exact wpAny_pure (wpAny_pure hq)
end

theorem exc_class {w : World} {h : Heap} (X : (Mine.hd.heap_39 w.params).In h) : ∃ nm q bs hdct sn sub ab col dd k0 k1 k2 k3 k5,
    h.get? 34 = some (excClassObj nm q 34 33 bs [.type "Exception", .type "BaseException", .type "object"] hdct sn sub ab col dd k0 k1 k2 k3 k5 "Exception.__new__") :=
  ⟨_, _, _, _, _, _, _, _, _, _, _, _, _, _, X 34 _ (by rfl)⟩
theorem xs_check {w : World} {M : Model} {A : Around} {E : Value → Shared → Prop} {e : Addr} {oe : Obj} {a : Value} {Q : Unit → Shared → Prop} {h : Heap} {g : Array GenState} {d : Drawn} {t : Nat} {os : OsState} (X : (Mine.hd.heap_39 w.params).In h) (he : h.get? e = some oe) (hcls : oe.cls = .ref 34) (hq : Q () ⟨h, g, d, t, os⟩) :
    wpAny M A (checkBoundCall "Exception.__init__" ⟨[.ref e, a], []⟩) Q E ⟨h, g, d, t, os⟩ := by
  have F := PySem.F.excBase_Exception
  obtain ⟨nm, q, bs, hdct, sn, sub, ab, col, ddc, k0, k1, k2, k3, k5, hC⟩ := exc_class X
  simp only [checkBoundCall, F.initKind, F.initRow]
  repeat (first | (with_reducible refine wpAny_loadPart_at he ?_; rw [hcls]) | with_reducible refine wpAny_loadPart_at hC ?_ | wp_step)
  exact hq
section
variable {prog : Program} {w : World} {A : Around} {E : Value → Shared → Prop} {h : Heap} {g : Array GenState} {d : Drawn} {t : Nat} {os : OsState} {q e : Addr} {oe : Obj} {vs : Array Value} {t0 : Addr}
/-- the base's own __init__ sets the args -/
theorem xs_call {a : Value} {Q : Value → Shared → Prop} (X : (Mine.hd.heap_39 w.params).In h) (hcls : oe.cls = .ref 34) (hq : h.get? q = some (wrapObj e)) (he : h.get? e = some oe) (hd : oe.data = .fields vs) (h0 : vs[0]? = some (.ref t0))
    (hQ : Q .none ⟨(h.push { cls := .type "tuple", data := .seq #[a] }).update e (Obj.mapFields (·.setIfInBounds 0 (.ref h.objs.size))), g, d, t, os⟩) :
    wpAny (model prog w) A (call (.ref q) [a]) Q E ⟨h, g, d, t, os⟩ := by
  have he1 : (h.push { cls := .type "tuple", data := .seq #[a] }).get? e = some oe := Heap.get?_push_of_some _ he
  have hs : 0 < vs.size := (Array.getElem?_eq_some_iff.mp h0).1
  refine wpAny_call (codeAny_of_tree ?_)
  show wpAny _ _ (callAny (.ref q) _) _ _ _
  unfold callAny
  refine wpAny_bind (wpAny_load hq ?_)
  show wpAny _ _ (checkBoundCall "Exception.__init__" ⟨[.ref e, a], []⟩ >>= fun _ => again (.builtin "Exception.__init__" ⟨[.ref e, a], []⟩) >>= fun x => pure x) _ _ _
  refine wpAny_bind (xs_check X he hcls (wpAny_bind (wpAny_pure (wpAny_pure ?_))))
  refine ⟨Code.quiet_builtin _ (by decide +kernel), codeAny_builtin PySem.F.excBase_Exception.initEntry ?_⟩
  show wpAny _ _ (newTuple [a] >>= fun v => (field (.ref e) 0 >>= fun old => setField (.ref e) 0 v >>= fun _ => match old with | .ref _ => letGo [old] [] | _ => pure ()) >>= fun _ => ret .none) _ _ _
  refine wpAny_bind (wpAny_newTuple ?_)
  refine wpAny_bind (wpAny_bind (wpAny_field he1 hd h0 (wpAny_bind (wpAny_setField he1 hd hs (wpAny_letGo ?_)))))
  exact wpAny_pure hQ
end

structure PX (prog : Program) : Prop where
  file : ((prog.main.file : Str) == "/claim/cut.py") = true
  top : (prog.main.scope.names.lookup ("super" : Str)).isSome = false
section
variable {prog : Program} {w : World} {A : Around} {E : Value → Shared → Prop} {s : Shared} {q e : Addr} {env : Env} {pos : Pos} {first : List Value} {Q : Value → Shared → Prop}
theorem xs_keeps {M : Model} (h : Heap) (hq : h.get? q = some (wrapObj e)) : ∃ k, (k = Keeper.frame ∨ k = Keeper.machine ∨ k = Keeper.boundFrame) ∧ Looks M h (keeperOf (.ref q)) k :=
  ⟨.machine, .inr (.inl rfl), (Looks.ld (part := none) hq).andThen .now⟩
theorem xs_callWith {x : Expr} {rest : List Expr} (h : wpAny (model prog w) A (spliced (backTo pos (starEach (x :: rest) env))) (fun vs s₁ => s₁.heap.get? q = some (wrapObj e) ∧ wpAny (model prog w) A (call (.ref q) (first ++ vs)) Q E s₁) E s)
    (he : starEach (x :: rest) env = (false, eval x env) :: starEach rest env := by rfl) (hplain : (backTo pos (starEach rest env)).any (·.1) = false := by rfl) :
    wpAny (model prog w) A (callWith pos (.ref q) first (backTo pos (starEach (x :: rest) env)) []) Q E s := by
  rw [he] at h ⊢
  exact callWith_of (P := fun h => h.get? q = some (wrapObj e)) (by show ((false || (backTo pos (starEach rest env)).any (·.1)) || false) = false; rw [hplain]; rfl) xs_keeps (evalArgs_plain h)
end

theorem binit_spec {prog : Program} {w : World} {mean : ExcName → Option Value} {mg mb : Str → Option Value} {A : Around} {s : Shared} {Q E : Value → Shared → Prop} {g : Heap} {e : Addr} {oe : Obj} {vs : Array Value} {t0 : Addr} {code told : Value}
    (px : PX prog) (c : Cx w mean mg mb g) (r : Rm A 2) (on : On g [(e, oe)] s.heap) (hcl : oe.cls = .ref 34) (hdn : oe.dict = none) (hd : oe.data = .fields vs) (h0 : vs[0]? = some (.ref t0)) (h1 : vs[1]? = some .none)
    (h : ∀ h' tk dx es n f oe' vs', On g [(e, oe'), (dx, W.dictOf es n)] h' → oe'.cls = .ref 34 → oe'.dict = some dx → oe'.data = .fields vs' → vs'[1]? = some .none → e ≠ dx → FieldsAre es f → f (Str.ofString "code") = some code → Q .none { s with heap := h', toks := tk }) :
    wpAny (model prog w) A (call (.ref 31) [.ref e, code, told]) Q E s := by
  have c0 := c
  obtain ⟨X, T⟩ := c
  obtain ⟨rd, ru, rh⟩ := r
  obtain ⟨ah, ad, af, ag, au⟩ := A
  dsimp only at rd ru rh
  subst rh
  have X' := X.keeps on.keep
  refine wpAny_call ?_
  k_dflt (refine' enterS (binds := [(Str.ofString "self", .ref e), (Str.ofString "code", code), (Str.ofString "told", told)]) on X T ?k6 ?k7 ?k8 ?k9 ?kB ?_ ?c2 ?c3 ?c4 ?c5; (case k6 => k_is); (case k7 => k_is); (case k8 => ((try dsimp only); omega)); (case k9 => first | exact BindsTo.of_eq rfl | exact binds_K (by assumption) rfl (by k_is) rfl (by with_unfolding_all rfl) (by with_unfolding_all rfl)); (case c5 => decide); (case kB => exact locs rfl); (case c2 => exact rfl); (case c3 => exact rfl); (case c4 => exact rfl))
  intro L h2 F N hk0
  dsimp only
  rw [lkAll] at F
  simp only [List.reverse_cons, List.reverse_nil, List.nil_append, List.cons_append, ifs] at F
  have I : InstAt h2 e oe 34 none := ⟨(N _ (.head _)).1, hcl, by unfold notCls; rw [hd], by rw [hdn]; trivial⟩
  obtain ⟨cd, hcd, _⟩ := exc_cls (w := w)
  have hne : e ≠ 34 := ks_ne (X.keeps F.keep) I hcd
  refine ks_wpAt_execs_cons (ks_wpAt_Expr_any (ks_wpAt_MethodCall ?_))
  k_dflt (refine ks_node F X N T (by k_is) (by rfl) (by rfl) I (by k_is) (by rfl) px.file (by k_is) (by k_is) (by k_is) (by k_is) (by decide) (by rfl) (by rfl) (by rfl) (by rfl) px.top (by first | boot_by_name | rfl | kernel_rfl) ?_)
  intro so h3 F3 N3 l3
  dsimp only
  have X3 := X.keeps F3.keep
  refine xs_method (N3 _ (.head _)).1 (looks_opaque X3 (by k_is)) X3 (N3 _ (.tail _ (.head _))).1 hcl hne ?_
  dsimp only
  refine xs_callWith (e := e) ?_
  have N4 : News g L (h3.push (wrapObj e)) ((h3.objs.size, wrapObj e) :: [(so, ks_superObj 34 e 34), (e, oe)]) := News.push F3 N3 _
  have F4 := F3.push (wrapObj e)
  generalize hq : h3.objs.size = q at N4
  generalize h3.push (wrapObj e) = h4 at N4 F4
  (repeat' (first | (k_unfold; (try dsimp only)) | ((fail_if_success (with_reducible show wpAny _ _ (setItem _ _ _) _ _ _)); (((with_reducible show wpAny _ _ _ _ _ _); (fail_if_success (with_reducible show wpAny _ _ (exec (Stmt.While _ _ _ _) _) _ _ _)); (fail_if_success (with_reducible show wpAny _ _ (exec (Stmt.Raise _ _ _) _) _ _ _)); (fail_if_success (with_reducible show wpAny _ _ (exec (Stmt.Try _ _ _ _ _) _) _ _ _)); (fail_if_success (with_reducible show wpAny _ _ (exec (Stmt.For _ _ _ _ _) _) _ _ _)); (fail_if_success (with_reducible show wpAny _ _ (call (Value.ref _) _) _ _ _)); (fail_if_success (with_reducible show wpAny _ _ (call (Value.builtin "dict.pop") _) _ _ _)); (fail_if_success (with_reducible show wpAny _ _ (eval (Expr.ListComp _ _ _ _) _) _ _ _)); (fail_if_success (with_reducible show wpAny _ _ (exec (Stmt.Assign _ (Expr.ListComp _ _ _ _) _) _) _ _ _)); (fail_if_success (with_reducible show wpAny _ _ (call (Value.builtin "sorted") _) _ _ _)); (fail_if_success (with_reducible show wpAny _ _ (call (Value.type "list") [Value.ref _]) _ _ _)); (fail_if_success (with_reducible show wpAny _ _ (call (Value.type "dict") [Value.ref _]) _ _ _)); (try dsimp only); walk1))) | (first | ((with_reducible show ite _ _ _); walk1) | ((with_reducible show _ ∧ _); walk1) | (leave1; (try dsimp only)) | (dsimp only [InvPostN]) | fail "no step")))
  · exact (N4 _ (.head _)).1
  have X4 := X.keeps F4.keep
  refine xs_call X4 hcl (N4 _ (.head _)).1 (N4 _ (.tail _ (.tail _ (.head _)))).1 hd h0 ?_
  have N5 := News.push F4 N4 { cls := .type "tuple", data := .seq #[code] }
  have F5 := F4.push { cls := .type "tuple", data := .seq #[code] }
  have hd5 := Obj.data_mapFields hd (·.setIfInBounds 0 (Value.ref h4.objs.size))
  have hq4 : q < h4.objs.size := Heap.lt_size (N4 _ (.head _)).1
  have hs4 : so < h4.objs.size := Heap.lt_size (N4 _ (.tail _ (.head _))).1
  have he4 : e < h4.objs.size := Heap.lt_size (N4 _ (.tail _ (.tail _ (.head _)))).1
  have hso : e < so := l3 _ (.head _)
  have hqs : so < q := by rw [← hq]; exact Heap.lt_size (N3 _ (.head _)).1
  obtain ⟨F6, N6⟩ := news_upd (f := Obj.mapFields (·.setIfInBounds 0 (.ref h4.objs.size))) (d := e) (pre := [(h4.objs.size, { cls := .type "tuple", data := .seq #[code] }), (q, wrapObj e), (so, ks_superObj 34 e 34)]) (post := []) F5 N5 (by
      intro p hp
      simp only [List.mem_cons, List.not_mem_nil, or_false] at hp
      rcases hp with rfl | rfl | rfl
      · exact Nat.ne_of_gt he4
      · exact Nat.ne_of_gt (Nat.lt_trans hso hqs)
      · exact Nat.ne_of_gt hso) (fun _ h => nomatch h) rfl (Obj.isFreed_of_fields hd5)
  generalize hoe1 : Obj.mapFields (fun x => x.setIfInBounds 0 (Value.ref h4.objs.size)) oe = oe1 at N6 hd5
  have hc1 : oe1.cls = .ref 34 := by rw [← hoe1, Obj.cls_mapFields, hcl]
  have hdn1 : oe1.dict = none := by rw [← hoe1, dict_mapFields, hdn]
  have h11 : (vs.setIfInBounds 0 (Value.ref h4.objs.size))[1]? = some .none := by rw [Array.getElem?_setIfInBounds_ne (by decide)]; exact h1
  generalize vs.setIfInBounds 0 (Value.ref h4.objs.size) = vs1 at hd5 h11
  have N7 : News g L _ [(e, oe1)] := news_sub N6 fun p hp => List.mem_append_right _ hp
  clear N6 N5
  refine wpAt_of_wpAny ?_
  (repeat' (first | (k_unfold; (try dsimp only)) | ((fail_if_success (with_reducible show wpAny _ _ (setItem _ _ _) _ _ _)); (((with_reducible show wpAny _ _ _ _ _ _); (fail_if_success (with_reducible show wpAny _ _ (exec (Stmt.While _ _ _ _) _) _ _ _)); (fail_if_success (with_reducible show wpAny _ _ (exec (Stmt.Raise _ _ _) _) _ _ _)); (fail_if_success (with_reducible show wpAny _ _ (exec (Stmt.Try _ _ _ _ _) _) _ _ _)); (fail_if_success (with_reducible show wpAny _ _ (exec (Stmt.For _ _ _ _ _) _) _ _ _)); (fail_if_success (with_reducible show wpAny _ _ (call (Value.ref _) _) _ _ _)); (fail_if_success (with_reducible show wpAny _ _ (call (Value.builtin "dict.pop") _) _ _ _)); (fail_if_success (with_reducible show wpAny _ _ (eval (Expr.ListComp _ _ _ _) _) _ _ _)); (fail_if_success (with_reducible show wpAny _ _ (exec (Stmt.Assign _ (Expr.ListComp _ _ _ _) _) _) _ _ _)); (fail_if_success (with_reducible show wpAny _ _ (call (Value.builtin "sorted") _) _ _ _)); (fail_if_success (with_reducible show wpAny _ _ (call (Value.type "list") [Value.ref _]) _ _ _)); (fail_if_success (with_reducible show wpAny _ _ (call (Value.type "dict") [Value.ref _]) _ _ _)); (try dsimp only); walk1))) | (first | ((with_reducible show ite _ _ _); walk1) | ((with_reducible show _ ∧ _); walk1) | (leave1; (try dsimp only)) | (dsimp only [InvPostN]) | fail "no step")))
  refine exc_set_first c0 F6 N7 hc1 hdn1 hd5 (.head fun _ h => nomatch h) (by k_is) ?_
  intro h8 t8 dx F8 N8 ne8
  (try dsimp only at N8)
  (try dsimp only)
  (repeat' (first | (k_unfold; (try dsimp only)) | ((fail_if_success (with_reducible show wpAny _ _ (setItem _ _ _) _ _ _)); (((with_reducible show wpAny _ _ _ _ _ _); (fail_if_success (with_reducible show wpAny _ _ (exec (Stmt.While _ _ _ _) _) _ _ _)); (fail_if_success (with_reducible show wpAny _ _ (exec (Stmt.Raise _ _ _) _) _ _ _)); (fail_if_success (with_reducible show wpAny _ _ (exec (Stmt.Try _ _ _ _ _) _) _ _ _)); (fail_if_success (with_reducible show wpAny _ _ (exec (Stmt.For _ _ _ _ _) _) _ _ _)); (fail_if_success (with_reducible show wpAny _ _ (call (Value.ref _) _) _ _ _)); (fail_if_success (with_reducible show wpAny _ _ (call (Value.builtin "dict.pop") _) _ _ _)); (fail_if_success (with_reducible show wpAny _ _ (eval (Expr.ListComp _ _ _ _) _) _ _ _)); (fail_if_success (with_reducible show wpAny _ _ (exec (Stmt.Assign _ (Expr.ListComp _ _ _ _) _) _) _ _ _)); (fail_if_success (with_reducible show wpAny _ _ (call (Value.builtin "sorted") _) _ _ _)); (fail_if_success (with_reducible show wpAny _ _ (call (Value.type "list") [Value.ref _]) _ _ _)); (fail_if_success (with_reducible show wpAny _ _ (call (Value.type "dict") [Value.ref _]) _ _ _)); (try dsimp only); walk1))) | (first | ((with_reducible show ite _ _ _); walk1) | ((with_reducible show _ ∧ _); walk1) | (leave1; (try dsimp only)) | (dsimp only [InvPostN]) | fail "no step")))
  rename Fr _ _ _ _ => F9
  rename News _ _ _ _ => N9
  refine exc_set_next c0 F9 N9 (.tail _ (.head _)) hc1 rfl hd5 (.head fun p hp => ?_) rfl (Nat.le_of_ble_eq_true rfl) (by k_is) ?_
  · rw [List.mem_singleton.mp hp]; exact ne8 (e, oe1) (.head _)
  intro h10 t10 F10 N10
  (try dsimp only)
  (repeat' (first | (k_unfold; (try dsimp only)) | ((fail_if_success (with_reducible show wpAny _ _ (setItem _ _ _) _ _ _)); (((with_reducible show wpAny _ _ _ _ _ _); (fail_if_success (with_reducible show wpAny _ _ (exec (Stmt.While _ _ _ _) _) _ _ _)); (fail_if_success (with_reducible show wpAny _ _ (exec (Stmt.Raise _ _ _) _) _ _ _)); (fail_if_success (with_reducible show wpAny _ _ (exec (Stmt.Try _ _ _ _ _) _) _ _ _)); (fail_if_success (with_reducible show wpAny _ _ (exec (Stmt.For _ _ _ _ _) _) _ _ _)); (fail_if_success (with_reducible show wpAny _ _ (call (Value.ref _) _) _ _ _)); (fail_if_success (with_reducible show wpAny _ _ (call (Value.builtin "dict.pop") _) _ _ _)); (fail_if_success (with_reducible show wpAny _ _ (eval (Expr.ListComp _ _ _ _) _) _ _ _)); (fail_if_success (with_reducible show wpAny _ _ (exec (Stmt.Assign _ (Expr.ListComp _ _ _ _) _) _) _ _ _)); (fail_if_success (with_reducible show wpAny _ _ (call (Value.builtin "sorted") _) _ _ _)); (fail_if_success (with_reducible show wpAny _ _ (call (Value.type "list") [Value.ref _]) _ _ _)); (fail_if_success (with_reducible show wpAny _ _ (call (Value.type "dict") [Value.ref _]) _ _ _)); (try dsimp only); walk1))) | (first | ((with_reducible show ite _ _ _); walk1) | ((with_reducible show _ ∧ _); walk1) | (leave1; (try dsimp only)) | (dsimp only [InvPostN]) | fail "no step")))
  exact h h10 _ dx _ _ _ _ _ (On.mk2 F10.keep (Fr.size F10) (all_cons (led_goal N10 (.tail _ (.head _))) (all_cons (led_goal N10 (.head _)) all_nil))) hc1 rfl hd5 h11 (ne8 (e, oe1) (.head _)) (fields_of _ rfl (Nat.le_of_ble_eq_true rfl)) rfl

section
variable {prog : Program} {w : World} {A : Around} {E : Value → Shared → Prop} {env : Env}
theorem raise_made {s : Shared} {x : Sem Value} {Q : Flow → Shared → Prop} (hh : A.handled = none)
    (h : wpAny (model prog w) A x (fun v s₁ => ∃ e oe vs, v = .ref e ∧ (Mine.hd.heap_39 w.params).In s₁.heap ∧ s₁.heap.get? e = some oe ∧ oe.cls = .ref 34 ∧ oe.data = .fields vs ∧ vs[1]? = some .none ∧ E (.ref e) s₁) E s) :
    wpAny (model prog w) A (raiseStmt env (some x) none) Q E s := by
  unfold raiseStmt
  refine wpAny_bind (wpAny_mono h (fun v s₁ h₁ => ?_) fun _ _ x => x)
  obtain ⟨e, oe, vs, rfl, X, he, hcl, hd, h1, hE⟩ := h₁
  obtain ⟨nm, q, bs, hdct, sn, sub, ab, col, ddc, k0, k1, k2, k3, k5, hC⟩ := exc_class X
  obtain ⟨hp, g, d, tk, os⟩ := s₁
  obtain ⟨oc, od, odt, osl⟩ := oe
  dsimp only at hcl hd
  subst hcl hd
  have hcB : (Value.ref 34 :: [Value.type "Exception", Value.type "BaseException", Value.type "object"]).contains (.type "BaseException") = true := by decide
  repeat (first | with_reducible refine wpAny_loadPart_at he ?_ | with_reducible refine wpAny_loadPart_at hC ?_ | (with_reducible refine wpAny_isSubtype_exc hC ?_; rw [hcB]) | with_reducible refine wpAny_field he rfl h1 ?_ | wp_step)
  exact wpAny_raiseNew_none hh hE
end
theorem ns_some {K : Frag} {h : Heap} {N : Addr} {mg : Str → Option Value} {n : Str} {v : Value} (X : K.In h) (G : h.Ns N mg) (e : nsIn K N n = some (some v)) : mg n = some v := by
  obtain ⟨o, es, ep, ho, hd, _, hf⟩ := G
  unfold nsIn at e
  split at e
  · rename_i q
    have := X _ _ q
    rw [ho] at this
    cases this
    cases hd
    split at e
    · rename_i he
      cases e
      rw [← hf]
      unfold nsFind findBy
      rw [← Array.find?_toList, he]
      rfl
    · split at e <;> cases e
  · cases e
theorem basic_new {prog : Program} {w : World} {mean : ExcName → Option Value} {mg mb : Str → Option Value} {A : Around} {s : Shared} {Q E : Value → Shared → Prop} {code told : Value}
    (px : PX prog) (c : Cx w mean mg mb s.heap) (r : Rm A 4)
    (h : ∀ h' tk e, NewErr s.heap code e h' → Q (.ref e) { s with heap := h', toks := tk }) :
    wpAny (model prog w) A (call (.ref 34) [code, told]) Q E s := by
  obtain ⟨hh, gg, dd, tt, os⟩ := s
  have X : (Mine.hd.heap_39 w.params).In hh := c.X
  obtain ⟨rd, ru, rh⟩ := r
  obtain ⟨nm, q, bs, hdct, sn, sub, ab, col, ddc, k0, k1, k2, k3, k5, hC⟩ := exc_class X
  have hN : hh.Ns 33 (hh.nsMap 33) := .of_isNs (isNs_of_in X (by kernel_rfl))
  have hi : nsIn (Mine.hd.heap_39 w.params) 33 "__init__" = some (some (.ref 31)) := by k_is
  obtain ⟨oI, hfI, hfc⟩ : ∃ oI, hh.get? 31 = some oI ∧ oI.cls = .type "function" := ⟨_, X 31 _ (by rfl), rfl⟩
  obtain ⟨g, g1, g2⟩ := trim _ hh rfl
  have hu : (Code.builtin "type.__call__" (Args.mk [Value.ref 34, code, told] [])).cUnits ≤ 30 := Nat.le_of_ble_eq_true rfl
  refine wpAny_call_exc_init PySem.F.excBase_Exception hC hN (ns_some X hN hi) hfI hfc (fun h' e hm => ?_) (by show 2 ≤ sizeLine; rw [sizeLine_eq]; omega)
  obtain ⟨t, he, _, _⟩ := hm.there
  have on : On g [(e, { cls := .ref 34, data := .fields #[.ref t, .none, .none, .none, .bool false, .none] })] h' := ⟨fun b o q => hm.keeps b o ((g1 b).symm.trans q), g2 h' hm.keeps, fun p hp => by rw [List.mem_singleton.mp hp]; exact ⟨he, (g1 e).trans hm.new⟩⟩
  refine binit_spec (s := ⟨h', gg, dd, tt, os⟩) px (c.keeps fun b o q => (g1 b).trans q) ⟨?_, ?_, ?_⟩ on rfl rfl rfl rfl rfl fun h2 tk dx es n f oe' vs' on2 a1 a2 a3 a4 a5 a6 a7 => ⟨rfl, h h2 tk e ⟨fun b o q => on2.keep b o ((g1 b).trans q), dx, es, n, f, oe', vs', (on2.led _ (.head _)).1, hm.new, (on2.led _ (.tail _ (.head _))).1, (g1 dx).symm.trans (on2.led _ (.tail _ (.head _))).2, a1, a2, a3, a4, a5, a6, a7⟩⟩
  · show A.depth + 1 + 2 < _; omega
  · show A.units + _ + _ < _; omega
  · exact rh

theorem raise_stmt {prog : Program} {w : World} {A : Around} {E : Value → Shared → Prop} {env : Env} {s : Shared} {x : Expr} {pos : Pos} {Q : Flow → Shared → Prop} (hh : A.handled = none)
    (h : wpAny (model prog w) A (eval x env) (fun v s₁ => ∃ e oe vs, v = .ref e ∧ (Mine.hd.heap_39 w.params).In s₁.heap ∧ s₁.heap.get? e = some oe ∧ oe.cls = .ref 34 ∧ oe.data = .fields vs ∧ vs[1]? = some .none ∧ E (.ref e) s₁) E s) :
    wpAny (model prog w) A (exec (.Raise (some x) none pos) env) Q E s := by
  rw [arm_exec_Raise]
  refine wpAny_bind (wpAny_standAt (raise_made hh ?_))
  refine wpAny_bind (wpAny_mono h (fun v s₃ h₃ => wpAny_bind (wpAny_standAt (wpAny_pure h₃))) fun _ _ x => x)

theorem FF.here {h : Heap} {L : Addr} {m : Str → Option Value} {env : Env} {outer : List Env} (hn : h.Ns L m) (hff : FF h outer) (hk : env.scope.kind ≠ .module) (hf : env.frame = some L) : FF h (env :: outer) := by
  obtain ⟨oL, es, ep, eL, hd, _⟩ := hn
  have hm : (env :: outer).filterMap (·.frame) = L :: outer.filterMap (·.frame) := by rw [List.filterMap_cons, hf]
  refine ⟨hk, ⟨L, oL, hf, ?_, eL, fun vs q => by rw [hd] at q; cases q⟩, funFrames_to (fun _ _ q => q) hff fun b hb => ?_⟩
  · rw [hm]; exact holes_none (.head _)
  · rw [hm]; exact holes_none (.tail _ hb)
section
variable {prog : Program} {w : World} {mean : ExcName → Option Value} {mg mb : Str → Option Value} {A : Around} {E : Value → Shared → Prop} {s : Shared} {env : Env} {outer : List Env} {L e : Addr} {code : Value} {Q : Flow → Shared → Prop} {g h : Heap} {m : Str → Option Value} {news : List (Addr × Obj)}
/-- what a caught BasicError is -/
structure GotErr (code : Value) (e : Addr) (oe : Obj) (dx : Addr) (od : Obj) : Prop where
  cls : oe.cls = .ref 34
  dict : oe.dict = some dx
  data : ∃ vs, oe.data = .fields vs
  fields : ∃ es n f, od = W.dictOf es n ∧ FieldsAre es f ∧ f (Str.ofString "code") = some code
  ne : e ≠ dx
theorem catchX {t : Expr} {n : Str} {b₀ : Stmt} {suite : List Stmt} {pos : Pos} {rest : List ExceptHandler} (hA : A.frames = some (env :: outer)) (hf : env.frame = some L) (hL : env.locals = L) (hlo : env.kindOf n = some .local)
    (hp : (env.scope.kind == .class || (env.scope.kind == .module && env.locals != env.globals)) = false)
    (c : Cx w mean mg mb g) (F : Fr g L h m) (N : News g L h news) (hgf : ∀ b ∈ outer.filterMap (·.frame), g.get? b = none) (hnf : ∀ p ∈ news, p.1 ∉ outer.filterMap (·.frame)) (R : Raised h (env :: outer) code e s.heap)
    (test : ∀ (s₁ : Shared) (Q' : Value → Shared → Prop) (E' : Value → Shared → Prop), Fr g L s₁.heap m → Q' (.ref 34) s₁ → wpAny (model prog w) (A.mark (some (.ref e))) (eval t env) Q' E' s₁)
    (k : ∀ h' tk oe dx od, Fr g L h' (fun y => if y = n then some (.ref e) else m y) → News g L h' ((e, oe) :: (dx, od) :: news) → GotErr code e oe dx od → (∀ p ∈ news, p.1 ≠ e ∧ p.1 ≠ dx) → FF h' outer →
      wpAny (model prog w) (A.mark (some (.ref e))) (execs (b₀ :: suite) env) (fun f s₄ => wpAny (model prog w) A (do bindName env n .none; unbindBehindTheSuite env n pos) (fun _ s₅ => Q f s₅) E s₄) (fun _ _ => False) { s with heap := h', toks := tk }) :
    wpAny (model prog w) A (noteFrame (.ref e) env) (fun _ s₂ => wpAny (model prog w) A (setFlight (.ref e) none) (fun _ s₃ =>
      wpAny (model prog w) A (handleBy (.ref e) env (.ExceptHandler (some t) (some n) (b₀ :: suite) pos :: rest)) Q E s₃) E s₂) E s := by
  obtain ⟨G, dx, es, nn, f, hG0, hG, hGe, hhe, hl, fl, up, hdx, hhd, hfa, hco⟩ := R.is
  have hm : (env :: outer).filterMap (·.frame) = L :: outer.filterMap (·.frame) := by rw [List.filterMap_cons, hf]
  have keepG : ∀ b o, g.get? b = some o → G.get? b = some o := fun b o hb => hG0 b o (F.keep _ _ hb) fun hm' => by
    rw [hm] at hm'
    rcases List.mem_cons.mp hm' with rfl | hm'
    · exact fr_ne F hb rfl
    · rw [hgf b hm'] at hb; cases hb
  have newsG : ∀ p ∈ news, G.get? p.1 = some p.2 := fun p hp' => hG0 p.1 p.2 (N p hp').1 fun hm' => by
    rw [hm] at hm'
    rcases List.mem_cons.mp hm' with q | hm'
    · exact (N p hp').2.1 q
    · exact hnf p hp' hm'
  have hLG : G.get? L = none := (Heap.FunFrames.mem hl (by rw [hm]; exact .head _)).1
  have toF : ∀ h', (∀ b o, G.get? b = some o → h'.get? b = some o) → s.heap.UpToSlots h' → Fr g L h' m := fun h' kk uu => ⟨(up.trans uu).ns F.ns, fun b o hb => kk b o (keepG b o hb), F.above⟩
  refine note_nextX hA hl hf hG hGe fl fun h2 k2 u2 f2 => ?_
  refine flightX (s := { s with heap := h2 }) k2 f2 fun h3 k3 u3 f3 => ?_
  refine wpAny_handleBy_cons (codeAny_handlers_test (test _ _ _ (toF h3 k3 (u2.trans u3)) ?_)) (by intro q; cases q)
  have X3 : (Mine.hd.heap_39 w.params).In h3 := c.X.keeps fun b o hb => k3 b o (keepG b o hb)
  have LT : Looks (model prog w) h3 (typeOf (.ref e)) (.ref 34) := by
    obtain ⟨oe, vs, T, oT, ts, he, hc, _⟩ := f3
    exact hc ▸ (Looks.ld he).andThen .now
  have hx : exmOne (Mine.hd.heap_39 w.params) (.ref 34) (.ref 34) = some true := by rfl
  refine (exm_one X3 LT hx).here (codeAny_handlers_suite_as ?_)
  refine flightX (s := { s with heap := h3 }) k3 f3 fun h4 k4 u4 f4 => ?_
  have F4 : Fr g L h4 m := toF h4 k4 (u2.trans (u3.trans u4))
  subst hL
  refine wpAny_storeName_local hlo F4.ns (fun h5 hn5 hs5 => ?_) hp
  obtain ⟨oe, vs, T, oT, ts, he, hc, hdd, hd, _⟩ := f4
  have heL : e ≠ env.locals := fun q => by
    obtain ⟨oL, _, _, eL, _⟩ := F.ns
    rw [q, eL] at hhe; cases hhe
  have hdL : dx ≠ env.locals := fun q => by
    obtain ⟨oL, _, _, eL, _⟩ := F.ns
    rw [q, eL] at hhd; cases hhd
  refine wpAny_mono (k h5 _ oe dx (W.dictOf es nn) (F4.set hn5 hs5) (fun p hp' => ?_) ⟨hc, hdd, ⟨vs, hd⟩, ⟨es, nn, f, rfl, hfa, hco⟩, fun q => by rw [q, hdx] at hGe; cases hGe⟩ (fun p hp' => ⟨?_, ?_⟩) ?_) (fun _ _ y => y) fun _ _ y => y.elim
  · rcases List.mem_cons.mp hp' with rfl | hp'
    · exact ⟨(hs5.2 _ heL).trans he, heL, fresh_of F hhe⟩
    · rcases List.mem_cons.mp hp' with rfl | hp'
      · exact ⟨(hs5.2 _ hdL).trans (k4 _ _ hdx), hdL, fresh_of F hhd⟩
      · exact ⟨(hs5.2 _ (N p hp').2.1).trans (k4 _ _ (newsG p hp')), (N p hp').2⟩
  · intro q; have := newsG p hp'; rw [q, hGe] at this; cases this
  · intro q; have := (N p hp').1; rw [q, hhd] at this; cases this
  · refine funFrames_up (fun b o hb hn => ?_) hl.2.2 fun b hb => holes_none hb
    obtain ⟨sl, z⟩ := (u2.trans (u3.trans u4)) b o hb hn
    by_cases hbL : b = env.locals
    · subst hbL
      obtain ⟨o5, es5, ep5, e5, d5, _⟩ := hn5
      exact ⟨o5, e5, fun vs q => by rw [d5] at q; cases q⟩
    · exact ⟨_, (hs5.2 b hbL).trans z, hn⟩
end

theorem pnamed_ok {prog : Program} {w : World} {mean : ExcName → Option Value} {mg mb : Str → Option Value} {A : Around} {s : Shared} {Q E : Value → Shared → Prop} {x dx dF : Addr} {f : Str → Option Value} {kvs : List (Str × Value)} {name tx : Str} {tn tt : Tok} {rows : List RowD}
    (c : Cx w mean mg mb s.heap) (r : Rm A 6) (wa : WAt s.heap x dx f) (hf : f (Str.ofString "files") = some (.ref dF)) (hd : s.heap.DictOf (PySem.strKind prog w) dF kvs) (lo : (dF == sysModules) = false) (hv : valueAt kvs name = some (.str tx tt))
    (hx : tx.length ≤ 1048576) (hs : Txt.split tx (Str.ofString "\n") = rows.map RowD.str) (hok : ∀ r ∈ rows, r.Ok) (hlen : rows.length ≤ 1000)
    (h : ∀ h' tk a, (∀ b o, s.heap.get? b = some o → h'.get? b = some o) → s.heap.get? a = none → ProgAt prog w h' a (rows.foldl loadStep []) → Q (.ref a) { s with heap := h', toks := tk }) :
    wpAny (model prog w) A (call (.ref 70) [.ref x, .str name tn]) Q E s := by
  have c0 := c
  obtain ⟨X, T⟩ := c
  have rm := r
  obtain ⟨rd, ru, rh⟩ := r
  obtain ⟨ah, ad, af, ag, au⟩ := A
  dsimp only at rd ru rh
  subst rh
  refine wpAny_call ?_
  k_dflt (refine' enter0 (binds := [(Str.ofString "world", .ref x), (Str.ofString "name", .str name tn)]) X T ?k6 ?k7 ?k8 ?k9 ?kB ?_ ?c2 ?c3 ?c4 ?c5; (((case k6 => k_is); (case k7 => k_is); (case k8 => ((try dsimp only); omega)); (case k9 => exact BindsTo.of_eq rfl); (case c5 => decide); (case kB => exact locs rfl); (case c2 => exact rfl); (case c3 => exact rfl); (case c4 => exact rfl))))
  intro L h1 F N
  rw [lk2] at F
  dsimp only
  k_fold
  (repeat' (first | (k_unfold; (try dsimp only)) | ((fail_if_success (with_reducible show wpAny _ _ (setItem _ _ _) _ _ _)); (((with_reducible show wpAny _ _ _ _ _ _); (fail_if_success (with_reducible show wpAny _ _ (exec (Stmt.While _ _ _ _) _) _ _ _)); (fail_if_success (with_reducible show wpAny _ _ (exec (Stmt.Raise _ _ _) _) _ _ _)); (fail_if_success (with_reducible show wpAny _ _ (exec (Stmt.Try _ _ _ _ _) _) _ _ _)); (fail_if_success (with_reducible show wpAny _ _ (exec (Stmt.For _ _ _ _ _) _) _ _ _)); (fail_if_success (with_reducible show wpAny _ _ (call (Value.ref _) _) _ _ _)); (fail_if_success (with_reducible show wpAny _ _ (call (Value.builtin "dict.pop") _) _ _ _)); (fail_if_success (with_reducible show wpAny _ _ (eval (Expr.ListComp _ _ _ _) _) _ _ _)); (fail_if_success (with_reducible show wpAny _ _ (exec (Stmt.Assign _ (Expr.ListComp _ _ _ _) _) _) _ _ _)); (fail_if_success (with_reducible show wpAny _ _ (call (Value.builtin "sorted") _) _ _ _)); (fail_if_success (with_reducible show wpAny _ _ (call (Value.type "list") [Value.ref _]) _ _ _)); (fail_if_success (with_reducible show wpAny _ _ (call (Value.type "dict") [Value.ref _]) _ _ _)); (try dsimp only); walk1))) | (first | ((with_reducible show ite _ _ _); walk1) | ((with_reducible show _ ∧ _); walk1) | (leave1; (try dsimp only)) | (dsimp only [InvPostN]) | fail "no step")))
  have wn : Str.ofString "files" ∈ worldNames := by decide +kernel
  rename Fr _ _ _ _ => F2
  refine wgetW (c0.keeps F2.keep) (wa.keep F2.keep) wn hf rfl ?_
  (try dsimp only)
  refine wpAny_notIn_of (knd := PySem.strKind prog w) (strKind_is _ _ _ _) lo (hd.keep F2.keep).mapOf ?_
  rw [hv]
  simp only [Option.isSome_some, Bool.not_true]
  (try dsimp only)
  (repeat' (first | (k_unfold; (try dsimp only)) | ((fail_if_success (with_reducible show wpAny _ _ (setItem _ _ _) _ _ _)); (((with_reducible show wpAny _ _ _ _ _ _); (fail_if_success (with_reducible show wpAny _ _ (exec (Stmt.While _ _ _ _) _) _ _ _)); (fail_if_success (with_reducible show wpAny _ _ (exec (Stmt.Raise _ _ _) _) _ _ _)); (fail_if_success (with_reducible show wpAny _ _ (exec (Stmt.Try _ _ _ _ _) _) _ _ _)); (fail_if_success (with_reducible show wpAny _ _ (exec (Stmt.For _ _ _ _ _) _) _ _ _)); (fail_if_success (with_reducible show wpAny _ _ (call (Value.ref _) _) _ _ _)); (fail_if_success (with_reducible show wpAny _ _ (call (Value.builtin "dict.pop") _) _ _ _)); (fail_if_success (with_reducible show wpAny _ _ (eval (Expr.ListComp _ _ _ _) _) _ _ _)); (fail_if_success (with_reducible show wpAny _ _ (exec (Stmt.Assign _ (Expr.ListComp _ _ _ _) _) _) _ _ _)); (fail_if_success (with_reducible show wpAny _ _ (call (Value.builtin "sorted") _) _ _ _)); (fail_if_success (with_reducible show wpAny _ _ (call (Value.type "list") [Value.ref _]) _ _ _)); (fail_if_success (with_reducible show wpAny _ _ (call (Value.type "dict") [Value.ref _]) _ _ _)); (try dsimp only); walk1))) | (first | ((with_reducible show ite _ _ _); walk1) | ((with_reducible show _ ∧ _); walk1) | (leave1; (try dsimp only)) | (dsimp only [InvPostN]) | fail "no step")))
  rename Fr _ _ _ _ => F3
  refine wgetW (c0.keeps F3.keep) (wa.keep F3.keep) wn hf rfl ?_
  (try dsimp only)
  (repeat' (first | (k_unfold; (try dsimp only)) | ((fail_if_success (with_reducible show wpAny _ _ (setItem _ _ _) _ _ _)); (((with_reducible show wpAny _ _ _ _ _ _); (fail_if_success (with_reducible show wpAny _ _ (exec (Stmt.While _ _ _ _) _) _ _ _)); (fail_if_success (with_reducible show wpAny _ _ (exec (Stmt.Raise _ _ _) _) _ _ _)); (fail_if_success (with_reducible show wpAny _ _ (exec (Stmt.Try _ _ _ _ _) _) _ _ _)); (fail_if_success (with_reducible show wpAny _ _ (exec (Stmt.For _ _ _ _ _) _) _ _ _)); (fail_if_success (with_reducible show wpAny _ _ (call (Value.ref _) _) _ _ _)); (fail_if_success (with_reducible show wpAny _ _ (call (Value.builtin "dict.pop") _) _ _ _)); (fail_if_success (with_reducible show wpAny _ _ (eval (Expr.ListComp _ _ _ _) _) _ _ _)); (fail_if_success (with_reducible show wpAny _ _ (exec (Stmt.Assign _ (Expr.ListComp _ _ _ _) _) _) _ _ _)); (fail_if_success (with_reducible show wpAny _ _ (call (Value.builtin "sorted") _) _ _ _)); (fail_if_success (with_reducible show wpAny _ _ (call (Value.type "list") [Value.ref _]) _ _ _)); (fail_if_success (with_reducible show wpAny _ _ (call (Value.type "dict") [Value.ref _]) _ _ _)); (try dsimp only); walk1))) | (first | ((with_reducible show ite _ _ _); walk1) | ((with_reducible show _ ∧ _); walk1) | (leave1; (try dsimp only)) | (dsimp only [InvPostN]) | fail "no step")))
  rename Fr _ _ _ _ => F4
  refine dict_item (knd := PySem.strKind prog w) (hd.keep F4.keep) (strKind_is _ _ _ _) hv ?_
  (try dsimp only)
  (repeat' (first | (k_unfold; (try dsimp only)) | ((fail_if_success (with_reducible show wpAny _ _ (setItem _ _ _) _ _ _)); (((with_reducible show wpAny _ _ _ _ _ _); (fail_if_success (with_reducible show wpAny _ _ (exec (Stmt.While _ _ _ _) _) _ _ _)); (fail_if_success (with_reducible show wpAny _ _ (exec (Stmt.Raise _ _ _) _) _ _ _)); (fail_if_success (with_reducible show wpAny _ _ (exec (Stmt.Try _ _ _ _ _) _) _ _ _)); (fail_if_success (with_reducible show wpAny _ _ (exec (Stmt.For _ _ _ _ _) _) _ _ _)); (fail_if_success (with_reducible show wpAny _ _ (call (Value.ref _) _) _ _ _)); (fail_if_success (with_reducible show wpAny _ _ (call (Value.builtin "dict.pop") _) _ _ _)); (fail_if_success (with_reducible show wpAny _ _ (eval (Expr.ListComp _ _ _ _) _) _ _ _)); (fail_if_success (with_reducible show wpAny _ _ (exec (Stmt.Assign _ (Expr.ListComp _ _ _ _) _) _) _ _ _)); (fail_if_success (with_reducible show wpAny _ _ (call (Value.builtin "sorted") _) _ _ _)); (fail_if_success (with_reducible show wpAny _ _ (call (Value.type "list") [Value.ref _]) _ _ _)); (fail_if_success (with_reducible show wpAny _ _ (call (Value.type "dict") [Value.ref _]) _ _ _)); (try dsimp only); walk1))) | (first | ((with_reducible show ite _ _ _); walk1) | ((with_reducible show _ ∧ _); walk1) | (leave1; (try dsimp only)) | (dsimp only [InvPostN]) | fail "no step")))
  rename Fr _ _ _ _ => F5
  refine loaded_spec (c0.keeps F5.keep) (rm.deep (by decide)) hx hs hok hlen ?_
  intro h6 tk6 a k6 n6 p6
  (try dsimp only)
  (repeat' (first | (k_unfold; (try dsimp only)) | ((fail_if_success (with_reducible show wpAny _ _ (setItem _ _ _) _ _ _)); (((with_reducible show wpAny _ _ _ _ _ _); (fail_if_success (with_reducible show wpAny _ _ (exec (Stmt.While _ _ _ _) _) _ _ _)); (fail_if_success (with_reducible show wpAny _ _ (exec (Stmt.Raise _ _ _) _) _ _ _)); (fail_if_success (with_reducible show wpAny _ _ (exec (Stmt.Try _ _ _ _ _) _) _ _ _)); (fail_if_success (with_reducible show wpAny _ _ (exec (Stmt.For _ _ _ _ _) _) _ _ _)); (fail_if_success (with_reducible show wpAny _ _ (call (Value.ref _) _) _ _ _)); (fail_if_success (with_reducible show wpAny _ _ (call (Value.builtin "dict.pop") _) _ _ _)); (fail_if_success (with_reducible show wpAny _ _ (eval (Expr.ListComp _ _ _ _) _) _ _ _)); (fail_if_success (with_reducible show wpAny _ _ (exec (Stmt.Assign _ (Expr.ListComp _ _ _ _) _) _) _ _ _)); (fail_if_success (with_reducible show wpAny _ _ (call (Value.builtin "sorted") _) _ _ _)); (fail_if_success (with_reducible show wpAny _ _ (call (Value.type "list") [Value.ref _]) _ _ _)); (fail_if_success (with_reducible show wpAny _ _ (call (Value.type "dict") [Value.ref _]) _ _ _)); (try dsimp only); walk1))) | (first | ((with_reducible show ite _ _ _); walk1) | ((with_reducible show _ ∧ _); walk1) | (leave1; (try dsimp only)) | (dsimp only [InvPostN]) | fail "no step")))
  exact h _ _ _ (fun b o q => k6 _ _ (F5.keep _ _ q)) (fresh_of F5 n6) p6

theorem pnamed_ff {prog : Program} {w : World} {mean : ExcName → Option Value} {mg mb : Str → Option Value} {A : Around} {s : Shared} {Q E : Value → Shared → Prop} {x dx dF : Addr} {f : Str → Option Value} {kvs : List (Str × Value)} {name : Str} {tn : Tok} {outer : List Env}
    (px : PX prog) (c : Cx w mean mg mb s.heap) (r : Rm A 8) (hA : A.frames = some outer) (hff : FF s.heap outer) (wa : WAt s.heap x dx f) (hf : f (Str.ofString "files") = some (.ref dF)) (hd : s.heap.DictOf (PySem.strKind prog w) dF kvs) (lo : (dF == sysModules) = false) (hv : valueAt kvs name = none)
    (h : ∀ h' tk e t, Raised s.heap outer (.str (Str.ofString "FF") t) e h' → E (.ref e) { s with heap := h', toks := tk }) :
    wpAny (model prog w) A (call (.ref 70) [.ref x, .str name tn]) Q E s := by
  have c0 := c
  obtain ⟨X, T⟩ := c
  have rm := r
  obtain ⟨rd, ru, rh⟩ := r
  obtain ⟨ah, ad, af, ag, au⟩ := A
  dsimp only at rd ru rh
  subst rh
  refine wpAny_call ?_
  k_dflt (refine' enter_pure (binds := [(Str.ofString "world", .ref x), (Str.ofString "name", .str name tn)]) X T ?k6 ?k7 ?k8 ?k9 ?kB ?_ ?c2 ?c3 ?c4 ?c5; (((case k6 => k_is); (case k7 => k_is); (case k8 => ((try dsimp only); omega)); (case k9 => exact BindsTo.of_eq rfl); (case c5 => decide); (case kB => exact locs rfl); (case c2 => exact rfl); (case c3 => exact rfl); (case c4 => exact rfl))))
  intro L h1 F N
  rw [lk2] at F
  dsimp only
  k_fold
  (repeat' (first | (k_unfold; (try dsimp only)) | ((fail_if_success (with_reducible show wpAny _ _ (setItem _ _ _) _ _ _)); (((with_reducible show wpAny _ _ _ _ _ _); (fail_if_success (with_reducible show wpAny _ _ (exec (Stmt.While _ _ _ _) _) _ _ _)); (fail_if_success (with_reducible show wpAny _ _ (exec (Stmt.Raise _ _ _) _) _ _ _)); (fail_if_success (with_reducible show wpAny _ _ (exec (Stmt.Try _ _ _ _ _) _) _ _ _)); (fail_if_success (with_reducible show wpAny _ _ (exec (Stmt.For _ _ _ _ _) _) _ _ _)); (fail_if_success (with_reducible show wpAny _ _ (call (Value.ref _) _) _ _ _)); (fail_if_success (with_reducible show wpAny _ _ (call (Value.builtin "dict.pop") _) _ _ _)); (fail_if_success (with_reducible show wpAny _ _ (eval (Expr.ListComp _ _ _ _) _) _ _ _)); (fail_if_success (with_reducible show wpAny _ _ (exec (Stmt.Assign _ (Expr.ListComp _ _ _ _) _) _) _ _ _)); (fail_if_success (with_reducible show wpAny _ _ (call (Value.builtin "sorted") _) _ _ _)); (fail_if_success (with_reducible show wpAny _ _ (call (Value.type "list") [Value.ref _]) _ _ _)); (fail_if_success (with_reducible show wpAny _ _ (call (Value.type "dict") [Value.ref _]) _ _ _)); (try dsimp only); walk1))) | (first | ((with_reducible show ite _ _ _); walk1) | ((with_reducible show _ ∧ _); walk1) | (leave1; (try dsimp only)) | (dsimp only [InvPostN]) | fail "no step")))
  have wn : Str.ofString "files" ∈ worldNames := by decide +kernel
  rename Fr _ _ _ _ => F2
  refine wgetW (c0.keeps F2.keep) (wa.keep F2.keep) wn hf rfl ?_
  (try dsimp only)
  refine wpAny_notIn_of (knd := PySem.strKind prog w) (strKind_is _ _ _ _) lo (hd.keep F2.keep).mapOf ?_
  rw [hv]
  simp only [Option.isSome_none, Bool.not_false]
  (try dsimp only)
  (repeat' (first | (k_unfold; (try dsimp only)) | ((fail_if_success (with_reducible show wpAny _ _ (setItem _ _ _) _ _ _)); (((with_reducible show wpAny _ _ _ _ _ _); (fail_if_success (with_reducible show wpAny _ _ (exec (Stmt.While _ _ _ _) _) _ _ _)); (fail_if_success (with_reducible show wpAny _ _ (exec (Stmt.Raise _ _ _) _) _ _ _)); (fail_if_success (with_reducible show wpAny _ _ (exec (Stmt.Try _ _ _ _ _) _) _ _ _)); (fail_if_success (with_reducible show wpAny _ _ (exec (Stmt.For _ _ _ _ _) _) _ _ _)); (fail_if_success (with_reducible show wpAny _ _ (call (Value.ref _) _) _ _ _)); (fail_if_success (with_reducible show wpAny _ _ (call (Value.builtin "dict.pop") _) _ _ _)); (fail_if_success (with_reducible show wpAny _ _ (eval (Expr.ListComp _ _ _ _) _) _ _ _)); (fail_if_success (with_reducible show wpAny _ _ (exec (Stmt.Assign _ (Expr.ListComp _ _ _ _) _) _) _ _ _)); (fail_if_success (with_reducible show wpAny _ _ (call (Value.builtin "sorted") _) _ _ _)); (fail_if_success (with_reducible show wpAny _ _ (call (Value.type "list") [Value.ref _]) _ _ _)); (fail_if_success (with_reducible show wpAny _ _ (call (Value.type "dict") [Value.ref _]) _ _ _)); (try dsimp only); walk1))) | (first | ((with_reducible show ite _ _ _); walk1) | ((with_reducible show _ ∧ _); walk1) | (leave1; (try dsimp only)) | (dsimp only [InvPostN]) | fail "no step")))
  refine raise_stmt rfl ?_
  (repeat' (first | (k_unfold; (try dsimp only)) | ((fail_if_success (with_reducible show wpAny _ _ (setItem _ _ _) _ _ _)); (((with_reducible show wpAny _ _ _ _ _ _); (fail_if_success (with_reducible show wpAny _ _ (exec (Stmt.While _ _ _ _) _) _ _ _)); (fail_if_success (with_reducible show wpAny _ _ (exec (Stmt.Raise _ _ _) _) _ _ _)); (fail_if_success (with_reducible show wpAny _ _ (exec (Stmt.Try _ _ _ _ _) _) _ _ _)); (fail_if_success (with_reducible show wpAny _ _ (exec (Stmt.For _ _ _ _ _) _) _ _ _)); (fail_if_success (with_reducible show wpAny _ _ (call (Value.ref _) _) _ _ _)); (fail_if_success (with_reducible show wpAny _ _ (call (Value.builtin "dict.pop") _) _ _ _)); (fail_if_success (with_reducible show wpAny _ _ (eval (Expr.ListComp _ _ _ _) _) _ _ _)); (fail_if_success (with_reducible show wpAny _ _ (exec (Stmt.Assign _ (Expr.ListComp _ _ _ _) _) _) _ _ _)); (fail_if_success (with_reducible show wpAny _ _ (call (Value.builtin "sorted") _) _ _ _)); (fail_if_success (with_reducible show wpAny _ _ (call (Value.type "list") [Value.ref _]) _ _ _)); (fail_if_success (with_reducible show wpAny _ _ (call (Value.type "dict") [Value.ref _]) _ _ _)); (try dsimp only); walk1))) | (first | ((with_reducible show ite _ _ _); walk1) | ((with_reducible show _ ∧ _); walk1) | (leave1; (try dsimp only)) | (dsimp only [InvPostN]) | fail "no step")))
  rename Fr _ _ _ _ => F5
  refine basic_new px (c0.keeps F5.keep) (rm.deep (by decide)) ?_
  intro h6 tk6 e ne
  have ne' := ne
  obtain ⟨dxe, es, n, fe, oe, vs, he, hen, hdx, hdn, hc, hdd, hdt, h1e, hne, hfa, hco⟩ := ne'.is
  refine ⟨e, oe, vs, rfl, X.keeps fun b o q => ne.keep _ _ (F5.keep _ _ q), he, hc, hdt, h1e, ?_⟩
  refine leave_first (h₀ := s.heap) hA hff F5 (by show ScopeKind.function ≠ ScopeKind.module; decide) rfl ne ?_
  intro h7 R7
  exact h _ _ _ _ R7

theorem fline_none {prog : Program} {w : World} {mean : ExcName → Option Value} {mg mb : Str → Option Value} {A : Around} {s : Shared} {Q E : Value → Shared → Prop} {d : Addr} {P : List (Int × Str)}
    (c : Cx w mean mg mb s.heap) (r : Rm A 3) (hp : ProgAt prog w s.heap d P) (few : P.length < 64)
    (h : ∀ h' tk v, (∀ b o, s.heap.get? b = some o → h'.get? b = some o) → ((P = [] ∧ v = .none) ∨ ∃ M t, v = .int M t ∧ M ∈ P.map (·.1) ∧ ∀ a ∈ P.map (·.1), M ≤ a) → Q v { s with heap := h', toks := tk }) :
    wpAny (model prog w) A (call (.ref 108) [.ref d, .none]) Q E s := by
  have c0 := c
  obtain ⟨X, T⟩ := c
  have rm := r
  obtain ⟨rd, ru, rh⟩ := r
  obtain ⟨ah, ad, af, ag, au⟩ := A
  obtain ⟨lo, kvs, hd, hall, hP⟩ := hp
  have hkeys : kvs.map (·.1) = P.map (·.1) := by rw [← hP, keys_proj]
  have hlen : kvs.length = P.length := by rw [← hP, len_proj]
  dsimp only at rd ru rh
  subst rh
  refine wpAny_call ?_
  k_dflt (refine' enter0 (binds := [(Str.ofString "program", .ref d), (Str.ofString "line", .none)]) X T ?k6 ?k7 ?k8 ?k9 ?kB ?_ ?c2 ?c3 ?c4 ?c5; (((case k6 => k_is); (case k7 => k_is); (case k8 => ((try dsimp only); omega)); (case k9 => exact BindsTo.of_eq rfl); (case c5 => decide); (case kB => exact locs rfl); (case c2 => exact rfl); (case c3 => exact rfl); (case c4 => exact rfl))))
  intro L h1 F N
  rw [lk2] at F
  dsimp only
  k_fold
  (repeat' (first | (k_unfold; (try dsimp only)) | ((fail_if_success (with_reducible show wpAny _ _ (setItem _ _ _) _ _ _)); (((with_reducible show wpAny _ _ _ _ _ _); (fail_if_success (with_reducible show wpAny _ _ (exec (Stmt.While _ _ _ _) _) _ _ _)); (fail_if_success (with_reducible show wpAny _ _ (exec (Stmt.Raise _ _ _) _) _ _ _)); (fail_if_success (with_reducible show wpAny _ _ (exec (Stmt.Try _ _ _ _ _) _) _ _ _)); (fail_if_success (with_reducible show wpAny _ _ (exec (Stmt.For _ _ _ _ _) _) _ _ _)); (fail_if_success (with_reducible show wpAny _ _ (call (Value.ref _) _) _ _ _)); (fail_if_success (with_reducible show wpAny _ _ (call (Value.builtin "dict.pop") _) _ _ _)); (fail_if_success (with_reducible show wpAny _ _ (eval (Expr.ListComp _ _ _ _) _) _ _ _)); (fail_if_success (with_reducible show wpAny _ _ (exec (Stmt.Assign _ (Expr.ListComp _ _ _ _) _) _) _ _ _)); (fail_if_success (with_reducible show wpAny _ _ (call (Value.builtin "sorted") _) _ _ _)); (fail_if_success (with_reducible show wpAny _ _ (call (Value.type "list") [Value.ref _]) _ _ _)); (fail_if_success (with_reducible show wpAny _ _ (call (Value.type "dict") [Value.ref _]) _ _ _)); (try dsimp only); walk1))) | (first | ((with_reducible show ite _ _ _); walk1) | ((with_reducible show _ ∧ _); walk1) | (leave1; (try dsimp only)) | (dsimp only [InvPostN]) | fail "no step")))
  rename Fr _ _ _ _ => F2
  refine call_len_dict (knd := intKind prog w) lo (hd.keep F2.keep) (by omega) ?_
  (try dsimp only)
  (repeat' (first | (k_unfold; (try dsimp only)) | ((fail_if_success (with_reducible show wpAny _ _ (setItem _ _ _) _ _ _)); (((with_reducible show wpAny _ _ _ _ _ _); (fail_if_success (with_reducible show wpAny _ _ (exec (Stmt.While _ _ _ _) _) _ _ _)); (fail_if_success (with_reducible show wpAny _ _ (exec (Stmt.Raise _ _ _) _) _ _ _)); (fail_if_success (with_reducible show wpAny _ _ (exec (Stmt.Try _ _ _ _ _) _) _ _ _)); (fail_if_success (with_reducible show wpAny _ _ (exec (Stmt.For _ _ _ _ _) _) _ _ _)); (fail_if_success (with_reducible show wpAny _ _ (call (Value.ref _) _) _ _ _)); (fail_if_success (with_reducible show wpAny _ _ (call (Value.builtin "dict.pop") _) _ _ _)); (fail_if_success (with_reducible show wpAny _ _ (eval (Expr.ListComp _ _ _ _) _) _ _ _)); (fail_if_success (with_reducible show wpAny _ _ (exec (Stmt.Assign _ (Expr.ListComp _ _ _ _) _) _) _ _ _)); (fail_if_success (with_reducible show wpAny _ _ (call (Value.builtin "sorted") _) _ _ _)); (fail_if_success (with_reducible show wpAny _ _ (call (Value.type "list") [Value.ref _]) _ _ _)); (fail_if_success (with_reducible show wpAny _ _ (call (Value.type "dict") [Value.ref _]) _ _ _)); (try dsimp only); walk1))) | (first | ((with_reducible show ite _ _ _); walk1) | ((with_reducible show _ ∧ _); walk1) | (leave1; (try dsimp only)) | (dsimp only [InvPostN]) | fail "no step")))
  · have hb : (0 : Int) < kvs.length := by assumption
    rename Fr _ _ _ _ => F3
    refine min_dict rfl (hd.keep F3.keep) lo (by omega) ?_
    intro h4 M t tk4 k4 hM hmin
    rw [hkeys] at hM hmin
    (try dsimp only)
    (repeat' (first | (k_unfold; (try dsimp only)) | ((fail_if_success (with_reducible show wpAny _ _ (setItem _ _ _) _ _ _)); (((with_reducible show wpAny _ _ _ _ _ _); (fail_if_success (with_reducible show wpAny _ _ (exec (Stmt.While _ _ _ _) _) _ _ _)); (fail_if_success (with_reducible show wpAny _ _ (exec (Stmt.Raise _ _ _) _) _ _ _)); (fail_if_success (with_reducible show wpAny _ _ (exec (Stmt.Try _ _ _ _ _) _) _ _ _)); (fail_if_success (with_reducible show wpAny _ _ (exec (Stmt.For _ _ _ _ _) _) _ _ _)); (fail_if_success (with_reducible show wpAny _ _ (call (Value.ref _) _) _ _ _)); (fail_if_success (with_reducible show wpAny _ _ (call (Value.builtin "dict.pop") _) _ _ _)); (fail_if_success (with_reducible show wpAny _ _ (eval (Expr.ListComp _ _ _ _) _) _ _ _)); (fail_if_success (with_reducible show wpAny _ _ (exec (Stmt.Assign _ (Expr.ListComp _ _ _ _) _) _) _ _ _)); (fail_if_success (with_reducible show wpAny _ _ (call (Value.builtin "sorted") _) _ _ _)); (fail_if_success (with_reducible show wpAny _ _ (call (Value.type "list") [Value.ref _]) _ _ _)); (fail_if_success (with_reducible show wpAny _ _ (call (Value.type "dict") [Value.ref _]) _ _ _)); (try dsimp only); walk1))) | (first | ((with_reducible show ite _ _ _); walk1) | ((with_reducible show _ ∧ _); walk1) | (leave1; (try dsimp only)) | (dsimp only [InvPostN]) | fail "no step")))
    exact h _ _ _ (fun b o q => k4 _ _ (F3.keep _ _ q)) (.inr ⟨M, t, rfl, hM, hmin⟩)
  · have hb : ¬ (0 : Int) < kvs.length := by assumption
    rename Fr _ _ _ _ => F3
    refine h _ _ _ F3.keep (.inl ⟨List.eq_nil_of_length_eq_zero (by omega), rfl⟩)

theorem fline_in {prog : Program} {w : World} {mean : ExcName → Option Value} {mg mb : Str → Option Value} {A : Around} {s : Shared} {Q E : Value → Shared → Prop} {d : Addr} {P : List (Int × Str)} {k : Int} {tk0 : Tok}
    (c : Cx w mean mg mb s.heap) (r : Rm A 3) (hp : ProgAt prog w s.heap d P) (hk : k ∈ P.map (·.1))
    (h : ∀ h' tk, (∀ b o, s.heap.get? b = some o → h'.get? b = some o) → Q (.int k tk0) { s with heap := h', toks := tk }) :
    wpAny (model prog w) A (call (.ref 108) [.ref d, .int k tk0]) Q E s := by
  have c0 := c
  obtain ⟨X, T⟩ := c
  have rm := r
  obtain ⟨rd, ru, rh⟩ := r
  obtain ⟨ah, ad, af, ag, au⟩ := A
  obtain ⟨lo, kvs, hd, hall, hP⟩ := hp
  have hkeys : kvs.map (·.1) = P.map (·.1) := by rw [← hP, keys_proj]
  have hv : (valueAt kvs k).isSome = true := by rw [valueAt_isSome_eq_any, any_key (P := kvs), hkeys]; simpa using hk
  dsimp only at rd ru rh
  subst rh
  refine wpAny_call ?_
  k_dflt (refine' enter0 (binds := [(Str.ofString "program", .ref d), (Str.ofString "line", .int k tk0)]) X T ?k6 ?k7 ?k8 ?k9 ?kB ?_ ?c2 ?c3 ?c4 ?c5; (((case k6 => k_is); (case k7 => k_is); (case k8 => ((try dsimp only); omega)); (case k9 => exact BindsTo.of_eq rfl); (case c5 => decide); (case kB => exact locs rfl); (case c2 => exact rfl); (case c3 => exact rfl); (case c4 => exact rfl))))
  intro L h1 F N
  rw [lk2] at F
  dsimp only
  k_fold
  (repeat' (first | (k_unfold; (try dsimp only)) | ((fail_if_success (with_reducible show wpAny _ _ (setItem _ _ _) _ _ _)); (((with_reducible show wpAny _ _ _ _ _ _); (fail_if_success (with_reducible show wpAny _ _ (exec (Stmt.While _ _ _ _) _) _ _ _)); (fail_if_success (with_reducible show wpAny _ _ (exec (Stmt.Raise _ _ _) _) _ _ _)); (fail_if_success (with_reducible show wpAny _ _ (exec (Stmt.Try _ _ _ _ _) _) _ _ _)); (fail_if_success (with_reducible show wpAny _ _ (exec (Stmt.For _ _ _ _ _) _) _ _ _)); (fail_if_success (with_reducible show wpAny _ _ (call (Value.ref _) _) _ _ _)); (fail_if_success (with_reducible show wpAny _ _ (call (Value.builtin "dict.pop") _) _ _ _)); (fail_if_success (with_reducible show wpAny _ _ (eval (Expr.ListComp _ _ _ _) _) _ _ _)); (fail_if_success (with_reducible show wpAny _ _ (exec (Stmt.Assign _ (Expr.ListComp _ _ _ _) _) _) _ _ _)); (fail_if_success (with_reducible show wpAny _ _ (call (Value.builtin "sorted") _) _ _ _)); (fail_if_success (with_reducible show wpAny _ _ (call (Value.type "list") [Value.ref _]) _ _ _)); (fail_if_success (with_reducible show wpAny _ _ (call (Value.type "dict") [Value.ref _]) _ _ _)); (try dsimp only); walk1))) | (first | ((with_reducible show ite _ _ _); walk1) | ((with_reducible show _ ∧ _); walk1) | (leave1; (try dsimp only)) | (dsimp only [InvPostN]) | fail "no step")))
  rename Fr _ _ _ _ => F2
  refine wpAny_notIn_of (knd := intKind prog w) (intKind_is _ _ _ _) lo (hd.keep F2.keep).mapOf ?_
  rw [hv]
  simp only [Bool.not_true]
  (try dsimp only)
  (repeat' (first | (k_unfold; (try dsimp only)) | ((fail_if_success (with_reducible show wpAny _ _ (setItem _ _ _) _ _ _)); (((with_reducible show wpAny _ _ _ _ _ _); (fail_if_success (with_reducible show wpAny _ _ (exec (Stmt.While _ _ _ _) _) _ _ _)); (fail_if_success (with_reducible show wpAny _ _ (exec (Stmt.Raise _ _ _) _) _ _ _)); (fail_if_success (with_reducible show wpAny _ _ (exec (Stmt.Try _ _ _ _ _) _) _ _ _)); (fail_if_success (with_reducible show wpAny _ _ (exec (Stmt.For _ _ _ _ _) _) _ _ _)); (fail_if_success (with_reducible show wpAny _ _ (call (Value.ref _) _) _ _ _)); (fail_if_success (with_reducible show wpAny _ _ (call (Value.builtin "dict.pop") _) _ _ _)); (fail_if_success (with_reducible show wpAny _ _ (eval (Expr.ListComp _ _ _ _) _) _ _ _)); (fail_if_success (with_reducible show wpAny _ _ (exec (Stmt.Assign _ (Expr.ListComp _ _ _ _) _) _) _ _ _)); (fail_if_success (with_reducible show wpAny _ _ (call (Value.builtin "sorted") _) _ _ _)); (fail_if_success (with_reducible show wpAny _ _ (call (Value.type "list") [Value.ref _]) _ _ _)); (fail_if_success (with_reducible show wpAny _ _ (call (Value.type "dict") [Value.ref _]) _ _ _)); (try dsimp only); walk1))) | (first | ((with_reducible show ite _ _ _); walk1) | ((with_reducible show _ ∧ _); walk1) | (leave1; (try dsimp only)) | (dsimp only [InvPostN]) | fail "no step")))
  exact h _ _ (Fr.keep (by assumption))

theorem fline_ul {prog : Program} {w : World} {mean : ExcName → Option Value} {mg mb : Str → Option Value} {A : Around} {s : Shared} {Q E : Value → Shared → Prop} {d : Addr} {P : List (Int × Str)} {k : Int} {tk0 : Tok} {outer : List Env}
    (px : PX prog) (c : Cx w mean mg mb s.heap) (r : Rm A 8) (hA : A.frames = some outer) (hff : FF s.heap outer) (hp : ProgAt prog w s.heap d P) (hk : k ∉ P.map (·.1)) (hkn : 0 ≤ k ∧ k ≤ 65529) (hks : (Str.ofString (toString k)).length ≤ 100)
    (h : ∀ h' tk e t, Raised s.heap outer (.str (Str.ofString "UL") t) e h' → E (.ref e) { s with heap := h', toks := tk }) :
    wpAny (model prog w) A (call (.ref 108) [.ref d, .int k tk0]) Q E s := by
  have c0 := c
  obtain ⟨X, T⟩ := c
  have rm := r
  obtain ⟨rd, ru, rh⟩ := r
  obtain ⟨ah, ad, af, ag, au⟩ := A
  obtain ⟨lo, kvs, hd, hall, hP⟩ := hp
  have hkeys : kvs.map (·.1) = P.map (·.1) := by rw [← hP, keys_proj]
  have hv : (valueAt kvs k).isSome = false := by rw [valueAt_isSome_eq_any, any_key (P := kvs), hkeys]; simpa using hk
  dsimp only at rd ru rh
  subst rh
  refine wpAny_call ?_
  k_dflt (refine' enter_pure (binds := [(Str.ofString "program", .ref d), (Str.ofString "line", .int k tk0)]) X T ?k6 ?k7 ?k8 ?k9 ?kB ?_ ?c2 ?c3 ?c4 ?c5; (((case k6 => k_is); (case k7 => k_is); (case k8 => ((try dsimp only); omega)); (case k9 => exact BindsTo.of_eq rfl); (case c5 => decide); (case kB => exact locs rfl); (case c2 => exact rfl); (case c3 => exact rfl); (case c4 => exact rfl))))
  intro L h1 F N
  rw [lk2] at F
  dsimp only
  k_fold
  (repeat' (first | (k_unfold; (try dsimp only)) | ((fail_if_success (with_reducible show wpAny _ _ (setItem _ _ _) _ _ _)); (((with_reducible show wpAny _ _ _ _ _ _); (fail_if_success (with_reducible show wpAny _ _ (exec (Stmt.While _ _ _ _) _) _ _ _)); (fail_if_success (with_reducible show wpAny _ _ (exec (Stmt.Raise _ _ _) _) _ _ _)); (fail_if_success (with_reducible show wpAny _ _ (exec (Stmt.Try _ _ _ _ _) _) _ _ _)); (fail_if_success (with_reducible show wpAny _ _ (exec (Stmt.For _ _ _ _ _) _) _ _ _)); (fail_if_success (with_reducible show wpAny _ _ (call (Value.ref _) _) _ _ _)); (fail_if_success (with_reducible show wpAny _ _ (call (Value.builtin "dict.pop") _) _ _ _)); (fail_if_success (with_reducible show wpAny _ _ (eval (Expr.ListComp _ _ _ _) _) _ _ _)); (fail_if_success (with_reducible show wpAny _ _ (exec (Stmt.Assign _ (Expr.ListComp _ _ _ _) _) _) _ _ _)); (fail_if_success (with_reducible show wpAny _ _ (call (Value.builtin "sorted") _) _ _ _)); (fail_if_success (with_reducible show wpAny _ _ (call (Value.type "list") [Value.ref _]) _ _ _)); (fail_if_success (with_reducible show wpAny _ _ (call (Value.type "dict") [Value.ref _]) _ _ _)); (try dsimp only); walk1))) | (first | ((with_reducible show ite _ _ _); walk1) | ((with_reducible show _ ∧ _); walk1) | (leave1; (try dsimp only)) | (dsimp only [InvPostN]) | fail "no step")))
  rename Fr _ _ _ _ => F2
  refine wpAny_notIn_of (knd := intKind prog w) (intKind_is _ _ _ _) lo (hd.keep F2.keep).mapOf ?_
  rw [hv]
  simp only [Bool.not_false]
  (try dsimp only)
  (repeat' (first | (k_unfold; (try dsimp only)) | ((fail_if_success (with_reducible show wpAny _ _ (setItem _ _ _) _ _ _)); (((with_reducible show wpAny _ _ _ _ _ _); (fail_if_success (with_reducible show wpAny _ _ (exec (Stmt.While _ _ _ _) _) _ _ _)); (fail_if_success (with_reducible show wpAny _ _ (exec (Stmt.Raise _ _ _) _) _ _ _)); (fail_if_success (with_reducible show wpAny _ _ (exec (Stmt.Try _ _ _ _ _) _) _ _ _)); (fail_if_success (with_reducible show wpAny _ _ (exec (Stmt.For _ _ _ _ _) _) _ _ _)); (fail_if_success (with_reducible show wpAny _ _ (call (Value.ref _) _) _ _ _)); (fail_if_success (with_reducible show wpAny _ _ (call (Value.builtin "dict.pop") _) _ _ _)); (fail_if_success (with_reducible show wpAny _ _ (eval (Expr.ListComp _ _ _ _) _) _ _ _)); (fail_if_success (with_reducible show wpAny _ _ (exec (Stmt.Assign _ (Expr.ListComp _ _ _ _) _) _) _ _ _)); (fail_if_success (with_reducible show wpAny _ _ (call (Value.builtin "sorted") _) _ _ _)); (fail_if_success (with_reducible show wpAny _ _ (call (Value.type "list") [Value.ref _]) _ _ _)); (fail_if_success (with_reducible show wpAny _ _ (call (Value.type "dict") [Value.ref _]) _ _ _)); (try dsimp only); walk1))) | (first | ((with_reducible show ite _ _ _); walk1) | ((with_reducible show _ ∧ _); walk1) | (leave1; (try dsimp only)) | (dsimp only [InvPostN]) | fail "no step")))
  refine raise_stmt rfl ?_
  (repeat' (first | (k_unfold; (try dsimp only)) | ((fail_if_success (with_reducible show wpAny _ _ (setItem _ _ _) _ _ _)); (((with_reducible show wpAny _ _ _ _ _ _); (fail_if_success (with_reducible show wpAny _ _ (exec (Stmt.While _ _ _ _) _) _ _ _)); (fail_if_success (with_reducible show wpAny _ _ (exec (Stmt.Raise _ _ _) _) _ _ _)); (fail_if_success (with_reducible show wpAny _ _ (exec (Stmt.Try _ _ _ _ _) _) _ _ _)); (fail_if_success (with_reducible show wpAny _ _ (exec (Stmt.For _ _ _ _ _) _) _ _ _)); (fail_if_success (with_reducible show wpAny _ _ (call (Value.ref _) _) _ _ _)); (fail_if_success (with_reducible show wpAny _ _ (call (Value.builtin "dict.pop") _) _ _ _)); (fail_if_success (with_reducible show wpAny _ _ (eval (Expr.ListComp _ _ _ _) _) _ _ _)); (fail_if_success (with_reducible show wpAny _ _ (exec (Stmt.Assign _ (Expr.ListComp _ _ _ _) _) _) _ _ _)); (fail_if_success (with_reducible show wpAny _ _ (call (Value.builtin "sorted") _) _ _ _)); (fail_if_success (with_reducible show wpAny _ _ (call (Value.type "list") [Value.ref _]) _ _ _)); (fail_if_success (with_reducible show wpAny _ _ (call (Value.type "dict") [Value.ref _]) _ _ _)); (try dsimp only); walk1))) | (first | ((with_reducible show ite _ _ _); walk1) | ((with_reducible show _ ∧ _); walk1) | (leave1; (try dsimp only)) | (dsimp only [InvPostN]) | fail "no step")))
  rename Fr _ _ _ _ => F5
  refine basic_new px (c0.keeps F5.keep) (rm.deep (by decide)) ?_
  intro h6 tk6 e ne
  have ne' := ne
  obtain ⟨dxe, es, n, fe, oe, vs, he, hen, hdx, hdn, hc, hdd, hdt, h1e, hne, hfa, hco⟩ := ne'.is
  refine ⟨e, oe, vs, rfl, X.keeps fun b o q => ne.keep _ _ (F5.keep _ _ q), he, hc, hdt, h1e, ?_⟩
  refine leave_first (h₀ := s.heap) hA hff F5 (by show ScopeKind.function ≠ ScopeKind.module; decide) rfl ne ?_
  intro h7 R7
  exact h _ _ _ _ R7

/-- what both worlds' dicts tell of the words -/
def pick (kvs : List (Str × Value)) (ws : List Str) : List (Str × Value) := ws.filterMap fun x => (valueAt kvs x).map fun v => (x, v)
def tupOf (p : Addr × (Str × Tok × Value)) : Addr × Obj := (p.1, { cls := .type "tuple", data := .seq #[.str p.2.1 p.2.2.1, p.2.2.2] })
theorem tup_off {I C Dl D1 c1 D2 : Addr} {a b : Obj} {ts : List (Addr × (Str × Tok × Value))} {y : Str} {ty : Tok} {u : Value} (off : LCg.Off3 I C Dl ((D1, a) :: (c1, b) :: ts.map tupOf)) (h1 : I < D2) (h2 : C < D2) (h3 : Dl < D2) :
    LCg.Off3 I C Dl ((D1, a) :: (c1, b) :: (ts ++ [(D2, y, ty, u)]).map tupOf) := by
  have m := off.mem
  refine LCg.Off3.of fun p hp => ?_
  rw [List.map_append] at hp
  rcases List.mem_cons.mp hp with rfl | hp
  · exact m _ (.head _)
  · rcases List.mem_cons.mp hp with rfl | hp
    · exact m _ (.tail _ (.head _))
    · rcases List.mem_append.mp hp with hp | hp
      · exact m _ (.tail _ (.tail _ hp))
      · obtain rfl := List.mem_singleton.mp hp
        exact ⟨Nat.ne_of_gt h1, Nat.ne_of_gt h2, Nat.ne_of_gt h3⟩
theorem tup_sub {I C Dl D1 c1 D2 : Addr} {oI oC oD a b : Obj} {ts : List (Addr × (Str × Tok × Value))} {y : Str} {ty : Tok} {u : Value} {p : Addr × Obj}
    (hp : p ∈ (I, oI) :: (C, oC) :: (Dl, oD) :: (D1, a) :: (c1, b) :: (ts ++ [(D2, y, ty, u)]).map tupOf) :
    p ∈ (D2, ({ cls := .type "tuple", data := .seq #[.str y ty, u] } : Obj)) :: (I, oI) :: (C, oC) :: (Dl, oD) :: (D1, a) :: (c1, b) :: ts.map tupOf := by
  rw [List.map_append] at hp
  simp only [List.mem_cons, List.mem_append, List.map_cons, List.map_nil, List.not_mem_nil, or_false] at hp ⊢
  rcases hp with h | h | h | h | h | h | h
  · exact .inr (.inl h)
  · exact .inr (.inr (.inl h))
  · exact .inr (.inr (.inr (.inl h)))
  · exact .inr (.inr (.inr (.inr (.inl h))))
  · exact .inr (.inr (.inr (.inr (.inr (.inl h)))))
  · exact .inr (.inr (.inr (.inr (.inr (.inr h)))))
  · exact .inl h
theorem tup_at {prog : Program} {w : World} {hh : Heap} {ts : List (Addr × (Str × Tok × Value))} {P : List (Str × Value)} (N10 : ∀ p ∈ ts.map tupOf, hh.get? p.1 = some p.2) (hts : ts.map (fun p => (p.2.1, p.2.2.2)) = P) {i : Nat} {v : Value} (hv : (ts.map fun p => Value.ref p.1)[i]? = some v) :
    ∃ a key k x, v = .ref a ∧ hh.get? a = some { cls := .type "tuple", data := .seq #[key, x] } ∧ P[i]? = some (k, x) ∧ (PySem.strKind prog w).is k key = true := by
  rw [List.getElem?_map] at hv
  obtain ⟨p, hp, rfl⟩ := Option.map_eq_some_iff.mp hv
  refine ⟨p.1, _, p.2.1, p.2.2.2, rfl, N10 _ (List.mem_map_of_mem (List.mem_of_getElem? hp)), ?_, strKind_is _ _ _ _⟩
  rw [← hts, List.getElem?_map, hp]
  rfl
theorem cnames_spec {prog : Program} {w : World} {mean : ExcName → Option Value} {mg mb : Str → Option Value} {A : Around} {s : Shared} {Q E : Value → Shared → Prop} {x dx dN l : Addr} {f : Str → Option Value} {kvs : List (Str × Value)} {vs : List Value} {ws : List Str}
    (c : Cx w mean mg mb s.heap) (r : Rm A 5) (wa : WAt s.heap x dx f) (hf : f (Str.ofString "names") = some (.ref dN)) (hd : s.heap.DictOf (PySem.strKind prog w) dN kvs) (lo : (dN == sysModules) = false) (hl : s.heap.IsList l vs.toArray) (hw : StrsAre vs ws) (hlen : ws.length ≤ 100) (hwl : ∀ x ∈ ws, x.length ≤ 100)
    (h : ∀ h' tk a o, (∀ b o, s.heap.get? b = some o → h'.get? b = some o) → s.heap.get? a = none → h'.get? a = some o → (a == sysModules) = false → o.IsDictOf (PySem.strKind prog w) (fillD (pick kvs (ws.filter fun x => !isArr x))) → Q (.ref a) { s with heap := h', toks := tk }) :
    wpAny (model prog w) A (call (.ref 89) [.ref x, .ref l]) Q E s := by
  have c0 := c
  obtain ⟨X, T⟩ := c
  have rm := r
  obtain ⟨rd, ru, rh⟩ := r
  obtain ⟨ah, ad, af, ag, au⟩ := A
  dsimp only at rd ru rh
  subst rh
  refine wpAny_call ?_
  k_dflt (refine' enterC (binds := [(Str.ofString "world", .ref x), (Str.ofString "words", .ref l)]) X T ?k6 ?k7 ?k8 ?k9 ?kB ?c5 ?_ ?c2 ?c3 ?c4; (((case k6 => k_is); (case k7 => k_is); (case k8 => ((try dsimp only); omega)); (case k9 => exact BindsTo.of_eq rfl); (case kB => exact rfl); (case c5 => decide); (case c2 => exact rfl); (case c3 => exact rfl); (case c4 => exact rfl))))
  intro L h1 tk1 cells F N CA
  dsimp only
  k_fold
  have F' : Fr s.heap L h1 (fun y => if y = Str.ofString "words" then some (.ref l) else none) := F
  have CA' : CellsAre (fun y => if y = Str.ofString "world" then some (.ref x) else none) [(Str.ofString "world", L + 1)] cells := CA
  clear F CA
  obtain ⟨o1, rfl, hc1⟩ := CA'.one
  rw [if_pos rfl] at hc1
  clear CA'
  (repeat' (first | (k_unfold; (try dsimp only)) | ((fail_if_success (with_reducible show wpAny _ _ (setItem _ _ _) _ _ _)); (((with_reducible show wpAny _ _ _ _ _ _); (fail_if_success (with_reducible show wpAny _ _ (exec (Stmt.While _ _ _ _) _) _ _ _)); (fail_if_success (with_reducible show wpAny _ _ (exec (Stmt.Raise _ _ _) _) _ _ _)); (fail_if_success (with_reducible show wpAny _ _ (exec (Stmt.Try _ _ _ _ _) _) _ _ _)); (fail_if_success (with_reducible show wpAny _ _ (exec (Stmt.For _ _ _ _ _) _) _ _ _)); (fail_if_success (with_reducible show wpAny _ _ (call (Value.ref _) _) _ _ _)); (fail_if_success (with_reducible show wpAny _ _ (call (Value.builtin "dict.pop") _) _ _ _)); (fail_if_success (with_reducible show wpAny _ _ (eval (Expr.ListComp _ _ _ _) _) _ _ _)); (fail_if_success (with_reducible show wpAny _ _ (exec (Stmt.Assign _ (Expr.ListComp _ _ _ _) _) _) _ _ _)); (fail_if_success (with_reducible show wpAny _ _ (call (Value.builtin "sorted") _) _ _ _)); (fail_if_success (with_reducible show wpAny _ _ (call (Value.type "list") [Value.ref _]) _ _ _)); (fail_if_success (with_reducible show wpAny _ _ (call (Value.type "dict") [Value.ref _]) _ _ _)); (try dsimp only); walk1))) | (first | ((with_reducible show ite _ _ _); walk1) | ((with_reducible show _ ∧ _); walk1) | (leave1; (try dsimp only)) | (dsimp only [InvPostN]) | fail "no step")))
  refine Assign_ListComp_J s.heap (fun y => if y = Str.ofString "words" then some (.ref l) else none) (by with_unfolding_all rfl) (by with_unfolding_all rfl) (by decide) (by rfl) (by decide) (by rfl) (by rfl) (by rfl) ?_
  (repeat' (first | (k_unfold; (try dsimp only)) | ((fail_if_success (with_reducible show wpAny _ _ (setItem _ _ _) _ _ _)); (((with_reducible show wpAny _ _ _ _ _ _); (fail_if_success (with_reducible show wpAny _ _ (exec (Stmt.While _ _ _ _) _) _ _ _)); (fail_if_success (with_reducible show wpAny _ _ (exec (Stmt.Raise _ _ _) _) _ _ _)); (fail_if_success (with_reducible show wpAny _ _ (exec (Stmt.Try _ _ _ _ _) _) _ _ _)); (fail_if_success (with_reducible show wpAny _ _ (exec (Stmt.For _ _ _ _ _) _) _ _ _)); (fail_if_success (with_reducible show wpAny _ _ (call (Value.ref _) _) _ _ _)); (fail_if_success (with_reducible show wpAny _ _ (call (Value.builtin "dict.pop") _) _ _ _)); (fail_if_success (with_reducible show wpAny _ _ (eval (Expr.ListComp _ _ _ _) _) _ _ _)); (fail_if_success (with_reducible show wpAny _ _ (exec (Stmt.Assign _ (Expr.ListComp _ _ _ _) _) _) _ _ _)); (fail_if_success (with_reducible show wpAny _ _ (call (Value.builtin "sorted") _) _ _ _)); (fail_if_success (with_reducible show wpAny _ _ (call (Value.type "list") [Value.ref _]) _ _ _)); (fail_if_success (with_reducible show wpAny _ _ (call (Value.type "dict") [Value.ref _]) _ _ _)); (try dsimp only); walk1))) | (first | ((with_reducible show ite _ _ _); walk1) | ((with_reducible show _ ∧ _); walk1) | (leave1; (try dsimp only)) | (dsimp only [InvPostN]) | fail "no step")))
  rename Fr _ _ _ _ => F2
  rename News _ _ _ _ => N2
  obtain ⟨ol, hol, hlc, hld⟩ := id hl
  have hvw : vs.length = ws.length := hw.length
  refine SrcJ.list (vs := vs) (ol := ol) (fun i ys nw => nw = [(L + 1, o1)] ∧ StrsAre ys ((ws.take i).filter fun x => !isArr x)) rfl (list_keep hl F2.keep) (F2.keep _ _ hol) (by rw [sizeLine_eq]; omega) F2 N2 ⟨rfl, .nil⟩ (.inl hol) ?_ ?_
  · rintro g i v ys nw I oI C oC Dl m2 h4 tk4 E' hi4 hv ⟨rfl, hys⟩ hC hx F4 N4 off ne4
    obtain ⟨y, ty, rfl, hy⟩ := hw.item i v hv
    have hyl := hwl y (List.mem_of_getElem? hy)
    have e1 : List.take (i + 1) ws = List.take i ws ++ [y] := by rw [List.take_add_one, hy]; rfl
    refine wpAny_tests_one ?_
    (repeat' (first | (k_unfold; (try dsimp only)) | ((fail_if_success (with_reducible show wpAny _ _ (setItem _ _ _) _ _ _)); (((with_reducible show wpAny _ _ _ _ _ _); (fail_if_success (with_reducible show wpAny _ _ (exec (Stmt.While _ _ _ _) _) _ _ _)); (fail_if_success (with_reducible show wpAny _ _ (exec (Stmt.Raise _ _ _) _) _ _ _)); (fail_if_success (with_reducible show wpAny _ _ (exec (Stmt.Try _ _ _ _ _) _) _ _ _)); (fail_if_success (with_reducible show wpAny _ _ (exec (Stmt.For _ _ _ _ _) _) _ _ _)); (fail_if_success (with_reducible show wpAny _ _ (call (Value.ref _) _) _ _ _)); (fail_if_success (with_reducible show wpAny _ _ (call (Value.builtin "dict.pop") _) _ _ _)); (fail_if_success (with_reducible show wpAny _ _ (eval (Expr.ListComp _ _ _ _) _) _ _ _)); (fail_if_success (with_reducible show wpAny _ _ (exec (Stmt.Assign _ (Expr.ListComp _ _ _ _) _) _) _ _ _)); (fail_if_success (with_reducible show wpAny _ _ (call (Value.builtin "sorted") _) _ _ _)); (fail_if_success (with_reducible show wpAny _ _ (call (Value.type "list") [Value.ref _]) _ _ _)); (fail_if_success (with_reducible show wpAny _ _ (call (Value.type "dict") [Value.ref _]) _ _ _)); (try dsimp only); walk1))) | (first | ((with_reducible show ite _ _ _); walk1) | ((with_reducible show _ ∧ _); walk1) | (leave1; (try dsimp only)) | (dsimp only [InvPostN]) | fail "no step")))
    refine isarr_spec (c0.keeps F4.keep) (rm.deep (by decide)) (by omega) ?_
    intro h5 tk5 k5
    (try dsimp only at k5)
    have F5 := F4.keeps k5
    have N5 := N4.grown k5
    (try dsimp only)
    cases hb : isArr y with
    | true =>
      (repeat' (first | (k_unfold; (try dsimp only)) | ((fail_if_success (with_reducible show wpAny _ _ (setItem _ _ _) _ _ _)); (((with_reducible show wpAny _ _ _ _ _ _); (fail_if_success (with_reducible show wpAny _ _ (exec (Stmt.While _ _ _ _) _) _ _ _)); (fail_if_success (with_reducible show wpAny _ _ (exec (Stmt.Raise _ _ _) _) _ _ _)); (fail_if_success (with_reducible show wpAny _ _ (exec (Stmt.Try _ _ _ _ _) _) _ _ _)); (fail_if_success (with_reducible show wpAny _ _ (exec (Stmt.For _ _ _ _ _) _) _ _ _)); (fail_if_success (with_reducible show wpAny _ _ (call (Value.ref _) _) _ _ _)); (fail_if_success (with_reducible show wpAny _ _ (call (Value.builtin "dict.pop") _) _ _ _)); (fail_if_success (with_reducible show wpAny _ _ (eval (Expr.ListComp _ _ _ _) _) _ _ _)); (fail_if_success (with_reducible show wpAny _ _ (exec (Stmt.Assign _ (Expr.ListComp _ _ _ _) _) _) _ _ _)); (fail_if_success (with_reducible show wpAny _ _ (call (Value.builtin "sorted") _) _ _ _)); (fail_if_success (with_reducible show wpAny _ _ (call (Value.type "list") [Value.ref _]) _ _ _)); (fail_if_success (with_reducible show wpAny _ _ (call (Value.type "dict") [Value.ref _]) _ _ _)); (try dsimp only); walk1))) | (first | ((with_reducible show ite _ _ _); walk1) | ((with_reducible show _ ∧ _); walk1) | (leave1; (try dsimp only)) | (dsimp only [InvPostN]) | fail "no step")))
      refine TurnEnd.intro F5 N5 _ (fun _ h => h) off ⟨rfl, ?_⟩
      rw [e1, List.filter_append]
      simp only [List.filter_cons, hb, Bool.not_true, Bool.false_eq_true, if_false, List.filter_nil, List.append_nil]
      exact hys
    | false =>
      (repeat' (first | (k_unfold; (try dsimp only)) | ((fail_if_success (with_reducible show wpAny _ _ (setItem _ _ _) _ _ _)); (((with_reducible show wpAny _ _ _ _ _ _); (fail_if_success (with_reducible show wpAny _ _ (exec (Stmt.While _ _ _ _) _) _ _ _)); (fail_if_success (with_reducible show wpAny _ _ (exec (Stmt.Raise _ _ _) _) _ _ _)); (fail_if_success (with_reducible show wpAny _ _ (exec (Stmt.Try _ _ _ _ _) _) _ _ _)); (fail_if_success (with_reducible show wpAny _ _ (exec (Stmt.For _ _ _ _ _) _) _ _ _)); (fail_if_success (with_reducible show wpAny _ _ (call (Value.ref _) _) _ _ _)); (fail_if_success (with_reducible show wpAny _ _ (call (Value.builtin "dict.pop") _) _ _ _)); (fail_if_success (with_reducible show wpAny _ _ (eval (Expr.ListComp _ _ _ _) _) _ _ _)); (fail_if_success (with_reducible show wpAny _ _ (exec (Stmt.Assign _ (Expr.ListComp _ _ _ _) _) _) _ _ _)); (fail_if_success (with_reducible show wpAny _ _ (call (Value.builtin "sorted") _) _ _ _)); (fail_if_success (with_reducible show wpAny _ _ (call (Value.type "list") [Value.ref _]) _ _ _)); (fail_if_success (with_reducible show wpAny _ _ (call (Value.type "dict") [Value.ref _]) _ _ _)); (try dsimp only); walk1))) | (first | ((with_reducible show ite _ _ _); walk1) | ((with_reducible show _ ∧ _); walk1) | (leave1; (try dsimp only)) | (dsimp only [InvPostN]) | fail "no step")))
      refine TurnEnd.intro F5 N5 _ (fun _ h => h) off ⟨rfl, ?_⟩
      rw [e1, List.filter_append]
      simp only [List.filter_cons, hb, Bool.not_false, if_true, List.filter_nil]
      exact strs_snoc hys
  · rintro ys nw ⟨rfl, hys⟩ D1 h5 tk5 F5 N5 ne5
    rw [hvw, List.take_length] at hys
    generalize hps : (ws.filter fun x => !isArr x) = ps at hys h
    have hpl : ps.length ≤ 100 := by rw [← hps]; exact Nat.le_trans (List.length_filter_le _ _) hlen
    have hysl : ys.length = ps.length := hys.length
    (try dsimp only)
    (repeat' (first | (k_unfold; (try dsimp only)) | ((fail_if_success (with_reducible show wpAny _ _ (setItem _ _ _) _ _ _)); (((with_reducible show wpAny _ _ _ _ _ _); (fail_if_success (with_reducible show wpAny _ _ (exec (Stmt.While _ _ _ _) _) _ _ _)); (fail_if_success (with_reducible show wpAny _ _ (exec (Stmt.Raise _ _ _) _) _ _ _)); (fail_if_success (with_reducible show wpAny _ _ (exec (Stmt.Try _ _ _ _ _) _) _ _ _)); (fail_if_success (with_reducible show wpAny _ _ (exec (Stmt.For _ _ _ _ _) _) _ _ _)); (fail_if_success (with_reducible show wpAny _ _ (call (Value.ref _) _) _ _ _)); (fail_if_success (with_reducible show wpAny _ _ (call (Value.builtin "dict.pop") _) _ _ _)); (fail_if_success (with_reducible show wpAny _ _ (eval (Expr.ListComp _ _ _ _) _) _ _ _)); (fail_if_success (with_reducible show wpAny _ _ (exec (Stmt.Assign _ (Expr.ListComp _ _ _ _) _) _) _ _ _)); (fail_if_success (with_reducible show wpAny _ _ (call (Value.builtin "sorted") _) _ _ _)); (fail_if_success (with_reducible show wpAny _ _ (call (Value.type "list") [Value.ref _]) _ _ _)); (fail_if_success (with_reducible show wpAny _ _ (call (Value.type "dict") [Value.ref _]) _ _ _)); (try dsimp only); walk1))) | (first | ((with_reducible show ite _ _ _); walk1) | ((with_reducible show _ ∧ _); walk1) | (leave1; (try dsimp only)) | (dsimp only [InvPostN]) | fail "no step")))
    have wn : Str.ofString "names" ∈ worldNames := by decide +kernel
    refine ListComp_J s.heap L (fun z => if z = Str.ofString "plain" then some (.ref D1) else (fun y => if y = Str.ofString "words" then some (.ref l) else none) z) (by with_unfolding_all rfl) (by decide) (by rfl) (by decide) (by rfl) ?_
    (repeat' (first | (k_unfold; (try dsimp only)) | ((fail_if_success (with_reducible show wpAny _ _ (setItem _ _ _) _ _ _)); (((with_reducible show wpAny _ _ _ _ _ _); (fail_if_success (with_reducible show wpAny _ _ (exec (Stmt.While _ _ _ _) _) _ _ _)); (fail_if_success (with_reducible show wpAny _ _ (exec (Stmt.Raise _ _ _) _) _ _ _)); (fail_if_success (with_reducible show wpAny _ _ (exec (Stmt.Try _ _ _ _ _) _) _ _ _)); (fail_if_success (with_reducible show wpAny _ _ (exec (Stmt.For _ _ _ _ _) _) _ _ _)); (fail_if_success (with_reducible show wpAny _ _ (call (Value.ref _) _) _ _ _)); (fail_if_success (with_reducible show wpAny _ _ (call (Value.builtin "dict.pop") _) _ _ _)); (fail_if_success (with_reducible show wpAny _ _ (eval (Expr.ListComp _ _ _ _) _) _ _ _)); (fail_if_success (with_reducible show wpAny _ _ (exec (Stmt.Assign _ (Expr.ListComp _ _ _ _) _) _) _ _ _)); (fail_if_success (with_reducible show wpAny _ _ (call (Value.builtin "sorted") _) _ _ _)); (fail_if_success (with_reducible show wpAny _ _ (call (Value.type "list") [Value.ref _]) _ _ _)); (fail_if_success (with_reducible show wpAny _ _ (call (Value.type "dict") [Value.ref _]) _ _ _)); (try dsimp only); walk1))) | (first | ((with_reducible show ite _ _ _); walk1) | ((with_reducible show _ ∧ _); walk1) | (leave1; (try dsimp only)) | (dsimp only [InvPostN]) | fail "no step")))
    rename Fr _ _ _ _ => F6
    rename News _ _ _ _ => N6
    refine SrcJ.list (vs := ys) (ol := LCg.lst ys) (fun i zs nw => ∃ ts : List (Addr × (Str × Tok × Value)), nw = (D1, LCg.lst ys) :: (L + 1, o1) :: ts.map tupOf ∧ zs = ts.map (fun p => Value.ref p.1) ∧ ts.map (fun p => (p.2.1, p.2.2.2)) = pick kvs (ps.take i)) rfl ⟨_, (N6 _ (.head _)).1, rfl, _, rfl⟩ (N6 _ (.head _)).1 (by rw [sizeLine_eq]; omega) F6 N6 ⟨[], rfl, rfl, rfl⟩ (.inr ?_) ?_ ?_
    · rintro i zs nw ⟨ts, rfl, _, _⟩; simp
    · rintro g i v zs nw I oI C oC Dl m2 h7 tk7 E' hi7 hv ⟨ts, rfl, rfl, hts⟩ hC hx F7 N7 off ne7
      obtain ⟨y, ty, rfl, hy⟩ := hys.item i v hv
      have e1 : List.take (i + 1) ps = List.take i ps ++ [y] := by rw [List.take_add_one, hy]; rfl
      have hpk : pick kvs (List.take (i + 1) ps) = pick kvs (List.take i ps) ++ pick kvs [y] := by rw [e1]; exact List.filterMap_append
      refine wpAny_tests_one ?_
      (repeat' (first | (k_unfold; (try dsimp only)) | ((fail_if_success (with_reducible show wpAny _ _ (setItem _ _ _) _ _ _)); (((with_reducible show wpAny _ _ _ _ _ _); (fail_if_success (with_reducible show wpAny _ _ (exec (Stmt.While _ _ _ _) _) _ _ _)); (fail_if_success (with_reducible show wpAny _ _ (exec (Stmt.Raise _ _ _) _) _ _ _)); (fail_if_success (with_reducible show wpAny _ _ (exec (Stmt.Try _ _ _ _ _) _) _ _ _)); (fail_if_success (with_reducible show wpAny _ _ (exec (Stmt.For _ _ _ _ _) _) _ _ _)); (fail_if_success (with_reducible show wpAny _ _ (call (Value.ref _) _) _ _ _)); (fail_if_success (with_reducible show wpAny _ _ (call (Value.builtin "dict.pop") _) _ _ _)); (fail_if_success (with_reducible show wpAny _ _ (eval (Expr.ListComp _ _ _ _) _) _ _ _)); (fail_if_success (with_reducible show wpAny _ _ (exec (Stmt.Assign _ (Expr.ListComp _ _ _ _) _) _) _ _ _)); (fail_if_success (with_reducible show wpAny _ _ (call (Value.builtin "sorted") _) _ _ _)); (fail_if_success (with_reducible show wpAny _ _ (call (Value.type "list") [Value.ref _]) _ _ _)); (fail_if_success (with_reducible show wpAny _ _ (call (Value.type "dict") [Value.ref _]) _ _ _)); (try dsimp only); walk1))) | (first | ((with_reducible show ite _ _ _); walk1) | ((with_reducible show _ ∧ _); walk1) | (leave1; (try dsimp only)) | (dsimp only [InvPostN]) | fail "no step")))
      rename Fr _ _ _ _ => F8
      refine wgetW (c0.keeps F8.keep) (wa.keep F8.keep) wn hf rfl ?_
      (try dsimp only)
      refine wpAny_in_of (knd := PySem.strKind prog w) (strKind_is _ _ _ _) lo (hd.keep F8.keep).mapOf ?_
      (try dsimp only)
      cases hb : valueAt kvs y with
      | none =>
        simp only [Option.isSome_none]
        (repeat' (first | (k_unfold; (try dsimp only)) | ((fail_if_success (with_reducible show wpAny _ _ (setItem _ _ _) _ _ _)); (((with_reducible show wpAny _ _ _ _ _ _); (fail_if_success (with_reducible show wpAny _ _ (exec (Stmt.While _ _ _ _) _) _ _ _)); (fail_if_success (with_reducible show wpAny _ _ (exec (Stmt.Raise _ _ _) _) _ _ _)); (fail_if_success (with_reducible show wpAny _ _ (exec (Stmt.Try _ _ _ _ _) _) _ _ _)); (fail_if_success (with_reducible show wpAny _ _ (exec (Stmt.For _ _ _ _ _) _) _ _ _)); (fail_if_success (with_reducible show wpAny _ _ (call (Value.ref _) _) _ _ _)); (fail_if_success (with_reducible show wpAny _ _ (call (Value.builtin "dict.pop") _) _ _ _)); (fail_if_success (with_reducible show wpAny _ _ (eval (Expr.ListComp _ _ _ _) _) _ _ _)); (fail_if_success (with_reducible show wpAny _ _ (exec (Stmt.Assign _ (Expr.ListComp _ _ _ _) _) _) _ _ _)); (fail_if_success (with_reducible show wpAny _ _ (call (Value.builtin "sorted") _) _ _ _)); (fail_if_success (with_reducible show wpAny _ _ (call (Value.type "list") [Value.ref _]) _ _ _)); (fail_if_success (with_reducible show wpAny _ _ (call (Value.type "dict") [Value.ref _]) _ _ _)); (try dsimp only); walk1))) | (first | ((with_reducible show ite _ _ _); walk1) | ((with_reducible show _ ∧ _); walk1) | (leave1; (try dsimp only)) | (dsimp only [InvPostN]) | fail "no step")))
        rename Fr _ _ _ _ => F9
        rename News _ _ _ _ => N9
        refine TurnEnd.intro F9 N9 _ (fun _ h => h) off ⟨ts, rfl, rfl, ?_⟩
        rw [hpk, hts]
        simp [pick, hb]
      | some u =>
        simp only [Option.isSome_some]
        (repeat' (first | (k_unfold; (try dsimp only)) | ((fail_if_success (with_reducible show wpAny _ _ (setItem _ _ _) _ _ _)); (((with_reducible show wpAny _ _ _ _ _ _); (fail_if_success (with_reducible show wpAny _ _ (exec (Stmt.While _ _ _ _) _) _ _ _)); (fail_if_success (with_reducible show wpAny _ _ (exec (Stmt.Raise _ _ _) _) _ _ _)); (fail_if_success (with_reducible show wpAny _ _ (exec (Stmt.Try _ _ _ _ _) _) _ _ _)); (fail_if_success (with_reducible show wpAny _ _ (exec (Stmt.For _ _ _ _ _) _) _ _ _)); (fail_if_success (with_reducible show wpAny _ _ (call (Value.ref _) _) _ _ _)); (fail_if_success (with_reducible show wpAny _ _ (call (Value.builtin "dict.pop") _) _ _ _)); (fail_if_success (with_reducible show wpAny _ _ (eval (Expr.ListComp _ _ _ _) _) _ _ _)); (fail_if_success (with_reducible show wpAny _ _ (exec (Stmt.Assign _ (Expr.ListComp _ _ _ _) _) _) _ _ _)); (fail_if_success (with_reducible show wpAny _ _ (call (Value.builtin "sorted") _) _ _ _)); (fail_if_success (with_reducible show wpAny _ _ (call (Value.type "list") [Value.ref _]) _ _ _)); (fail_if_success (with_reducible show wpAny _ _ (call (Value.type "dict") [Value.ref _]) _ _ _)); (try dsimp only); walk1))) | (first | ((with_reducible show ite _ _ _); walk1) | ((with_reducible show _ ∧ _); walk1) | (leave1; (try dsimp only)) | (dsimp only [InvPostN]) | fail "no step")))
        rename Fr _ _ _ _ => F9
        refine wgetW (c0.keeps F9.keep) (wa.keep F9.keep) wn hf rfl ?_
        (try dsimp only)
        (repeat' (first | (k_unfold; (try dsimp only)) | ((fail_if_success (with_reducible show wpAny _ _ (setItem _ _ _) _ _ _)); (((with_reducible show wpAny _ _ _ _ _ _); (fail_if_success (with_reducible show wpAny _ _ (exec (Stmt.While _ _ _ _) _) _ _ _)); (fail_if_success (with_reducible show wpAny _ _ (exec (Stmt.Raise _ _ _) _) _ _ _)); (fail_if_success (with_reducible show wpAny _ _ (exec (Stmt.Try _ _ _ _ _) _) _ _ _)); (fail_if_success (with_reducible show wpAny _ _ (exec (Stmt.For _ _ _ _ _) _) _ _ _)); (fail_if_success (with_reducible show wpAny _ _ (call (Value.ref _) _) _ _ _)); (fail_if_success (with_reducible show wpAny _ _ (call (Value.builtin "dict.pop") _) _ _ _)); (fail_if_success (with_reducible show wpAny _ _ (eval (Expr.ListComp _ _ _ _) _) _ _ _)); (fail_if_success (with_reducible show wpAny _ _ (exec (Stmt.Assign _ (Expr.ListComp _ _ _ _) _) _) _ _ _)); (fail_if_success (with_reducible show wpAny _ _ (call (Value.builtin "sorted") _) _ _ _)); (fail_if_success (with_reducible show wpAny _ _ (call (Value.type "list") [Value.ref _]) _ _ _)); (fail_if_success (with_reducible show wpAny _ _ (call (Value.type "dict") [Value.ref _]) _ _ _)); (try dsimp only); walk1))) | (first | ((with_reducible show ite _ _ _); walk1) | ((with_reducible show _ ∧ _); walk1) | (leave1; (try dsimp only)) | (dsimp only [InvPostN]) | fail "no step")))
        rename Fr _ _ _ _ => F10
        refine dict_item (knd := PySem.strKind prog w) (hd.keep F10.keep) (strKind_is _ _ _ _) hb ?_
        (try dsimp only)
        (repeat' (first | (k_unfold; (try dsimp only)) | ((fail_if_success (with_reducible show wpAny _ _ (setItem _ _ _) _ _ _)); (((with_reducible show wpAny _ _ _ _ _ _); (fail_if_success (with_reducible show wpAny _ _ (exec (Stmt.While _ _ _ _) _) _ _ _)); (fail_if_success (with_reducible show wpAny _ _ (exec (Stmt.Raise _ _ _) _) _ _ _)); (fail_if_success (with_reducible show wpAny _ _ (exec (Stmt.Try _ _ _ _ _) _) _ _ _)); (fail_if_success (with_reducible show wpAny _ _ (exec (Stmt.For _ _ _ _ _) _) _ _ _)); (fail_if_success (with_reducible show wpAny _ _ (call (Value.ref _) _) _ _ _)); (fail_if_success (with_reducible show wpAny _ _ (call (Value.builtin "dict.pop") _) _ _ _)); (fail_if_success (with_reducible show wpAny _ _ (eval (Expr.ListComp _ _ _ _) _) _ _ _)); (fail_if_success (with_reducible show wpAny _ _ (exec (Stmt.Assign _ (Expr.ListComp _ _ _ _) _) _) _ _ _)); (fail_if_success (with_reducible show wpAny _ _ (call (Value.builtin "sorted") _) _ _ _)); (fail_if_success (with_reducible show wpAny _ _ (call (Value.type "list") [Value.ref _]) _ _ _)); (fail_if_success (with_reducible show wpAny _ _ (call (Value.type "dict") [Value.ref _]) _ _ _)); (try dsimp only); walk1))) | (first | ((with_reducible show ite _ _ _); walk1) | ((with_reducible show _ ∧ _); walk1) | (leave1; (try dsimp only)) | (dsimp only [InvPostN]) | fail "no step")))
        rename_i D2 h11 F11 N11 lt11
        refine TurnEnd.intro F11 N11 ((D1, LCg.lst ys) :: (L + 1, o1) :: (ts ++ [(D2, y, ty, u)]).map tupOf) (fun p hp => ?_) (tup_off off lt11.1 lt11.2.1 lt11.2.2.1) ⟨ts ++ [(D2, y, ty, u)], rfl, by simp, ?_⟩
        · exact tup_sub hp
        · rw [hpk, List.map_append, hts]
          simp [pick, hb]
    · rintro zs nw ⟨ts, rfl, rfl, hts⟩ D3 h9 tk9 F9 N9 ne9
      rw [hysl, List.take_length] at hts
      have htl : ts.length = (pick kvs ps).length := by rw [← hts, List.length_map]
      have hpk : (pick kvs ps).length ≤ ps.length := List.length_filterMap_le _ _
      (try dsimp only)
      (repeat' (first | (k_unfold; (try dsimp only)) | ((fail_if_success (with_reducible show wpAny _ _ (setItem _ _ _) _ _ _)); (((with_reducible show wpAny _ _ _ _ _ _); (fail_if_success (with_reducible show wpAny _ _ (exec (Stmt.While _ _ _ _) _) _ _ _)); (fail_if_success (with_reducible show wpAny _ _ (exec (Stmt.Raise _ _ _) _) _ _ _)); (fail_if_success (with_reducible show wpAny _ _ (exec (Stmt.Try _ _ _ _ _) _) _ _ _)); (fail_if_success (with_reducible show wpAny _ _ (exec (Stmt.For _ _ _ _ _) _) _ _ _)); (fail_if_success (with_reducible show wpAny _ _ (call (Value.ref _) _) _ _ _)); (fail_if_success (with_reducible show wpAny _ _ (call (Value.builtin "dict.pop") _) _ _ _)); (fail_if_success (with_reducible show wpAny _ _ (eval (Expr.ListComp _ _ _ _) _) _ _ _)); (fail_if_success (with_reducible show wpAny _ _ (exec (Stmt.Assign _ (Expr.ListComp _ _ _ _) _) _) _ _ _)); (fail_if_success (with_reducible show wpAny _ _ (call (Value.builtin "sorted") _) _ _ _)); (fail_if_success (with_reducible show wpAny _ _ (call (Value.type "list") [Value.ref _]) _ _ _)); (fail_if_success (with_reducible show wpAny _ _ (call (Value.type "dict") [Value.ref _]) _ _ _)); (try dsimp only); walk1))) | (first | ((with_reducible show ite _ _ _); walk1) | ((with_reducible show _ ∧ _); walk1) | (leave1; (try dsimp only)) | (dsimp only [InvPostN]) | fail "no step")))
      rename Fr _ _ _ _ => F10
      rename News _ _ _ _ => N10
      refine dict_pairs (knd := PySem.strKind prog w) rfl F10 N10 T.nolimit (N10 _ (.head _)).1 (pick kvs ps) (by rw [List.length_map, htl]) (by rw [List.length_map]; omega) (fun i v hv => ?_) ?_
      · exact tup_at (N10 := fun p hp => (N10 p (.tail _ (.tail _ (.tail _ hp)))).1) hts hv
      · intro h11 tk11 o D F11 N11 loD hD neD
        (try dsimp only)
        (repeat' (first | (k_unfold; (try dsimp only)) | ((fail_if_success (with_reducible show wpAny _ _ (setItem _ _ _) _ _ _)); (((with_reducible show wpAny _ _ _ _ _ _); (fail_if_success (with_reducible show wpAny _ _ (exec (Stmt.While _ _ _ _) _) _ _ _)); (fail_if_success (with_reducible show wpAny _ _ (exec (Stmt.Raise _ _ _) _) _ _ _)); (fail_if_success (with_reducible show wpAny _ _ (exec (Stmt.Try _ _ _ _ _) _) _ _ _)); (fail_if_success (with_reducible show wpAny _ _ (exec (Stmt.For _ _ _ _ _) _) _ _ _)); (fail_if_success (with_reducible show wpAny _ _ (call (Value.ref _) _) _ _ _)); (fail_if_success (with_reducible show wpAny _ _ (call (Value.builtin "dict.pop") _) _ _ _)); (fail_if_success (with_reducible show wpAny _ _ (eval (Expr.ListComp _ _ _ _) _) _ _ _)); (fail_if_success (with_reducible show wpAny _ _ (exec (Stmt.Assign _ (Expr.ListComp _ _ _ _) _) _) _ _ _)); (fail_if_success (with_reducible show wpAny _ _ (call (Value.builtin "sorted") _) _ _ _)); (fail_if_success (with_reducible show wpAny _ _ (call (Value.type "list") [Value.ref _]) _ _ _)); (fail_if_success (with_reducible show wpAny _ _ (call (Value.type "dict") [Value.ref _]) _ _ _)); (try dsimp only); walk1))) | (first | ((with_reducible show ite _ _ _); walk1) | ((with_reducible show _ ∧ _); walk1) | (leave1; (try dsimp only)) | (dsimp only [InvPostN]) | fail "no step")))
        exact h _ _ _ _ F11.keep (N11 _ (.head _)).2.2 (N11 _ (.head _)).1 loD hD

def cut2 (x : Str) : Str := PySem.Txt.slice x none (some (-2))
theorem carrays_spec {prog : Program} {w : World} {mean : ExcName → Option Value} {mg mb : Str → Option Value} {A : Around} {s : Shared} {Q E : Value → Shared → Prop} {x dx dN l : Addr} {f : Str → Option Value} {kvs : List (Str × Value)} {vs : List Value} {ws : List Str}
    (c : Cx w mean mg mb s.heap) (r : Rm A 5) (wa : WAt s.heap x dx f) (hf : f (Str.ofString "arrays") = some (.ref dN)) (hd : s.heap.DictOf (PySem.strKind prog w) dN kvs) (lo : (dN == sysModules) = false) (hl : s.heap.IsList l vs.toArray) (hw : StrsAre vs ws) (hlen : ws.length ≤ 100) (hwl : ∀ x ∈ ws, x.length ≤ 100)
    (h : ∀ h' tk a o, (∀ b o, s.heap.get? b = some o → h'.get? b = some o) → s.heap.get? a = none → h'.get? a = some o → (a == sysModules) = false → o.IsDictOf (PySem.strKind prog w) (fillD (pick kvs ((ws.filter isArr).map cut2))) → Q (.ref a) { s with heap := h', toks := tk }) :
    wpAny (model prog w) A (call (.ref 94) [.ref x, .ref l]) Q E s := by
  have c0 := c
  obtain ⟨X, T⟩ := c
  have rm := r
  obtain ⟨rd, ru, rh⟩ := r
  obtain ⟨ah, ad, af, ag, au⟩ := A
  dsimp only at rd ru rh
  subst rh
  refine wpAny_call ?_
  k_dflt (refine' enterC (binds := [(Str.ofString "world", .ref x), (Str.ofString "words", .ref l)]) X T ?k6 ?k7 ?k8 ?k9 ?kB ?c5 ?_ ?c2 ?c3 ?c4; (((case k6 => k_is); (case k7 => k_is); (case k8 => ((try dsimp only); omega)); (case k9 => exact BindsTo.of_eq rfl); (case kB => exact rfl); (case c5 => decide); (case c2 => exact rfl); (case c3 => exact rfl); (case c4 => exact rfl))))
  intro L h1 tk1 cells F N CA
  dsimp only
  k_fold
  have F' : Fr s.heap L h1 (fun y => if y = Str.ofString "words" then some (.ref l) else none) := F
  have CA' : CellsAre (fun y => if y = Str.ofString "world" then some (.ref x) else none) [(Str.ofString "world", L + 1)] cells := CA
  clear F CA
  obtain ⟨o1, rfl, hc1⟩ := CA'.one
  rw [if_pos rfl] at hc1
  clear CA'
  (repeat' (first | (k_unfold; (try dsimp only)) | ((fail_if_success (with_reducible show wpAny _ _ (setItem _ _ _) _ _ _)); (((with_reducible show wpAny _ _ _ _ _ _); (fail_if_success (with_reducible show wpAny _ _ (exec (Stmt.While _ _ _ _) _) _ _ _)); (fail_if_success (with_reducible show wpAny _ _ (exec (Stmt.Raise _ _ _) _) _ _ _)); (fail_if_success (with_reducible show wpAny _ _ (exec (Stmt.Try _ _ _ _ _) _) _ _ _)); (fail_if_success (with_reducible show wpAny _ _ (exec (Stmt.For _ _ _ _ _) _) _ _ _)); (fail_if_success (with_reducible show wpAny _ _ (call (Value.ref _) _) _ _ _)); (fail_if_success (with_reducible show wpAny _ _ (call (Value.builtin "dict.pop") _) _ _ _)); (fail_if_success (with_reducible show wpAny _ _ (eval (Expr.ListComp _ _ _ _) _) _ _ _)); (fail_if_success (with_reducible show wpAny _ _ (exec (Stmt.Assign _ (Expr.ListComp _ _ _ _) _) _) _ _ _)); (fail_if_success (with_reducible show wpAny _ _ (call (Value.builtin "sorted") _) _ _ _)); (fail_if_success (with_reducible show wpAny _ _ (call (Value.type "list") [Value.ref _]) _ _ _)); (fail_if_success (with_reducible show wpAny _ _ (call (Value.type "dict") [Value.ref _]) _ _ _)); (try dsimp only); walk1))) | (first | ((with_reducible show ite _ _ _); walk1) | ((with_reducible show _ ∧ _); walk1) | (leave1; (try dsimp only)) | (dsimp only [InvPostN]) | fail "no step")))
  refine Assign_ListComp_J s.heap (fun y => if y = Str.ofString "words" then some (.ref l) else none) (by with_unfolding_all rfl) (by with_unfolding_all rfl) (by decide) (by rfl) (by decide) (by rfl) (by rfl) (by rfl) ?_
  (repeat' (first | (k_unfold; (try dsimp only)) | ((fail_if_success (with_reducible show wpAny _ _ (setItem _ _ _) _ _ _)); (((with_reducible show wpAny _ _ _ _ _ _); (fail_if_success (with_reducible show wpAny _ _ (exec (Stmt.While _ _ _ _) _) _ _ _)); (fail_if_success (with_reducible show wpAny _ _ (exec (Stmt.Raise _ _ _) _) _ _ _)); (fail_if_success (with_reducible show wpAny _ _ (exec (Stmt.Try _ _ _ _ _) _) _ _ _)); (fail_if_success (with_reducible show wpAny _ _ (exec (Stmt.For _ _ _ _ _) _) _ _ _)); (fail_if_success (with_reducible show wpAny _ _ (call (Value.ref _) _) _ _ _)); (fail_if_success (with_reducible show wpAny _ _ (call (Value.builtin "dict.pop") _) _ _ _)); (fail_if_success (with_reducible show wpAny _ _ (eval (Expr.ListComp _ _ _ _) _) _ _ _)); (fail_if_success (with_reducible show wpAny _ _ (exec (Stmt.Assign _ (Expr.ListComp _ _ _ _) _) _) _ _ _)); (fail_if_success (with_reducible show wpAny _ _ (call (Value.builtin "sorted") _) _ _ _)); (fail_if_success (with_reducible show wpAny _ _ (call (Value.type "list") [Value.ref _]) _ _ _)); (fail_if_success (with_reducible show wpAny _ _ (call (Value.type "dict") [Value.ref _]) _ _ _)); (try dsimp only); walk1))) | (first | ((with_reducible show ite _ _ _); walk1) | ((with_reducible show _ ∧ _); walk1) | (leave1; (try dsimp only)) | (dsimp only [InvPostN]) | fail "no step")))
  rename Fr _ _ _ _ => F2
  rename News _ _ _ _ => N2
  obtain ⟨ol, hol, hlc, hld⟩ := id hl
  have hvw : vs.length = ws.length := hw.length
  refine SrcJ.list (vs := vs) (ol := ol) (fun i ys nw => nw = [(L + 1, o1)] ∧ StrsAre ys (((ws.take i).filter isArr).map cut2)) rfl (list_keep hl F2.keep) (F2.keep _ _ hol) (by rw [sizeLine_eq]; omega) F2 N2 ⟨rfl, .nil⟩ (.inl hol) ?_ ?_
  · rintro g i v ys nw I oI C oC Dl m2 h4 tk4 E' hi4 hv ⟨rfl, hys⟩ hC hx F4 N4 off ne4
    obtain ⟨y, ty, rfl, hy⟩ := hw.item i v hv
    have hyl := hwl y (List.mem_of_getElem? hy)
    have e1 : List.take (i + 1) ws = List.take i ws ++ [y] := by rw [List.take_add_one, hy]; rfl
    refine wpAny_tests_one ?_
    (repeat' (first | (k_unfold; (try dsimp only)) | ((fail_if_success (with_reducible show wpAny _ _ (setItem _ _ _) _ _ _)); (((with_reducible show wpAny _ _ _ _ _ _); (fail_if_success (with_reducible show wpAny _ _ (exec (Stmt.While _ _ _ _) _) _ _ _)); (fail_if_success (with_reducible show wpAny _ _ (exec (Stmt.Raise _ _ _) _) _ _ _)); (fail_if_success (with_reducible show wpAny _ _ (exec (Stmt.Try _ _ _ _ _) _) _ _ _)); (fail_if_success (with_reducible show wpAny _ _ (exec (Stmt.For _ _ _ _ _) _) _ _ _)); (fail_if_success (with_reducible show wpAny _ _ (call (Value.ref _) _) _ _ _)); (fail_if_success (with_reducible show wpAny _ _ (call (Value.builtin "dict.pop") _) _ _ _)); (fail_if_success (with_reducible show wpAny _ _ (eval (Expr.ListComp _ _ _ _) _) _ _ _)); (fail_if_success (with_reducible show wpAny _ _ (exec (Stmt.Assign _ (Expr.ListComp _ _ _ _) _) _) _ _ _)); (fail_if_success (with_reducible show wpAny _ _ (call (Value.builtin "sorted") _) _ _ _)); (fail_if_success (with_reducible show wpAny _ _ (call (Value.type "list") [Value.ref _]) _ _ _)); (fail_if_success (with_reducible show wpAny _ _ (call (Value.type "dict") [Value.ref _]) _ _ _)); (try dsimp only); walk1))) | (first | ((with_reducible show ite _ _ _); walk1) | ((with_reducible show _ ∧ _); walk1) | (leave1; (try dsimp only)) | (dsimp only [InvPostN]) | fail "no step")))
    refine isarr_spec (c0.keeps F4.keep) (rm.deep (by decide)) (by omega) ?_
    intro h5 tk5 k5
    (try dsimp only at k5)
    have F5 := F4.keeps k5
    have N5 := N4.grown k5
    (try dsimp only)
    cases hb : isArr y with
    | false =>
      (repeat' (first | (k_unfold; (try dsimp only)) | ((fail_if_success (with_reducible show wpAny _ _ (setItem _ _ _) _ _ _)); (((with_reducible show wpAny _ _ _ _ _ _); (fail_if_success (with_reducible show wpAny _ _ (exec (Stmt.While _ _ _ _) _) _ _ _)); (fail_if_success (with_reducible show wpAny _ _ (exec (Stmt.Raise _ _ _) _) _ _ _)); (fail_if_success (with_reducible show wpAny _ _ (exec (Stmt.Try _ _ _ _ _) _) _ _ _)); (fail_if_success (with_reducible show wpAny _ _ (exec (Stmt.For _ _ _ _ _) _) _ _ _)); (fail_if_success (with_reducible show wpAny _ _ (call (Value.ref _) _) _ _ _)); (fail_if_success (with_reducible show wpAny _ _ (call (Value.builtin "dict.pop") _) _ _ _)); (fail_if_success (with_reducible show wpAny _ _ (eval (Expr.ListComp _ _ _ _) _) _ _ _)); (fail_if_success (with_reducible show wpAny _ _ (exec (Stmt.Assign _ (Expr.ListComp _ _ _ _) _) _) _ _ _)); (fail_if_success (with_reducible show wpAny _ _ (call (Value.builtin "sorted") _) _ _ _)); (fail_if_success (with_reducible show wpAny _ _ (call (Value.type "list") [Value.ref _]) _ _ _)); (fail_if_success (with_reducible show wpAny _ _ (call (Value.type "dict") [Value.ref _]) _ _ _)); (try dsimp only); walk1))) | (first | ((with_reducible show ite _ _ _); walk1) | ((with_reducible show _ ∧ _); walk1) | (leave1; (try dsimp only)) | (dsimp only [InvPostN]) | fail "no step")))
      refine TurnEnd.intro F5 N5 _ (fun _ h => h) off ⟨rfl, ?_⟩
      rw [e1, List.filter_append, List.map_append]
      simp only [List.filter_cons, hb, Bool.false_eq_true, if_false, List.filter_nil, List.map_nil, List.append_nil]
      exact hys
    | true =>
      (repeat' (first | (k_unfold; (try dsimp only)) | ((fail_if_success (with_reducible show wpAny _ _ (setItem _ _ _) _ _ _)); (((with_reducible show wpAny _ _ _ _ _ _); (fail_if_success (with_reducible show wpAny _ _ (exec (Stmt.While _ _ _ _) _) _ _ _)); (fail_if_success (with_reducible show wpAny _ _ (exec (Stmt.Raise _ _ _) _) _ _ _)); (fail_if_success (with_reducible show wpAny _ _ (exec (Stmt.Try _ _ _ _ _) _) _ _ _)); (fail_if_success (with_reducible show wpAny _ _ (exec (Stmt.For _ _ _ _ _) _) _ _ _)); (fail_if_success (with_reducible show wpAny _ _ (call (Value.ref _) _) _ _ _)); (fail_if_success (with_reducible show wpAny _ _ (call (Value.builtin "dict.pop") _) _ _ _)); (fail_if_success (with_reducible show wpAny _ _ (eval (Expr.ListComp _ _ _ _) _) _ _ _)); (fail_if_success (with_reducible show wpAny _ _ (exec (Stmt.Assign _ (Expr.ListComp _ _ _ _) _) _) _ _ _)); (fail_if_success (with_reducible show wpAny _ _ (call (Value.builtin "sorted") _) _ _ _)); (fail_if_success (with_reducible show wpAny _ _ (call (Value.type "list") [Value.ref _]) _ _ _)); (fail_if_success (with_reducible show wpAny _ _ (call (Value.type "dict") [Value.ref _]) _ _ _)); (try dsimp only); walk1))) | (first | ((with_reducible show ite _ _ _); walk1) | ((with_reducible show _ ∧ _); walk1) | (leave1; (try dsimp only)) | (dsimp only [InvPostN]) | fail "no step")))
      rename Fr _ _ _ _ => F5'
      rename News _ _ _ _ => N5'
      refine TurnEnd.intro F5' N5' _ (fun _ h => h) off ⟨rfl, ?_⟩
      rw [e1, List.filter_append, List.map_append]
      simp only [List.filter_cons, hb, if_true, List.filter_nil, List.map_cons, List.map_nil]
      exact strs_snoc hys
  · rintro ys nw ⟨rfl, hys⟩ D1 h5 tk5 F5 N5 ne5
    rw [hvw, List.take_length] at hys
    generalize hps : (ws.filter isArr).map cut2 = ps at hys h
    have hpl : ps.length ≤ 100 := by rw [← hps, List.length_map]; exact Nat.le_trans (List.length_filter_le _ _) hlen
    have hysl : ys.length = ps.length := hys.length
    (try dsimp only)
    (repeat' (first | (k_unfold; (try dsimp only)) | ((fail_if_success (with_reducible show wpAny _ _ (setItem _ _ _) _ _ _)); (((with_reducible show wpAny _ _ _ _ _ _); (fail_if_success (with_reducible show wpAny _ _ (exec (Stmt.While _ _ _ _) _) _ _ _)); (fail_if_success (with_reducible show wpAny _ _ (exec (Stmt.Raise _ _ _) _) _ _ _)); (fail_if_success (with_reducible show wpAny _ _ (exec (Stmt.Try _ _ _ _ _) _) _ _ _)); (fail_if_success (with_reducible show wpAny _ _ (exec (Stmt.For _ _ _ _ _) _) _ _ _)); (fail_if_success (with_reducible show wpAny _ _ (call (Value.ref _) _) _ _ _)); (fail_if_success (with_reducible show wpAny _ _ (call (Value.builtin "dict.pop") _) _ _ _)); (fail_if_success (with_reducible show wpAny _ _ (eval (Expr.ListComp _ _ _ _) _) _ _ _)); (fail_if_success (with_reducible show wpAny _ _ (exec (Stmt.Assign _ (Expr.ListComp _ _ _ _) _) _) _ _ _)); (fail_if_success (with_reducible show wpAny _ _ (call (Value.builtin "sorted") _) _ _ _)); (fail_if_success (with_reducible show wpAny _ _ (call (Value.type "list") [Value.ref _]) _ _ _)); (fail_if_success (with_reducible show wpAny _ _ (call (Value.type "dict") [Value.ref _]) _ _ _)); (try dsimp only); walk1))) | (first | ((with_reducible show ite _ _ _); walk1) | ((with_reducible show _ ∧ _); walk1) | (leave1; (try dsimp only)) | (dsimp only [InvPostN]) | fail "no step")))
    have wn : Str.ofString "arrays" ∈ worldNames := by decide +kernel
    refine ListComp_J s.heap L (fun z => if z = Str.ofString "some" then some (.ref D1) else (fun y => if y = Str.ofString "words" then some (.ref l) else none) z) (by with_unfolding_all rfl) (by decide) (by rfl) (by decide) (by rfl) ?_
    (repeat' (first | (k_unfold; (try dsimp only)) | ((fail_if_success (with_reducible show wpAny _ _ (setItem _ _ _) _ _ _)); (((with_reducible show wpAny _ _ _ _ _ _); (fail_if_success (with_reducible show wpAny _ _ (exec (Stmt.While _ _ _ _) _) _ _ _)); (fail_if_success (with_reducible show wpAny _ _ (exec (Stmt.Raise _ _ _) _) _ _ _)); (fail_if_success (with_reducible show wpAny _ _ (exec (Stmt.Try _ _ _ _ _) _) _ _ _)); (fail_if_success (with_reducible show wpAny _ _ (exec (Stmt.For _ _ _ _ _) _) _ _ _)); (fail_if_success (with_reducible show wpAny _ _ (call (Value.ref _) _) _ _ _)); (fail_if_success (with_reducible show wpAny _ _ (call (Value.builtin "dict.pop") _) _ _ _)); (fail_if_success (with_reducible show wpAny _ _ (eval (Expr.ListComp _ _ _ _) _) _ _ _)); (fail_if_success (with_reducible show wpAny _ _ (exec (Stmt.Assign _ (Expr.ListComp _ _ _ _) _) _) _ _ _)); (fail_if_success (with_reducible show wpAny _ _ (call (Value.builtin "sorted") _) _ _ _)); (fail_if_success (with_reducible show wpAny _ _ (call (Value.type "list") [Value.ref _]) _ _ _)); (fail_if_success (with_reducible show wpAny _ _ (call (Value.type "dict") [Value.ref _]) _ _ _)); (try dsimp only); walk1))) | (first | ((with_reducible show ite _ _ _); walk1) | ((with_reducible show _ ∧ _); walk1) | (leave1; (try dsimp only)) | (dsimp only [InvPostN]) | fail "no step")))
    rename Fr _ _ _ _ => F6
    rename News _ _ _ _ => N6
    refine SrcJ.list (vs := ys) (ol := LCg.lst ys) (fun i zs nw => ∃ ts : List (Addr × (Str × Tok × Value)), nw = (D1, LCg.lst ys) :: (L + 1, o1) :: ts.map tupOf ∧ zs = ts.map (fun p => Value.ref p.1) ∧ ts.map (fun p => (p.2.1, p.2.2.2)) = pick kvs (ps.take i)) rfl ⟨_, (N6 _ (.head _)).1, rfl, _, rfl⟩ (N6 _ (.head _)).1 (by rw [sizeLine_eq]; omega) F6 N6 ⟨[], rfl, rfl, rfl⟩ (.inr ?_) ?_ ?_
    · rintro i zs nw ⟨ts, rfl, _, _⟩; simp
    · rintro g i v zs nw I oI C oC Dl m2 h7 tk7 E' hi7 hv ⟨ts, rfl, rfl, hts⟩ hC hx F7 N7 off ne7
      obtain ⟨y, ty, rfl, hy⟩ := hys.item i v hv
      have e1 : List.take (i + 1) ps = List.take i ps ++ [y] := by rw [List.take_add_one, hy]; rfl
      have hpk : pick kvs (List.take (i + 1) ps) = pick kvs (List.take i ps) ++ pick kvs [y] := by rw [e1]; exact List.filterMap_append
      refine wpAny_tests_one ?_
      (repeat' (first | (k_unfold; (try dsimp only)) | ((fail_if_success (with_reducible show wpAny _ _ (setItem _ _ _) _ _ _)); (((with_reducible show wpAny _ _ _ _ _ _); (fail_if_success (with_reducible show wpAny _ _ (exec (Stmt.While _ _ _ _) _) _ _ _)); (fail_if_success (with_reducible show wpAny _ _ (exec (Stmt.Raise _ _ _) _) _ _ _)); (fail_if_success (with_reducible show wpAny _ _ (exec (Stmt.Try _ _ _ _ _) _) _ _ _)); (fail_if_success (with_reducible show wpAny _ _ (exec (Stmt.For _ _ _ _ _) _) _ _ _)); (fail_if_success (with_reducible show wpAny _ _ (call (Value.ref _) _) _ _ _)); (fail_if_success (with_reducible show wpAny _ _ (call (Value.builtin "dict.pop") _) _ _ _)); (fail_if_success (with_reducible show wpAny _ _ (eval (Expr.ListComp _ _ _ _) _) _ _ _)); (fail_if_success (with_reducible show wpAny _ _ (exec (Stmt.Assign _ (Expr.ListComp _ _ _ _) _) _) _ _ _)); (fail_if_success (with_reducible show wpAny _ _ (call (Value.builtin "sorted") _) _ _ _)); (fail_if_success (with_reducible show wpAny _ _ (call (Value.type "list") [Value.ref _]) _ _ _)); (fail_if_success (with_reducible show wpAny _ _ (call (Value.type "dict") [Value.ref _]) _ _ _)); (try dsimp only); walk1))) | (first | ((with_reducible show ite _ _ _); walk1) | ((with_reducible show _ ∧ _); walk1) | (leave1; (try dsimp only)) | (dsimp only [InvPostN]) | fail "no step")))
      rename Fr _ _ _ _ => F8
      refine wgetW (c0.keeps F8.keep) (wa.keep F8.keep) wn hf rfl ?_
      (try dsimp only)
      refine wpAny_in_of (knd := PySem.strKind prog w) (strKind_is _ _ _ _) lo (hd.keep F8.keep).mapOf ?_
      (try dsimp only)
      cases hb : valueAt kvs y with
      | none =>
        simp only [Option.isSome_none]
        (repeat' (first | (k_unfold; (try dsimp only)) | ((fail_if_success (with_reducible show wpAny _ _ (setItem _ _ _) _ _ _)); (((with_reducible show wpAny _ _ _ _ _ _); (fail_if_success (with_reducible show wpAny _ _ (exec (Stmt.While _ _ _ _) _) _ _ _)); (fail_if_success (with_reducible show wpAny _ _ (exec (Stmt.Raise _ _ _) _) _ _ _)); (fail_if_success (with_reducible show wpAny _ _ (exec (Stmt.Try _ _ _ _ _) _) _ _ _)); (fail_if_success (with_reducible show wpAny _ _ (exec (Stmt.For _ _ _ _ _) _) _ _ _)); (fail_if_success (with_reducible show wpAny _ _ (call (Value.ref _) _) _ _ _)); (fail_if_success (with_reducible show wpAny _ _ (call (Value.builtin "dict.pop") _) _ _ _)); (fail_if_success (with_reducible show wpAny _ _ (eval (Expr.ListComp _ _ _ _) _) _ _ _)); (fail_if_success (with_reducible show wpAny _ _ (exec (Stmt.Assign _ (Expr.ListComp _ _ _ _) _) _) _ _ _)); (fail_if_success (with_reducible show wpAny _ _ (call (Value.builtin "sorted") _) _ _ _)); (fail_if_success (with_reducible show wpAny _ _ (call (Value.type "list") [Value.ref _]) _ _ _)); (fail_if_success (with_reducible show wpAny _ _ (call (Value.type "dict") [Value.ref _]) _ _ _)); (try dsimp only); walk1))) | (first | ((with_reducible show ite _ _ _); walk1) | ((with_reducible show _ ∧ _); walk1) | (leave1; (try dsimp only)) | (dsimp only [InvPostN]) | fail "no step")))
        rename Fr _ _ _ _ => F9
        rename News _ _ _ _ => N9
        refine TurnEnd.intro F9 N9 _ (fun _ h => h) off ⟨ts, rfl, rfl, ?_⟩
        rw [hpk, hts]
        simp [pick, hb]
      | some u =>
        simp only [Option.isSome_some]
        (repeat' (first | (k_unfold; (try dsimp only)) | ((fail_if_success (with_reducible show wpAny _ _ (setItem _ _ _) _ _ _)); (((with_reducible show wpAny _ _ _ _ _ _); (fail_if_success (with_reducible show wpAny _ _ (exec (Stmt.While _ _ _ _) _) _ _ _)); (fail_if_success (with_reducible show wpAny _ _ (exec (Stmt.Raise _ _ _) _) _ _ _)); (fail_if_success (with_reducible show wpAny _ _ (exec (Stmt.Try _ _ _ _ _) _) _ _ _)); (fail_if_success (with_reducible show wpAny _ _ (exec (Stmt.For _ _ _ _ _) _) _ _ _)); (fail_if_success (with_reducible show wpAny _ _ (call (Value.ref _) _) _ _ _)); (fail_if_success (with_reducible show wpAny _ _ (call (Value.builtin "dict.pop") _) _ _ _)); (fail_if_success (with_reducible show wpAny _ _ (eval (Expr.ListComp _ _ _ _) _) _ _ _)); (fail_if_success (with_reducible show wpAny _ _ (exec (Stmt.Assign _ (Expr.ListComp _ _ _ _) _) _) _ _ _)); (fail_if_success (with_reducible show wpAny _ _ (call (Value.builtin "sorted") _) _ _ _)); (fail_if_success (with_reducible show wpAny _ _ (call (Value.type "list") [Value.ref _]) _ _ _)); (fail_if_success (with_reducible show wpAny _ _ (call (Value.type "dict") [Value.ref _]) _ _ _)); (try dsimp only); walk1))) | (first | ((with_reducible show ite _ _ _); walk1) | ((with_reducible show _ ∧ _); walk1) | (leave1; (try dsimp only)) | (dsimp only [InvPostN]) | fail "no step")))
        rename Fr _ _ _ _ => F9
        refine wgetW (c0.keeps F9.keep) (wa.keep F9.keep) wn hf rfl ?_
        (try dsimp only)
        (repeat' (first | (k_unfold; (try dsimp only)) | ((fail_if_success (with_reducible show wpAny _ _ (setItem _ _ _) _ _ _)); (((with_reducible show wpAny _ _ _ _ _ _); (fail_if_success (with_reducible show wpAny _ _ (exec (Stmt.While _ _ _ _) _) _ _ _)); (fail_if_success (with_reducible show wpAny _ _ (exec (Stmt.Raise _ _ _) _) _ _ _)); (fail_if_success (with_reducible show wpAny _ _ (exec (Stmt.Try _ _ _ _ _) _) _ _ _)); (fail_if_success (with_reducible show wpAny _ _ (exec (Stmt.For _ _ _ _ _) _) _ _ _)); (fail_if_success (with_reducible show wpAny _ _ (call (Value.ref _) _) _ _ _)); (fail_if_success (with_reducible show wpAny _ _ (call (Value.builtin "dict.pop") _) _ _ _)); (fail_if_success (with_reducible show wpAny _ _ (eval (Expr.ListComp _ _ _ _) _) _ _ _)); (fail_if_success (with_reducible show wpAny _ _ (exec (Stmt.Assign _ (Expr.ListComp _ _ _ _) _) _) _ _ _)); (fail_if_success (with_reducible show wpAny _ _ (call (Value.builtin "sorted") _) _ _ _)); (fail_if_success (with_reducible show wpAny _ _ (call (Value.type "list") [Value.ref _]) _ _ _)); (fail_if_success (with_reducible show wpAny _ _ (call (Value.type "dict") [Value.ref _]) _ _ _)); (try dsimp only); walk1))) | (first | ((with_reducible show ite _ _ _); walk1) | ((with_reducible show _ ∧ _); walk1) | (leave1; (try dsimp only)) | (dsimp only [InvPostN]) | fail "no step")))
        rename Fr _ _ _ _ => F10
        refine dict_item (knd := PySem.strKind prog w) (hd.keep F10.keep) (strKind_is _ _ _ _) hb ?_
        (try dsimp only)
        (repeat' (first | (k_unfold; (try dsimp only)) | ((fail_if_success (with_reducible show wpAny _ _ (setItem _ _ _) _ _ _)); (((with_reducible show wpAny _ _ _ _ _ _); (fail_if_success (with_reducible show wpAny _ _ (exec (Stmt.While _ _ _ _) _) _ _ _)); (fail_if_success (with_reducible show wpAny _ _ (exec (Stmt.Raise _ _ _) _) _ _ _)); (fail_if_success (with_reducible show wpAny _ _ (exec (Stmt.Try _ _ _ _ _) _) _ _ _)); (fail_if_success (with_reducible show wpAny _ _ (exec (Stmt.For _ _ _ _ _) _) _ _ _)); (fail_if_success (with_reducible show wpAny _ _ (call (Value.ref _) _) _ _ _)); (fail_if_success (with_reducible show wpAny _ _ (call (Value.builtin "dict.pop") _) _ _ _)); (fail_if_success (with_reducible show wpAny _ _ (eval (Expr.ListComp _ _ _ _) _) _ _ _)); (fail_if_success (with_reducible show wpAny _ _ (exec (Stmt.Assign _ (Expr.ListComp _ _ _ _) _) _) _ _ _)); (fail_if_success (with_reducible show wpAny _ _ (call (Value.builtin "sorted") _) _ _ _)); (fail_if_success (with_reducible show wpAny _ _ (call (Value.type "list") [Value.ref _]) _ _ _)); (fail_if_success (with_reducible show wpAny _ _ (call (Value.type "dict") [Value.ref _]) _ _ _)); (try dsimp only); walk1))) | (first | ((with_reducible show ite _ _ _); walk1) | ((with_reducible show _ ∧ _); walk1) | (leave1; (try dsimp only)) | (dsimp only [InvPostN]) | fail "no step")))
        rename_i D2 h11 F11 N11 lt11
        refine TurnEnd.intro F11 N11 ((D1, LCg.lst ys) :: (L + 1, o1) :: (ts ++ [(D2, y, ty, u)]).map tupOf) (fun p hp => ?_) (tup_off off lt11.1 lt11.2.1 lt11.2.2.1) ⟨ts ++ [(D2, y, ty, u)], rfl, by simp, ?_⟩
        · exact tup_sub hp
        · rw [hpk, List.map_append, hts]
          simp [pick, hb]
    · rintro zs nw ⟨ts, rfl, rfl, hts⟩ D3 h9 tk9 F9 N9 ne9
      rw [hysl, List.take_length] at hts
      have htl : ts.length = (pick kvs ps).length := by rw [← hts, List.length_map]
      have hpk : (pick kvs ps).length ≤ ps.length := List.length_filterMap_le _ _
      (try dsimp only)
      (repeat' (first | (k_unfold; (try dsimp only)) | ((fail_if_success (with_reducible show wpAny _ _ (setItem _ _ _) _ _ _)); (((with_reducible show wpAny _ _ _ _ _ _); (fail_if_success (with_reducible show wpAny _ _ (exec (Stmt.While _ _ _ _) _) _ _ _)); (fail_if_success (with_reducible show wpAny _ _ (exec (Stmt.Raise _ _ _) _) _ _ _)); (fail_if_success (with_reducible show wpAny _ _ (exec (Stmt.Try _ _ _ _ _) _) _ _ _)); (fail_if_success (with_reducible show wpAny _ _ (exec (Stmt.For _ _ _ _ _) _) _ _ _)); (fail_if_success (with_reducible show wpAny _ _ (call (Value.ref _) _) _ _ _)); (fail_if_success (with_reducible show wpAny _ _ (call (Value.builtin "dict.pop") _) _ _ _)); (fail_if_success (with_reducible show wpAny _ _ (eval (Expr.ListComp _ _ _ _) _) _ _ _)); (fail_if_success (with_reducible show wpAny _ _ (exec (Stmt.Assign _ (Expr.ListComp _ _ _ _) _) _) _ _ _)); (fail_if_success (with_reducible show wpAny _ _ (call (Value.builtin "sorted") _) _ _ _)); (fail_if_success (with_reducible show wpAny _ _ (call (Value.type "list") [Value.ref _]) _ _ _)); (fail_if_success (with_reducible show wpAny _ _ (call (Value.type "dict") [Value.ref _]) _ _ _)); (try dsimp only); walk1))) | (first | ((with_reducible show ite _ _ _); walk1) | ((with_reducible show _ ∧ _); walk1) | (leave1; (try dsimp only)) | (dsimp only [InvPostN]) | fail "no step")))
      rename Fr _ _ _ _ => F10
      rename News _ _ _ _ => N10
      refine dict_pairs (knd := PySem.strKind prog w) rfl F10 N10 T.nolimit (N10 _ (.head _)).1 (pick kvs ps) (by rw [List.length_map, htl]) (by rw [List.length_map]; omega) (fun i v hv => ?_) ?_
      · exact tup_at (N10 := fun p hp => (N10 p (.tail _ (.tail _ (.tail _ hp)))).1) hts hv
      · intro h11 tk11 o D F11 N11 loD hD neD
        (try dsimp only)
        (repeat' (first | (k_unfold; (try dsimp only)) | ((fail_if_success (with_reducible show wpAny _ _ (setItem _ _ _) _ _ _)); (((with_reducible show wpAny _ _ _ _ _ _); (fail_if_success (with_reducible show wpAny _ _ (exec (Stmt.While _ _ _ _) _) _ _ _)); (fail_if_success (with_reducible show wpAny _ _ (exec (Stmt.Raise _ _ _) _) _ _ _)); (fail_if_success (with_reducible show wpAny _ _ (exec (Stmt.Try _ _ _ _ _) _) _ _ _)); (fail_if_success (with_reducible show wpAny _ _ (exec (Stmt.For _ _ _ _ _) _) _ _ _)); (fail_if_success (with_reducible show wpAny _ _ (call (Value.ref _) _) _ _ _)); (fail_if_success (with_reducible show wpAny _ _ (call (Value.builtin "dict.pop") _) _ _ _)); (fail_if_success (with_reducible show wpAny _ _ (eval (Expr.ListComp _ _ _ _) _) _ _ _)); (fail_if_success (with_reducible show wpAny _ _ (exec (Stmt.Assign _ (Expr.ListComp _ _ _ _) _) _) _ _ _)); (fail_if_success (with_reducible show wpAny _ _ (call (Value.builtin "sorted") _) _ _ _)); (fail_if_success (with_reducible show wpAny _ _ (call (Value.type "list") [Value.ref _]) _ _ _)); (fail_if_success (with_reducible show wpAny _ _ (call (Value.type "dict") [Value.ref _]) _ _ _)); (try dsimp only); walk1))) | (first | ((with_reducible show ite _ _ _); walk1) | ((with_reducible show _ ∧ _); walk1) | (leave1; (try dsimp only)) | (dsimp only [InvPostN]) | fail "no step")))
        exact h _ _ _ _ F11.keep (N11 _ (.head _)).2.2 (N11 _ (.head _)).1 loD hD

theorem handon_spec {prog : Program} {w : World} {mean : ExcName → Option Value} {mg mb : Str → Option Value} {A : Around} {s : Shared} {Q E : Value → Shared → Prop} {g : Heap} {x dx dN dA l : Addr} {es : List DictEntry} {n : Nat} {f : Str → Option Value} {kvN kvA : List (Str × Value)} {vs : List Value} {ws : List Str}
    (c : Cx w mean mg mb g) (r : Rm A 8) (on : On g [(dx, W.dictOf es n)] s.heap) (hx : g.get? x = some (instObj 133 dx)) (fa : FieldsAre es f) (all : AllF f) (hfN : f (Str.ofString "names") = some (.ref dN)) (hfA : f (Str.ofString "arrays") = some (.ref dA))
    (hdN : g.DictOf (PySem.strKind prog w) dN kvN) (loN : (dN == sysModules) = false) (hdA : g.DictOf (PySem.strKind prog w) dA kvA) (loA : (dA == sysModules) = false) (hl : g.IsList l vs.toArray) (hw : StrsAre vs ws) (hlen : ws.length ≤ 100) (hwl : ∀ x ∈ ws, x.length ≤ 100)
    (h : ∀ h' tk es' n' f' aN oN aA oA lD lC, On g [(dx, W.dictOf es' n'), (aN, oN), (aA, oA), (lD, W.listOf #[] 0), (lC, W.listOf #[] 0)] h' → FieldsAre es' f' → AllF f' → f' (Str.ofString "names") = some (.ref aN) → f' (Str.ofString "arrays") = some (.ref aA) → f' (Str.ofString "data") = some (.ref lD) →
      (∃ t, f' (Str.ofString "spot") = some (.int 0 t)) → (∃ t, f' (Str.ofString "handler") = some (.int 0 t)) → f' (Str.ofString "common") = some (.ref lC) → f' (Str.ofString "out") = f (Str.ofString "out") → f' (Str.ofString "row") = f (Str.ofString "row") → f' (Str.ofString "files") = f (Str.ofString "files") →
      oN.IsDictOf (PySem.strKind prog w) (fillD (pick kvN (ws.filter fun x => !isArr x))) → oA.IsDictOf (PySem.strKind prog w) (fillD (pick kvA ((ws.filter isArr).map cut2))) → (aN == sysModules) = false → (aA == sysModules) = false → dx ≠ aN → dx ≠ aA → dx ≠ lD → dx ≠ lC → Q .none { s with heap := h', toks := tk }) :
    wpAny (model prog w) A (call (.ref 101) [.ref x, .ref l]) Q E s := by
  have c0 := c
  obtain ⟨X, T⟩ := c
  have rm := r
  obtain ⟨rd, ru, rh⟩ := r
  obtain ⟨ah, ad, af, ag, au⟩ := A
  dsimp only at rd ru rh
  subst rh
  refine wpAny_call ?_
  k_dflt (refine' enterG (binds := [(Str.ofString "world", .ref x), (Str.ofString "words", .ref l)]) on X T ?k6 ?k7 ?k8 ?k9 ?kB ?_ ?c2 ?c3 ?c4 ?c5; (((case k6 => k_is); (case k7 => k_is); (case k8 => ((try dsimp only); omega)); (case k9 => exact BindsTo.of_eq rfl); (case c5 => decide); (case kB => exact locs rfl); (case c2 => exact rfl); (case c3 => exact rfl); (case c4 => exact rfl))))
  intro L h1 F N hL0 hk0
  rw [lk2] at F
  dsimp only
  k_fold
  (repeat' (first | (k_unfold; (try dsimp only)) | ((fail_if_success (with_reducible show wpAny _ _ (setItem _ _ _) _ _ _)); (((with_reducible show wpAny _ _ _ _ _ _); (fail_if_success (with_reducible show wpAny _ _ (exec (Stmt.While _ _ _ _) _) _ _ _)); (fail_if_success (with_reducible show wpAny _ _ (exec (Stmt.Raise _ _ _) _) _ _ _)); (fail_if_success (with_reducible show wpAny _ _ (exec (Stmt.Try _ _ _ _ _) _) _ _ _)); (fail_if_success (with_reducible show wpAny _ _ (exec (Stmt.For _ _ _ _ _) _) _ _ _)); (fail_if_success (with_reducible show wpAny _ _ (call (Value.ref _) _) _ _ _)); (fail_if_success (with_reducible show wpAny _ _ (call (Value.builtin "dict.pop") _) _ _ _)); (fail_if_success (with_reducible show wpAny _ _ (eval (Expr.ListComp _ _ _ _) _) _ _ _)); (fail_if_success (with_reducible show wpAny _ _ (exec (Stmt.Assign _ (Expr.ListComp _ _ _ _) _) _) _ _ _)); (fail_if_success (with_reducible show wpAny _ _ (call (Value.builtin "sorted") _) _ _ _)); (fail_if_success (with_reducible show wpAny _ _ (call (Value.type "list") [Value.ref _]) _ _ _)); (fail_if_success (with_reducible show wpAny _ _ (call (Value.type "dict") [Value.ref _]) _ _ _)); (try dsimp only); walk1))) | (first | ((with_reducible show ite _ _ _); walk1) | ((with_reducible show _ ∧ _); walk1) | (leave1; (try dsimp only)) | (dsimp only [InvPostN]) | fail "no step")))
  refine cnames_spec (c0.keeps F.keep) (rm.deep (by decide)) ⟨es, n, F.keep _ _ hx, (N _ (.head _)).1, fa⟩ hfN (hdN.keep F.keep) loN (list_keep hl F.keep) hw hlen hwl ?_
  intro h2 tk2 aN oN k2 n2 e2 lo2 i2
  obtain ⟨F2, N2, ne2⟩ := news_add F N k2 n2 e2
  (try dsimp only)
  (repeat' (first | (k_unfold; (try dsimp only)) | ((fail_if_success (with_reducible show wpAny _ _ (setItem _ _ _) _ _ _)); (((with_reducible show wpAny _ _ _ _ _ _); (fail_if_success (with_reducible show wpAny _ _ (exec (Stmt.While _ _ _ _) _) _ _ _)); (fail_if_success (with_reducible show wpAny _ _ (exec (Stmt.Raise _ _ _) _) _ _ _)); (fail_if_success (with_reducible show wpAny _ _ (exec (Stmt.Try _ _ _ _ _) _) _ _ _)); (fail_if_success (with_reducible show wpAny _ _ (exec (Stmt.For _ _ _ _ _) _) _ _ _)); (fail_if_success (with_reducible show wpAny _ _ (call (Value.ref _) _) _ _ _)); (fail_if_success (with_reducible show wpAny _ _ (call (Value.builtin "dict.pop") _) _ _ _)); (fail_if_success (with_reducible show wpAny _ _ (eval (Expr.ListComp _ _ _ _) _) _ _ _)); (fail_if_success (with_reducible show wpAny _ _ (exec (Stmt.Assign _ (Expr.ListComp _ _ _ _) _) _) _ _ _)); (fail_if_success (with_reducible show wpAny _ _ (call (Value.builtin "sorted") _) _ _ _)); (fail_if_success (with_reducible show wpAny _ _ (call (Value.type "list") [Value.ref _]) _ _ _)); (fail_if_success (with_reducible show wpAny _ _ (call (Value.type "dict") [Value.ref _]) _ _ _)); (try dsimp only); walk1))) | (first | ((with_reducible show ite _ _ _); walk1) | ((with_reducible show _ ∧ _); walk1) | (leave1; (try dsimp only)) | (dsimp only [InvPostN]) | fail "no step")))
  have d1 : @Ne Nat dx aN := ne2 _ (.head _)
  refine carrays_spec (c0.keeps F2.keep) (rm.deep (by decide)) ⟨es, n, F2.keep _ _ hx, (N2 _ (.tail _ (.head _))).1, fa⟩ hfA (hdA.keep F2.keep) loA (list_keep hl F2.keep) hw hlen hwl ?_
  intro h3 tk3 aA oA k3 n3 e3 lo3 i3
  obtain ⟨F3, N3, ne3⟩ := news_add F2 N2 k3 n3 e3
  have d2 : @Ne Nat dx aA := ne3 _ (.tail _ (.head _))
  have d3 : @Ne Nat aN aA := ne3 _ (.head _)
  clear ne2 ne3 k2 n2 e2 k3 n3 e3
  (try dsimp only)
  (repeat' (first | (k_unfold; (try dsimp only)) | ((fail_if_success (with_reducible show wpAny _ _ (setItem _ _ _) _ _ _)); (((with_reducible show wpAny _ _ _ _ _ _); (fail_if_success (with_reducible show wpAny _ _ (exec (Stmt.While _ _ _ _) _) _ _ _)); (fail_if_success (with_reducible show wpAny _ _ (exec (Stmt.Raise _ _ _) _) _ _ _)); (fail_if_success (with_reducible show wpAny _ _ (exec (Stmt.Try _ _ _ _ _) _) _ _ _)); (fail_if_success (with_reducible show wpAny _ _ (exec (Stmt.For _ _ _ _ _) _) _ _ _)); (fail_if_success (with_reducible show wpAny _ _ (call (Value.ref _) _) _ _ _)); (fail_if_success (with_reducible show wpAny _ _ (call (Value.builtin "dict.pop") _) _ _ _)); (fail_if_success (with_reducible show wpAny _ _ (eval (Expr.ListComp _ _ _ _) _) _ _ _)); (fail_if_success (with_reducible show wpAny _ _ (exec (Stmt.Assign _ (Expr.ListComp _ _ _ _) _) _) _ _ _)); (fail_if_success (with_reducible show wpAny _ _ (call (Value.builtin "sorted") _) _ _ _)); (fail_if_success (with_reducible show wpAny _ _ (call (Value.type "list") [Value.ref _]) _ _ _)); (fail_if_success (with_reducible show wpAny _ _ (call (Value.type "dict") [Value.ref _]) _ _ _)); (try dsimp only); walk1))) | (first | ((with_reducible show ite _ _ _); walk1) | ((with_reducible show _ ∧ _); walk1) | (leave1; (try dsimp only)) | (dsimp only [InvPostN]) | fail "no step")))
  iterate 11 (((rename Fr _ _ _ _ => kF); (rename News _ _ _ _ => kN); (refine wsetB (by assumption) kF kN (kF.keep _ _ (by assumption)) (by k_updF) (by assumption) (by assumption) (by decide +kernel) ?_); clear kF kN; intro wh wes wn wF wN wfa wall; (try dsimp only at wN); (try dsimp only); (repeat' (first | (k_unfold; (try dsimp only)) | ((fail_if_success (with_reducible show wpAny _ _ (setItem _ _ _) _ _ _)); (((with_reducible show wpAny _ _ _ _ _ _); (fail_if_success (with_reducible show wpAny _ _ (exec (Stmt.While _ _ _ _) _) _ _ _)); (fail_if_success (with_reducible show wpAny _ _ (exec (Stmt.Raise _ _ _) _) _ _ _)); (fail_if_success (with_reducible show wpAny _ _ (exec (Stmt.Try _ _ _ _ _) _) _ _ _)); (fail_if_success (with_reducible show wpAny _ _ (exec (Stmt.For _ _ _ _ _) _) _ _ _)); (fail_if_success (with_reducible show wpAny _ _ (call (Value.ref _) _) _ _ _)); (fail_if_success (with_reducible show wpAny _ _ (call (Value.builtin "dict.pop") _) _ _ _)); (fail_if_success (with_reducible show wpAny _ _ (eval (Expr.ListComp _ _ _ _) _) _ _ _)); (fail_if_success (with_reducible show wpAny _ _ (exec (Stmt.Assign _ (Expr.ListComp _ _ _ _) _) _) _ _ _)); (fail_if_success (with_reducible show wpAny _ _ (call (Value.builtin "sorted") _) _ _ _)); (fail_if_success (with_reducible show wpAny _ _ (call (Value.type "list") [Value.ref _]) _ _ _)); (fail_if_success (with_reducible show wpAny _ _ (call (Value.type "dict") [Value.ref _]) _ _ _)); (try dsimp only); walk1))) | (first | ((with_reducible show ite _ _ _); walk1) | ((with_reducible show _ ∧ _); walk1) | (leave1; (try dsimp only)) | (dsimp only [InvPostN]) | fail "no step")))))
  rename Fr _ _ _ _ => F9
  rename News _ _ _ _ => N9
  rename FieldsAre _ _ => fa9
  rename AllF _ => all9
  refine h _ _ ?e9 ?n9 _ aN oN aA oA ?lD ?lC (On.mk2 F9.keep (Fr.size F9) (all_cons (led_goal N9 ?m0) (all_cons (led_goal N9 ?m1) (all_cons (led_goal N9 ?m2) (all_cons (led_goal N9 ?m3) (all_cons (led_goal N9 ?m4) all_nil)))))) ?z1 all9 rfl rfl ?q1 ⟨_, rfl⟩ ⟨_, rfl⟩ ?q2 rfl rfl rfl i2 i3 lo2 lo3 d1 d2 ?q3 ?q4
  case q1 => rfl
  case q2 => rfl
  case m0 => repeat (first | exact List.Mem.head _ | apply List.Mem.tail)
  case z1 => exact fa9
  case m1 => repeat (first | exact List.Mem.head _ | apply List.Mem.tail)
  case m2 => repeat (first | exact List.Mem.head _ | apply List.Mem.tail)
  case m3 => repeat (first | exact List.Mem.head _ | apply List.Mem.tail)
  case m4 => repeat (first | exact List.Mem.head _ | apply List.Mem.tail)
  case q3 => k_ne
  case q4 => k_ne

/-- one object of the ledger is changed by a call, and new ones stand -/
theorem On.back1x {h₀ h h' : Heap} {L d : Addr} {m : Str → Option Value} {news led : List (Addr × Obj)} {o o' : Obj} {gf : Obj → List (Addr × Obj)} (F : Fr h₀ L h m) (N : News h₀ L h news) (U : UpdF d o news gf) (on : On (Mine.holes h [d]) ((d, o') :: led) h') (hne : ∀ p ∈ led, p.1 ≠ d) :
    Fr h₀ L h' m ∧ News h₀ L h' (led ++ gf o') := by
  obtain ⟨pre, post, rfl, hg, a, b⟩ := U.split
  have z := On.back F N (as := [d]) (fun a ha => ⟨o, by rw [List.mem_singleton.mp ha]; simp⟩) on
  refine ⟨z.1, z.2 _ fun p hp => ?_⟩
  rcases List.mem_append.mp hp with hp | hp
  · refine .inr ⟨.tail _ hp, .inr ?_⟩
    have q := (on.led p (.tail _ hp)).2
    rw [holes_get, if_neg (by simpa using hne p hp)] at q
    exact q
  · rw [hg] at hp
    rcases List.mem_append.mp hp with hp | hp
    · exact .inl ⟨List.mem_append_left _ hp, by simpa using a p hp⟩
    · rcases List.mem_cons.mp hp with rfl | hp
      · exact .inr ⟨.head _, .inl (by simp)⟩
      · exact .inl ⟨List.mem_append_right _ (.tail _ hp), by simpa using b p hp⟩
/-- where a program begins -/
def Begins (P : List (Int × Str)) (line v : Value) : Prop := (line = .none ∧ ((P = [] ∧ v = .none) ∨ ∃ M t, v = .int M t ∧ M ∈ P.map (·.1) ∧ ∀ a ∈ P.map (·.1), M ≤ a)) ∨ ∃ k t, line = .int k t ∧ k ∈ P.map (·.1) ∧ v = line
def LineIn (P : List (Int × Str)) (line : Value) : Prop := line = .none ∨ ∃ k t, line = .int k t ∧ k ∈ P.map (·.1)
theorem fline_ok {prog : Program} {w : World} {mean : ExcName → Option Value} {mg mb : Str → Option Value} {A : Around} {s : Shared} {Q E : Value → Shared → Prop} {d : Addr} {P : List (Int × Str)} {line : Value}
    (c : Cx w mean mg mb s.heap) (r : Rm A 3) (hp : ProgAt prog w s.heap d P) (few : P.length < 64) (hline : LineIn P line)
    (h : ∀ h' tk v, (∀ b o, s.heap.get? b = some o → h'.get? b = some o) → Begins P line v → Q v { s with heap := h', toks := tk }) :
    wpAny (model prog w) A (call (.ref 108) [.ref d, line]) Q E s := by
  rcases hline with rfl | ⟨k, t, rfl, hk⟩
  · exact fline_none c r hp few fun h' tk v k hv => h h' tk v k (.inl ⟨rfl, hv⟩)
  · exact fline_in c r hp hk fun h' tk k' => h h' tk _ k' (.inr ⟨k, t, rfl, hk, rfl⟩)
theorem chained_ok {prog : Program} {w : World} {mean : ExcName → Option Value} {mg mb : Str → Option Value} {A : Around} {s : Shared} {Q E : Value → Shared → Prop} {g : Heap} {x dx dN dA dF l : Addr} {es : List DictEntry} {n : Nat} {f : Str → Option Value} {kvN kvA kvF : List (Str × Value)} {vs : List Value} {ws : List Str}
    {name tx : Str} {tn tt : Tok} {rows : List RowD} {line : Value}
    (c : Cx w mean mg mb g) (r : Rm A 10) (on : On g [(dx, W.dictOf es n)] s.heap) (hx : g.get? x = some (instObj 133 dx)) (fa : FieldsAre es f) (all : AllF f) (hfN : f (Str.ofString "names") = some (.ref dN)) (hfA : f (Str.ofString "arrays") = some (.ref dA))
    (hfF : f (Str.ofString "files") = some (.ref dF)) (hfC : f (Str.ofString "common") = some (.ref l))
    (hdN : g.DictOf (PySem.strKind prog w) dN kvN) (loN : (dN == sysModules) = false) (hdA : g.DictOf (PySem.strKind prog w) dA kvA) (loA : (dA == sysModules) = false) (hl : g.IsList l vs.toArray) (hw : StrsAre vs ws) (hlen : ws.length ≤ 100) (hwl : ∀ x ∈ ws, x.length ≤ 100)
    (hdF : g.DictOf (PySem.strKind prog w) dF kvF) (loF : (dF == sysModules) = false) (hv : valueAt kvF name = some (.str tx tt)) (htx : tx.length ≤ 1048576) (hs : Txt.split tx (Str.ofString "\n") = rows.map RowD.str) (hok : ∀ r ∈ rows, r.Ok) (hrl : rows.length ≤ 1000)
    (few : (rows.foldl loadStep []).length < 64) (hline : LineIn (rows.foldl loadStep []) line)
    (h : ∀ h' tk es' n' f' aT aP oP aN oN aA oA lD lC v, On g [(dx, W.dictOf es' n'), (aT, { cls := .type "tuple", data := .seq #[.ref aP, v] }), (aP, oP), (aN, oN), (aA, oA), (lD, W.listOf #[] 0), (lC, W.listOf #[] 0)] h' → FieldsAre es' f' → AllF f' → f' (Str.ofString "names") = some (.ref aN) → f' (Str.ofString "arrays") = some (.ref aA) → f' (Str.ofString "data") = some (.ref lD) →
      (∃ t, f' (Str.ofString "spot") = some (.int 0 t)) → (∃ t, f' (Str.ofString "handler") = some (.int 0 t)) → f' (Str.ofString "common") = some (.ref lC) → f' (Str.ofString "out") = f (Str.ofString "out") → f' (Str.ofString "row") = f (Str.ofString "row") → f' (Str.ofString "files") = f (Str.ofString "files") →
      oN.IsDictOf (PySem.strKind prog w) (fillD (pick kvN (ws.filter fun x => !isArr x))) → oA.IsDictOf (PySem.strKind prog w) (fillD (pick kvA ((ws.filter isArr).map cut2))) → (aN == sysModules) = false → (aA == sysModules) = false → ProgAt prog w h' aP (rows.foldl loadStep []) → Begins (rows.foldl loadStep []) line v → (∀ a ∈ [aT, aP, aN, aA, lD, lC], a ≠ dx) → Q (.ref aT) { s with heap := h', toks := tk }) :
    wpAny (model prog w) A (call (.ref 115) [.ref x, .str name tn, line]) Q E s := by
  have c0 := c
  obtain ⟨X, T⟩ := c
  have rm := r
  obtain ⟨rd, ru, rh⟩ := r
  obtain ⟨ah, ad, af, ag, au⟩ := A
  dsimp only at rd ru rh
  subst rh
  refine wpAny_call ?_
  k_dflt (refine' enterG (binds := [(Str.ofString "world", .ref x), (Str.ofString "name", .str name tn), (Str.ofString "line", line)]) on X T ?k6 ?k7 ?k8 ?k9 ?kB ?_ ?c2 ?c3 ?c4 ?c5; (((case k6 => k_is); (case k7 => k_is); (case k8 => ((try dsimp only); omega)); (case k9 => exact BindsTo.of_eq rfl); (case c5 => decide); (case kB => exact locs rfl); (case c2 => exact rfl); (case c3 => exact rfl); (case c4 => exact rfl))))
  intro L h1 F N hL0 hk0
  rw [lk3] at F
  dsimp only
  k_fold
  have hne : x ≠ dx := fun q => by have z := (on.led _ (.head _)).2; rw [← q, hx] at z; cases z
  (repeat' (first | (k_unfold; (try dsimp only)) | ((fail_if_success (with_reducible show wpAny _ _ (setItem _ _ _) _ _ _)); (((with_reducible show wpAny _ _ _ _ _ _); (fail_if_success (with_reducible show wpAny _ _ (exec (Stmt.While _ _ _ _) _) _ _ _)); (fail_if_success (with_reducible show wpAny _ _ (exec (Stmt.Raise _ _ _) _) _ _ _)); (fail_if_success (with_reducible show wpAny _ _ (exec (Stmt.Try _ _ _ _ _) _) _ _ _)); (fail_if_success (with_reducible show wpAny _ _ (exec (Stmt.For _ _ _ _ _) _) _ _ _)); (fail_if_success (with_reducible show wpAny _ _ (call (Value.ref _) _) _ _ _)); (fail_if_success (with_reducible show wpAny _ _ (call (Value.builtin "dict.pop") _) _ _ _)); (fail_if_success (with_reducible show wpAny _ _ (eval (Expr.ListComp _ _ _ _) _) _ _ _)); (fail_if_success (with_reducible show wpAny _ _ (exec (Stmt.Assign _ (Expr.ListComp _ _ _ _) _) _) _ _ _)); (fail_if_success (with_reducible show wpAny _ _ (call (Value.builtin "sorted") _) _ _ _)); (fail_if_success (with_reducible show wpAny _ _ (call (Value.type "list") [Value.ref _]) _ _ _)); (fail_if_success (with_reducible show wpAny _ _ (call (Value.type "dict") [Value.ref _]) _ _ _)); (try dsimp only); walk1))) | (first | ((with_reducible show ite _ _ _); walk1) | ((with_reducible show _ ∧ _); walk1) | (leave1; (try dsimp only)) | (dsimp only [InvPostN]) | fail "no step")))
  refine pnamed_ok (c0.keeps F.keep) (rm.deep (by decide)) ⟨es, n, F.keep _ _ hx, (N _ (.head _)).1, fa⟩ hfF (hdF.keep F.keep) loF hv htx hs hok hrl ?_
  intro h2 tk2 aP k2 n2 p2
  generalize rows.foldl loadStep [] = P at p2 few hline h
  have p2' := p2
  obtain ⟨loP, kvP, hdP, hP⟩ := p2'
  obtain ⟨oP, hoP, hiP⟩ := Heap.dictOf_iff.mp hdP
  obtain ⟨F2, N2, ne2⟩ := news_add F N k2 n2 hoP
  have d1 : @Ne Nat dx aP := ne2 _ (.head _)
  (try dsimp only)
  (repeat' (first | (k_unfold; (try dsimp only)) | ((fail_if_success (with_reducible show wpAny _ _ (setItem _ _ _) _ _ _)); (((with_reducible show wpAny _ _ _ _ _ _); (fail_if_success (with_reducible show wpAny _ _ (exec (Stmt.While _ _ _ _) _) _ _ _)); (fail_if_success (with_reducible show wpAny _ _ (exec (Stmt.Raise _ _ _) _) _ _ _)); (fail_if_success (with_reducible show wpAny _ _ (exec (Stmt.Try _ _ _ _ _) _) _ _ _)); (fail_if_success (with_reducible show wpAny _ _ (exec (Stmt.For _ _ _ _ _) _) _ _ _)); (fail_if_success (with_reducible show wpAny _ _ (call (Value.ref _) _) _ _ _)); (fail_if_success (with_reducible show wpAny _ _ (call (Value.builtin "dict.pop") _) _ _ _)); (fail_if_success (with_reducible show wpAny _ _ (eval (Expr.ListComp _ _ _ _) _) _ _ _)); (fail_if_success (with_reducible show wpAny _ _ (exec (Stmt.Assign _ (Expr.ListComp _ _ _ _) _) _) _ _ _)); (fail_if_success (with_reducible show wpAny _ _ (call (Value.builtin "sorted") _) _ _ _)); (fail_if_success (with_reducible show wpAny _ _ (call (Value.type "list") [Value.ref _]) _ _ _)); (fail_if_success (with_reducible show wpAny _ _ (call (Value.type "dict") [Value.ref _]) _ _ _)); (try dsimp only); walk1))) | (first | ((with_reducible show ite _ _ _); walk1) | ((with_reducible show _ ∧ _); walk1) | (leave1; (try dsimp only)) | (dsimp only [InvPostN]) | fail "no step")))
  rename Fr _ _ _ _ => F3
  rename News _ _ _ _ => N3
  have p3 : ProgAt prog w _ aP P := ⟨loP, kvP, Heap.dictOf_iff.mpr ⟨oP, (N3 _ (.head _)).1, hiP⟩, hP⟩
  refine fline_ok (c0.keeps F3.keep) (rm.deep (by decide)) p3 few hline ?_
  intro h4 tk4 v k4 hb
  have F4 := F3.keeps k4
  have N4 := N3.grown k4
  (try dsimp only)
  (repeat' (first | (k_unfold; (try dsimp only)) | ((fail_if_success (with_reducible show wpAny _ _ (setItem _ _ _) _ _ _)); (((with_reducible show wpAny _ _ _ _ _ _); (fail_if_success (with_reducible show wpAny _ _ (exec (Stmt.While _ _ _ _) _) _ _ _)); (fail_if_success (with_reducible show wpAny _ _ (exec (Stmt.Raise _ _ _) _) _ _ _)); (fail_if_success (with_reducible show wpAny _ _ (exec (Stmt.Try _ _ _ _ _) _) _ _ _)); (fail_if_success (with_reducible show wpAny _ _ (exec (Stmt.For _ _ _ _ _) _) _ _ _)); (fail_if_success (with_reducible show wpAny _ _ (call (Value.ref _) _) _ _ _)); (fail_if_success (with_reducible show wpAny _ _ (call (Value.builtin "dict.pop") _) _ _ _)); (fail_if_success (with_reducible show wpAny _ _ (eval (Expr.ListComp _ _ _ _) _) _ _ _)); (fail_if_success (with_reducible show wpAny _ _ (exec (Stmt.Assign _ (Expr.ListComp _ _ _ _) _) _) _ _ _)); (fail_if_success (with_reducible show wpAny _ _ (call (Value.builtin "sorted") _) _ _ _)); (fail_if_success (with_reducible show wpAny _ _ (call (Value.type "list") [Value.ref _]) _ _ _)); (fail_if_success (with_reducible show wpAny _ _ (call (Value.type "dict") [Value.ref _]) _ _ _)); (try dsimp only); walk1))) | (first | ((with_reducible show ite _ _ _); walk1) | ((with_reducible show _ ∧ _); walk1) | (leave1; (try dsimp only)) | (dsimp only [InvPostN]) | fail "no step")))
  have wn : Str.ofString "common" ∈ worldNames := by decide +kernel
  rename Fr _ _ _ _ => F5
  rename News _ _ _ _ => N5
  refine wgetW (c0.keeps F5.keep) ⟨es, n, F5.keep _ _ hx, (N5 _ (.tail _ (.head _))).1, fa⟩ wn hfC rfl ?_
  (try dsimp only)
  (repeat' (first | (k_unfold; (try dsimp only)) | ((fail_if_success (with_reducible show wpAny _ _ (setItem _ _ _) _ _ _)); (((with_reducible show wpAny _ _ _ _ _ _); (fail_if_success (with_reducible show wpAny _ _ (exec (Stmt.While _ _ _ _) _) _ _ _)); (fail_if_success (with_reducible show wpAny _ _ (exec (Stmt.Raise _ _ _) _) _ _ _)); (fail_if_success (with_reducible show wpAny _ _ (exec (Stmt.Try _ _ _ _ _) _) _ _ _)); (fail_if_success (with_reducible show wpAny _ _ (exec (Stmt.For _ _ _ _ _) _) _ _ _)); (fail_if_success (with_reducible show wpAny _ _ (call (Value.ref _) _) _ _ _)); (fail_if_success (with_reducible show wpAny _ _ (call (Value.builtin "dict.pop") _) _ _ _)); (fail_if_success (with_reducible show wpAny _ _ (eval (Expr.ListComp _ _ _ _) _) _ _ _)); (fail_if_success (with_reducible show wpAny _ _ (exec (Stmt.Assign _ (Expr.ListComp _ _ _ _) _) _) _ _ _)); (fail_if_success (with_reducible show wpAny _ _ (call (Value.builtin "sorted") _) _ _ _)); (fail_if_success (with_reducible show wpAny _ _ (call (Value.type "list") [Value.ref _]) _ _ _)); (fail_if_success (with_reducible show wpAny _ _ (call (Value.type "dict") [Value.ref _]) _ _ _)); (try dsimp only); walk1))) | (first | ((with_reducible show ite _ _ _); walk1) | ((with_reducible show _ ∧ _); walk1) | (leave1; (try dsimp only)) | (dsimp only [InvPostN]) | fail "no step")))
  rename Fr _ _ _ _ => F6
  rename News _ _ _ _ => N6
  have hm6 : (dx, W.dictOf es n) ∈ [(aP, oP), (dx, W.dictOf es n)] := .tail _ (.head _)
  have hov := News.over F6 N6 (as := [dx]) fun a ha => ⟨W.dictOf es n, List.mem_singleton.mp ha ▸ hm6⟩
  refine handon_spec (c0.keeps hov) (rm.deep (by decide)) (On.hole1 N6 hm6) (hov _ _ hx) fa all hfN hfA (hdN.keep hov) loN (hdA.keep hov) loA (list_keep hl hov) hw hlen hwl ?_
  intro h7 tk7 es7 n7 f7 aN oN aA oA lD lC on7 fa7 all7 e1 e2 e3 e4 e5 e6 e7 e8 e9 iN iA loN' loA' d2 d3 d4 d5
  obtain ⟨F7, N7⟩ := On.back1x F6 N6 (by k_updF) on7 (all_cons (Ne.symm d2) (all_cons (Ne.symm d3) (all_cons (Ne.symm d4) (all_cons (Ne.symm d5) all_nil))))
  (try dsimp only [List.cons_append, List.nil_append] at N7)
  (try dsimp only)
  (repeat' (first | (k_unfold; (try dsimp only)) | ((fail_if_success (with_reducible show wpAny _ _ (setItem _ _ _) _ _ _)); (((with_reducible show wpAny _ _ _ _ _ _); (fail_if_success (with_reducible show wpAny _ _ (exec (Stmt.While _ _ _ _) _) _ _ _)); (fail_if_success (with_reducible show wpAny _ _ (exec (Stmt.Raise _ _ _) _) _ _ _)); (fail_if_success (with_reducible show wpAny _ _ (exec (Stmt.Try _ _ _ _ _) _) _ _ _)); (fail_if_success (with_reducible show wpAny _ _ (exec (Stmt.For _ _ _ _ _) _) _ _ _)); (fail_if_success (with_reducible show wpAny _ _ (call (Value.ref _) _) _ _ _)); (fail_if_success (with_reducible show wpAny _ _ (call (Value.builtin "dict.pop") _) _ _ _)); (fail_if_success (with_reducible show wpAny _ _ (eval (Expr.ListComp _ _ _ _) _) _ _ _)); (fail_if_success (with_reducible show wpAny _ _ (exec (Stmt.Assign _ (Expr.ListComp _ _ _ _) _) _) _ _ _)); (fail_if_success (with_reducible show wpAny _ _ (call (Value.builtin "sorted") _) _ _ _)); (fail_if_success (with_reducible show wpAny _ _ (call (Value.type "list") [Value.ref _]) _ _ _)); (fail_if_success (with_reducible show wpAny _ _ (call (Value.type "dict") [Value.ref _]) _ _ _)); (try dsimp only); walk1))) | (first | ((with_reducible show ite _ _ _); walk1) | ((with_reducible show _ ∧ _); walk1) | (leave1; (try dsimp only)) | (dsimp only [InvPostN]) | fail "no step")))
  rename Fr _ _ _ _ => F9
  rename News _ _ _ _ => N9
  refine h _ _ es7 n7 f7 ?aT aP oP aN oN aA oA lD lC v (On.sub (On.of F9 N9) ?sub) fa7 all7 e1 e2 e3 e4 e5 e6 e7 e8 e9 iN iA loN' loA' ⟨loP, kvP, Heap.dictOf_iff.mpr ⟨oP, (N9 (aP, oP) (by simp)).1, hiP⟩, hP⟩ hb ?nes
  case nes =>
    refine all_cons ?n0 (all_cons (Ne.symm d1) (all_cons (Ne.symm d2) (all_cons (Ne.symm d3) (all_cons (Ne.symm d4) (all_cons (Ne.symm d5) all_nil)))))
    k_ne
  case sub =>
    (((repeat' (first | exact all_nil | refine all_cons ?_ ?_)) <;> first | k_mem | (exact fun p hp => by repeat (first | exact hp | exact List.mem_append_left _ hp | apply List.Mem.tail))))

theorem chained_ff {prog : Program} {w : World} {mean : ExcName → Option Value} {mg mb : Str → Option Value} {A : Around} {s : Shared} {Q E : Value → Shared → Prop} {x dx dF : Addr} {f : Str → Option Value} {kvs : List (Str × Value)} {name : Str} {tn : Tok} {line : Value} {outer : List Env}
    (px : PX prog) (c : Cx w mean mg mb s.heap) (r : Rm A 10) (hA : A.frames = some outer) (hff : FF s.heap outer) (wa : WAt s.heap x dx f) (hf : f (Str.ofString "files") = some (.ref dF)) (hd : s.heap.DictOf (PySem.strKind prog w) dF kvs) (lo : (dF == sysModules) = false) (hv : valueAt kvs name = none)
    (h : ∀ h' tk e t, Raised s.heap outer (.str (Str.ofString "FF") t) e h' → E (.ref e) { s with heap := h', toks := tk }) :
    wpAny (model prog w) A (call (.ref 115) [.ref x, .str name tn, line]) Q E s := by
  have c0 := c
  obtain ⟨X, T⟩ := c
  have rm := r
  obtain ⟨rd, ru, rh⟩ := r
  obtain ⟨ah, ad, af, ag, au⟩ := A
  dsimp only at rd ru rh hA
  subst rh
  refine wpAny_call ?_
  k_dflt (refine' enter_pure (binds := [(Str.ofString "world", .ref x), (Str.ofString "name", .str name tn), (Str.ofString "line", line)]) X T ?k6 ?k7 ?k8 ?k9 ?kB ?_ ?c2 ?c3 ?c4 ?c5; (((case k6 => k_is); (case k7 => k_is); (case k8 => ((try dsimp only); omega)); (case k9 => exact BindsTo.of_eq rfl); (case c5 => decide); (case kB => exact locs rfl); (case c2 => exact rfl); (case c3 => exact rfl); (case c4 => exact rfl))))
  intro L h1 F N
  rw [lk3] at F
  dsimp only
  k_fold
  (repeat' (first | (k_unfold; (try dsimp only)) | ((fail_if_success (with_reducible show wpAny _ _ (setItem _ _ _) _ _ _)); (((with_reducible show wpAny _ _ _ _ _ _); (fail_if_success (with_reducible show wpAny _ _ (exec (Stmt.While _ _ _ _) _) _ _ _)); (fail_if_success (with_reducible show wpAny _ _ (exec (Stmt.Raise _ _ _) _) _ _ _)); (fail_if_success (with_reducible show wpAny _ _ (exec (Stmt.Try _ _ _ _ _) _) _ _ _)); (fail_if_success (with_reducible show wpAny _ _ (exec (Stmt.For _ _ _ _ _) _) _ _ _)); (fail_if_success (with_reducible show wpAny _ _ (call (Value.ref _) _) _ _ _)); (fail_if_success (with_reducible show wpAny _ _ (call (Value.builtin "dict.pop") _) _ _ _)); (fail_if_success (with_reducible show wpAny _ _ (eval (Expr.ListComp _ _ _ _) _) _ _ _)); (fail_if_success (with_reducible show wpAny _ _ (exec (Stmt.Assign _ (Expr.ListComp _ _ _ _) _) _) _ _ _)); (fail_if_success (with_reducible show wpAny _ _ (call (Value.builtin "sorted") _) _ _ _)); (fail_if_success (with_reducible show wpAny _ _ (call (Value.type "list") [Value.ref _]) _ _ _)); (fail_if_success (with_reducible show wpAny _ _ (call (Value.type "dict") [Value.ref _]) _ _ _)); (try dsimp only); walk1))) | (first | ((with_reducible show ite _ _ _); walk1) | ((with_reducible show _ ∧ _); walk1) | (leave1; (try dsimp only)) | (dsimp only [InvPostN]) | fail "no step")))
  rename Fr _ _ _ _ => F2
  subst hA
  refine pnamed_ff px (c0.keeps F2.keep) (rm.deep (by decide)) rfl (FF.push F2 hff (by show ScopeKind.function ≠ ScopeKind.module; decide) rfl) (wa.keep F2.keep) hf (hd.keep F2.keep) lo hv ?_
  intro h3 tk3 e t R3
  (try dsimp only)
  refine leave_next rfl F2 rfl R3 ?_
  intro h7 R7
  exact h _ _ _ _ R7
theorem chained_ul {prog : Program} {w : World} {mean : ExcName → Option Value} {mg mb : Str → Option Value} {A : Around} {s : Shared} {Q E : Value → Shared → Prop} {x dx dF : Addr} {f : Str → Option Value} {kvs : List (Str × Value)} {name tx : Str} {tn tt : Tok} {rows : List RowD} {k : Int} {tl : Tok} {outer : List Env}
    (px : PX prog) (c : Cx w mean mg mb s.heap) (r : Rm A 10) (hA : A.frames = some outer) (hff : FF s.heap outer) (wa : WAt s.heap x dx f) (hf : f (Str.ofString "files") = some (.ref dF)) (hd : s.heap.DictOf (PySem.strKind prog w) dF kvs) (lo : (dF == sysModules) = false) (hv : valueAt kvs name = some (.str tx tt))
    (hx : tx.length ≤ 1048576) (hs : Txt.split tx (Str.ofString "\n") = rows.map RowD.str) (hok : ∀ r ∈ rows, r.Ok) (hlen : rows.length ≤ 1000) (hk : k ∉ (rows.foldl loadStep []).map (·.1)) (hkn : 0 ≤ k ∧ k ≤ 65529) (hks : (Str.ofString (toString k)).length ≤ 100)
    (h : ∀ h' tk e t, Raised s.heap outer (.str (Str.ofString "UL") t) e h' → E (.ref e) { s with heap := h', toks := tk }) :
    wpAny (model prog w) A (call (.ref 115) [.ref x, .str name tn, .int k tl]) Q E s := by
  have c0 := c
  obtain ⟨X, T⟩ := c
  have rm := r
  obtain ⟨rd, ru, rh⟩ := r
  obtain ⟨ah, ad, af, ag, au⟩ := A
  dsimp only at rd ru rh hA
  subst rh
  refine wpAny_call ?_
  k_dflt (refine' enter_pure (binds := [(Str.ofString "world", .ref x), (Str.ofString "name", .str name tn), (Str.ofString "line", .int k tl)]) X T ?k6 ?k7 ?k8 ?k9 ?kB ?_ ?c2 ?c3 ?c4 ?c5; (((case k6 => k_is); (case k7 => k_is); (case k8 => ((try dsimp only); omega)); (case k9 => exact BindsTo.of_eq rfl); (case c5 => decide); (case kB => exact locs rfl); (case c2 => exact rfl); (case c3 => exact rfl); (case c4 => exact rfl))))
  intro L h1 F N
  rw [lk3] at F
  dsimp only
  k_fold
  (repeat' (first | (k_unfold; (try dsimp only)) | ((fail_if_success (with_reducible show wpAny _ _ (setItem _ _ _) _ _ _)); (((with_reducible show wpAny _ _ _ _ _ _); (fail_if_success (with_reducible show wpAny _ _ (exec (Stmt.While _ _ _ _) _) _ _ _)); (fail_if_success (with_reducible show wpAny _ _ (exec (Stmt.Raise _ _ _) _) _ _ _)); (fail_if_success (with_reducible show wpAny _ _ (exec (Stmt.Try _ _ _ _ _) _) _ _ _)); (fail_if_success (with_reducible show wpAny _ _ (exec (Stmt.For _ _ _ _ _) _) _ _ _)); (fail_if_success (with_reducible show wpAny _ _ (call (Value.ref _) _) _ _ _)); (fail_if_success (with_reducible show wpAny _ _ (call (Value.builtin "dict.pop") _) _ _ _)); (fail_if_success (with_reducible show wpAny _ _ (eval (Expr.ListComp _ _ _ _) _) _ _ _)); (fail_if_success (with_reducible show wpAny _ _ (exec (Stmt.Assign _ (Expr.ListComp _ _ _ _) _) _) _ _ _)); (fail_if_success (with_reducible show wpAny _ _ (call (Value.builtin "sorted") _) _ _ _)); (fail_if_success (with_reducible show wpAny _ _ (call (Value.type "list") [Value.ref _]) _ _ _)); (fail_if_success (with_reducible show wpAny _ _ (call (Value.type "dict") [Value.ref _]) _ _ _)); (try dsimp only); walk1))) | (first | ((with_reducible show ite _ _ _); walk1) | ((with_reducible show _ ∧ _); walk1) | (leave1; (try dsimp only)) | (dsimp only [InvPostN]) | fail "no step")))
  rename Fr _ _ _ _ => F2
  refine pnamed_ok (c0.keeps F2.keep) (rm.deep (by decide)) (wa.keep F2.keep) hf (hd.keep F2.keep) lo hv hx hs hok hlen ?_
  intro h3 tk3 aP k3 n3 p3
  generalize rows.foldl loadStep [] = P at p3 hk
  obtain ⟨loP, kvP, hdP, hP⟩ := p3
  obtain ⟨oP, hoP, hiP⟩ := Heap.dictOf_iff.mp hdP
  obtain ⟨F3, N3, _⟩ := news_add F2 News.nil k3 n3 hoP
  (try dsimp only)
  (repeat' (first | (k_unfold; (try dsimp only)) | ((fail_if_success (with_reducible show wpAny _ _ (setItem _ _ _) _ _ _)); (((with_reducible show wpAny _ _ _ _ _ _); (fail_if_success (with_reducible show wpAny _ _ (exec (Stmt.While _ _ _ _) _) _ _ _)); (fail_if_success (with_reducible show wpAny _ _ (exec (Stmt.Raise _ _ _) _) _ _ _)); (fail_if_success (with_reducible show wpAny _ _ (exec (Stmt.Try _ _ _ _ _) _) _ _ _)); (fail_if_success (with_reducible show wpAny _ _ (exec (Stmt.For _ _ _ _ _) _) _ _ _)); (fail_if_success (with_reducible show wpAny _ _ (call (Value.ref _) _) _ _ _)); (fail_if_success (with_reducible show wpAny _ _ (call (Value.builtin "dict.pop") _) _ _ _)); (fail_if_success (with_reducible show wpAny _ _ (eval (Expr.ListComp _ _ _ _) _) _ _ _)); (fail_if_success (with_reducible show wpAny _ _ (exec (Stmt.Assign _ (Expr.ListComp _ _ _ _) _) _) _ _ _)); (fail_if_success (with_reducible show wpAny _ _ (call (Value.builtin "sorted") _) _ _ _)); (fail_if_success (with_reducible show wpAny _ _ (call (Value.type "list") [Value.ref _]) _ _ _)); (fail_if_success (with_reducible show wpAny _ _ (call (Value.type "dict") [Value.ref _]) _ _ _)); (try dsimp only); walk1))) | (first | ((with_reducible show ite _ _ _); walk1) | ((with_reducible show _ ∧ _); walk1) | (leave1; (try dsimp only)) | (dsimp only [InvPostN]) | fail "no step")))
  rename Fr _ _ _ _ => F4
  rename News _ _ _ _ => N4
  have p4 : ProgAt prog w _ aP P := ⟨loP, kvP, Heap.dictOf_iff.mpr ⟨oP, (N4 _ (.head _)).1, hiP⟩, hP⟩
  subst hA
  refine fline_ul px (c0.keeps F4.keep) (rm.deep (by decide)) rfl (FF.push F4 hff (by show ScopeKind.function ≠ ScopeKind.module; decide) rfl) p4 hk hkn hks ?_
  intro h5 tk5 e t R5
  (try dsimp only)
  refine leave_next rfl F4 rfl R5 ?_
  intro h7 R7
  exact h _ _ _ _ R7

theorem savep_spec {prog : Program} {w : World} {mean : ExcName → Option Value} {mg mb : Str → Option Value} {A : Around} {s : Shared} {Q E : Value → Shared → Prop} {g : Heap} {x dx dF d : Addr} {oF : Obj} {f : Str → Option Value} {kvs : List (Str × Value)} {name : Str} {tn : Tok} {P : List (Int × Str)}
    (c : Cx w mean mg mb g) (r : Rm A 6) (on : On g [(dF, oF)] s.heap) (wa : WAt g x dx f) (hf : f (Str.ofString "files") = some (.ref dF)) (hi : oF.IsDictOf (PySem.strKind prog w) kvs) (lo : (dF == sysModules) = false) (hkl : kvs.length ≤ sizeLine) (hpr : ProgAt prog w g d P) (ok : ProgOk P)
    (h : ∀ h' tk o' ns t, On g [(dF, o')] h' → o'.IsDictOf (PySem.strKind prog w) (stored kvs name (.str (savedStr P ns) t)) → List.Perm ns (P.map (·.1)) → List.Pairwise (· ≤ ·) ns → Q .none { s with heap := h', toks := tk }) :
    wpAny (model prog w) A (call (.ref 77) [.ref x, .str name tn, .ref d]) Q E s := by
  have c0 := c
  obtain ⟨X, T⟩ := c
  have rm := r
  obtain ⟨rd, ru, rh⟩ := r
  obtain ⟨ah, ad, af, ag, au⟩ := A
  dsimp only at rd ru rh
  subst rh
  refine wpAny_call ?_
  k_dflt (refine' enterG (binds := [(Str.ofString "world", .ref x), (Str.ofString "name", .str name tn), (Str.ofString "program", .ref d)]) on X T ?k6 ?k7 ?k8 ?k9 ?kB ?_ ?c2 ?c3 ?c4 ?c5; (((case k6 => k_is); (case k7 => k_is); (case k8 => ((try dsimp only); omega)); (case k9 => exact BindsTo.of_eq rfl); (case c5 => decide); (case kB => exact locs rfl); (case c2 => exact rfl); (case c3 => exact rfl); (case c4 => exact rfl))))
  intro L h1 F N hL0 hk0
  rw [lk3] at F
  dsimp only
  k_fold
  (repeat' (first | (k_unfold; (try dsimp only)) | ((fail_if_success (with_reducible show wpAny _ _ (setItem _ _ _) _ _ _)); (((with_reducible show wpAny _ _ _ _ _ _); (fail_if_success (with_reducible show wpAny _ _ (exec (Stmt.While _ _ _ _) _) _ _ _)); (fail_if_success (with_reducible show wpAny _ _ (exec (Stmt.Raise _ _ _) _) _ _ _)); (fail_if_success (with_reducible show wpAny _ _ (exec (Stmt.Try _ _ _ _ _) _) _ _ _)); (fail_if_success (with_reducible show wpAny _ _ (exec (Stmt.For _ _ _ _ _) _) _ _ _)); (fail_if_success (with_reducible show wpAny _ _ (call (Value.ref _) _) _ _ _)); (fail_if_success (with_reducible show wpAny _ _ (call (Value.builtin "dict.pop") _) _ _ _)); (fail_if_success (with_reducible show wpAny _ _ (eval (Expr.ListComp _ _ _ _) _) _ _ _)); (fail_if_success (with_reducible show wpAny _ _ (exec (Stmt.Assign _ (Expr.ListComp _ _ _ _) _) _) _ _ _)); (fail_if_success (with_reducible show wpAny _ _ (call (Value.builtin "sorted") _) _ _ _)); (fail_if_success (with_reducible show wpAny _ _ (call (Value.type "list") [Value.ref _]) _ _ _)); (fail_if_success (with_reducible show wpAny _ _ (call (Value.type "dict") [Value.ref _]) _ _ _)); (try dsimp only); walk1))) | (first | ((with_reducible show ite _ _ _); walk1) | ((with_reducible show _ ∧ _); walk1) | (leave1; (try dsimp only)) | (dsimp only [InvPostN]) | fail "no step")))
  refine saved_spec (c0.keeps F.keep) (rm.deep (by decide)) (hpr.keep F.keep) ok ?_
  intro h2 tk2 t ns k2 hp hs
  have F2 := F.keeps k2
  have N2 := N.grown k2
  (try dsimp only)
  (repeat' (first | (k_unfold; (try dsimp only)) | ((fail_if_success (with_reducible show wpAny _ _ (setItem _ _ _) _ _ _)); (((with_reducible show wpAny _ _ _ _ _ _); (fail_if_success (with_reducible show wpAny _ _ (exec (Stmt.While _ _ _ _) _) _ _ _)); (fail_if_success (with_reducible show wpAny _ _ (exec (Stmt.Raise _ _ _) _) _ _ _)); (fail_if_success (with_reducible show wpAny _ _ (exec (Stmt.Try _ _ _ _ _) _) _ _ _)); (fail_if_success (with_reducible show wpAny _ _ (exec (Stmt.For _ _ _ _ _) _) _ _ _)); (fail_if_success (with_reducible show wpAny _ _ (call (Value.ref _) _) _ _ _)); (fail_if_success (with_reducible show wpAny _ _ (call (Value.builtin "dict.pop") _) _ _ _)); (fail_if_success (with_reducible show wpAny _ _ (eval (Expr.ListComp _ _ _ _) _) _ _ _)); (fail_if_success (with_reducible show wpAny _ _ (exec (Stmt.Assign _ (Expr.ListComp _ _ _ _) _) _) _ _ _)); (fail_if_success (with_reducible show wpAny _ _ (call (Value.builtin "sorted") _) _ _ _)); (fail_if_success (with_reducible show wpAny _ _ (call (Value.type "list") [Value.ref _]) _ _ _)); (fail_if_success (with_reducible show wpAny _ _ (call (Value.type "dict") [Value.ref _]) _ _ _)); (try dsimp only); walk1))) | (first | ((with_reducible show ite _ _ _); walk1) | ((with_reducible show _ ∧ _); walk1) | (leave1; (try dsimp only)) | (dsimp only [InvPostN]) | fail "no step")))
  have wn : Str.ofString "files" ∈ worldNames := by decide +kernel
  rename Fr _ _ _ _ => F3
  rename News _ _ _ _ => N3
  refine wgetW (c0.keeps F3.keep) (wa.keep F3.keep) wn hf rfl ?_
  (try dsimp only)
  (repeat' (first | (k_unfold; (try dsimp only)) | ((fail_if_success (with_reducible show wpAny _ _ (setItem _ _ _) _ _ _)); (((with_reducible show wpAny _ _ _ _ _ _); (fail_if_success (with_reducible show wpAny _ _ (exec (Stmt.While _ _ _ _) _) _ _ _)); (fail_if_success (with_reducible show wpAny _ _ (exec (Stmt.Raise _ _ _) _) _ _ _)); (fail_if_success (with_reducible show wpAny _ _ (exec (Stmt.Try _ _ _ _ _) _) _ _ _)); (fail_if_success (with_reducible show wpAny _ _ (exec (Stmt.For _ _ _ _ _) _) _ _ _)); (fail_if_success (with_reducible show wpAny _ _ (call (Value.ref _) _) _ _ _)); (fail_if_success (with_reducible show wpAny _ _ (call (Value.builtin "dict.pop") _) _ _ _)); (fail_if_success (with_reducible show wpAny _ _ (eval (Expr.ListComp _ _ _ _) _) _ _ _)); (fail_if_success (with_reducible show wpAny _ _ (exec (Stmt.Assign _ (Expr.ListComp _ _ _ _) _) _) _ _ _)); (fail_if_success (with_reducible show wpAny _ _ (call (Value.builtin "sorted") _) _ _ _)); (fail_if_success (with_reducible show wpAny _ _ (call (Value.type "list") [Value.ref _]) _ _ _)); (fail_if_success (with_reducible show wpAny _ _ (call (Value.type "dict") [Value.ref _]) _ _ _)); (try dsimp only); walk1))) | (first | ((with_reducible show ite _ _ _); walk1) | ((with_reducible show _ ∧ _); walk1) | (leave1; (try dsimp only)) | (dsimp only [InvPostN]) | fail "no step")))
  rename Fr _ _ _ _ => F4
  rename News _ _ _ _ => N4
  refine kda_set (knd := PySem.strKind prog w) F4 N4 (UpdF.head fun _ h => nomatch h) hi (strKind_is _ _ _ _) hkl ?_
  intro h5 o5 F5 N5 hd5
  (try dsimp only at N5)
  (try dsimp only)
  (repeat' (first | (k_unfold; (try dsimp only)) | ((fail_if_success (with_reducible show wpAny _ _ (setItem _ _ _) _ _ _)); (((with_reducible show wpAny _ _ _ _ _ _); (fail_if_success (with_reducible show wpAny _ _ (exec (Stmt.While _ _ _ _) _) _ _ _)); (fail_if_success (with_reducible show wpAny _ _ (exec (Stmt.Raise _ _ _) _) _ _ _)); (fail_if_success (with_reducible show wpAny _ _ (exec (Stmt.Try _ _ _ _ _) _) _ _ _)); (fail_if_success (with_reducible show wpAny _ _ (exec (Stmt.For _ _ _ _ _) _) _ _ _)); (fail_if_success (with_reducible show wpAny _ _ (call (Value.ref _) _) _ _ _)); (fail_if_success (with_reducible show wpAny _ _ (call (Value.builtin "dict.pop") _) _ _ _)); (fail_if_success (with_reducible show wpAny _ _ (eval (Expr.ListComp _ _ _ _) _) _ _ _)); (fail_if_success (with_reducible show wpAny _ _ (exec (Stmt.Assign _ (Expr.ListComp _ _ _ _) _) _) _ _ _)); (fail_if_success (with_reducible show wpAny _ _ (call (Value.builtin "sorted") _) _ _ _)); (fail_if_success (with_reducible show wpAny _ _ (call (Value.type "list") [Value.ref _]) _ _ _)); (fail_if_success (with_reducible show wpAny _ _ (call (Value.type "dict") [Value.ref _]) _ _ _)); (try dsimp only); walk1))) | (first | ((with_reducible show ite _ _ _); walk1) | ((with_reducible show _ ∧ _); walk1) | (leave1; (try dsimp only)) | (dsimp only [InvPostN]) | fail "no step")))
  exact h _ _ o5 ns t (On.of F5 N5) hd5 hp hs

def names4 : List Str := [Str.ofString "A", Str.ofString "AB", Str.ofString "B%", Str.ofString "C$"]
theorem some_take {v : Int} {a b c d : Tok} (h0 : 0 ≤ v.fmod 4) (h1 : v.fmod 4 < 4) : ∃ zs, kms_pick (#[.str (Str.ofString "A") a, .str (Str.ofString "AB") b, .str (Str.ofString "B%") c, .str (Str.ofString "C$") d] : Array Value).toList none (some (1 + v.fmod 4)) = zs ∧ StrsAre zs (names4.take (1 + (v.fmod 4).toNat)) := by
  refine ⟨_, rfl, ?_⟩
  have : v.fmod 4 = 0 ∨ v.fmod 4 = 1 ∨ v.fmod 4 = 2 ∨ v.fmod 4 = 3 := by omega
  rcases this with e | e | e | e <;> rw [e]
  · exact .cons _ _ .nil
  · exact .cons _ _ (.cons _ _ .nil)
  · exact .cons _ _ (.cons _ _ (.cons _ _ .nil))
  · exact .cons _ _ (.cons _ _ (.cons _ _ (.cons _ _ .nil)))
def pairE (p : Addr × (Value × Int × Tok)) : Str × Value := (strOf p.2.1, .int p.2.2.1 p.2.2.2)
theorem stored_mem {K : Type} [DecidableEq K] {kvs : List (K × Value)} {k : K} {v : Value} {p : K × Value} (h : p ∈ stored kvs k v) : p ∈ kvs ∨ p = (k, v) := by
  unfold PySem.stored at h
  split at h
  · obtain ⟨q, hq, rfl⟩ := List.mem_map.mp h
    by_cases e : q.1 = k
    · rw [if_pos e, e]; exact .inr rfl
    · rw [if_neg e]; exact .inl hq
  · rcases List.mem_append.mp h with h | h
    · exact .inl h
    · exact .inr (List.mem_singleton.mp h)
theorem fill_mem {K : Type} [DecidableEq K] {p : K × Value} : ∀ (l : List (K × Value)) {kvs : List (K × Value)}, p ∈ l.foldl (fun a q => stored a q.1 q.2) kvs → p ∈ kvs ∨ p ∈ l
  | [], _, h => .inl h
  | q :: r, kvs, h => by
    rcases fill_mem r h with h | h
    · rcases stored_mem h with h | h
      · exact .inl h
      · exact .inr (h ▸ .head _)
    · exact .inr (.tail _ h)
theorem fillD_mem {K : Type} [DecidableEq K] {p : K × Value} {l : List (K × Value)} (h : p ∈ fillD l) : p ∈ l := by
  rcases fill_mem l h with h | h
  · cases h
  · exact h
theorem enum_pairs {prog : Program} {w : World} {hh : Heap} {S : List Value} {ws : List Str} {ts : List (Addr × (Value × Int × Tok))} (hs : StrsAre S ws) (ht : EnumTs S.toArray S.toArray.size ts) (N : ∀ p ∈ ts.map tupE, hh.get? p.1 = some p.2) {i : Nat} {v : Value} (hv : (ts.map fun p => Value.ref p.1)[i]? = some v) :
    ∃ a key k x, v = .ref a ∧ hh.get? a = some { cls := .type "tuple", data := .seq #[key, x] } ∧ (ts.map pairE)[i]? = some (k, x) ∧ (PySem.strKind prog w).is k key = true := by
  rw [List.getElem?_map] at hv
  obtain ⟨p, hp, rfl⟩ := Option.map_eq_some_iff.mp hv
  obtain ⟨h1, h2⟩ := ht.2 i p hp
  obtain ⟨y, ty, e, hy⟩ := hs.item i p.2.1 (by simpa using h1)
  refine ⟨p.1, p.2.1, strOf p.2.1, .int p.2.2.1 p.2.2.2, rfl, N _ (List.mem_map_of_mem (List.mem_of_getElem? hp)), ?_, ?_⟩
  · rw [List.getElem?_map, hp]; rfl
  · rw [e]; exact strKind_is _ _ _ _
theorem enum_fill {S : List Value} {ws : List Str} {ts : List (Addr × (Value × Int × Tok))} (hs : StrsAre S ws) (ht : EnumTs S.toArray S.toArray.size ts) {p : Str × Value} (hp : p ∈ fillD (ts.map pairE)) : p.1 ∈ ws ∧ ∃ k t, p.2 = .int k t := by
  obtain ⟨q, hq, rfl⟩ := List.mem_map.mp (fillD_mem hp)
  obtain ⟨i, hi⟩ := List.mem_iff_getElem?.mp hq
  obtain ⟨h1, h2⟩ := ht.2 i q hi
  obtain ⟨y, ty, e, hy⟩ := hs.item i q.2.1 (by simpa using h1)
  refine ⟨?_, _, _, rfl⟩
  show strOf q.2.1 ∈ ws
  rw [e]
  exact List.mem_of_getElem? hy
theorem fill_len {K : Type} [DecidableEq K] : ∀ (l : List (K × Value)) (kvs : List (K × Value)), (l.foldl (fun a q => stored a q.1 q.2) kvs).length ≤ kvs.length + l.length
  | [], _ => Nat.le_refl _
  | q :: r, kvs => by
    rw [List.foldl_cons]
    refine Nat.le_trans (fill_len r _) ?_
    have := stored_length_le kvs q.1 q.2
    rw [List.length_cons]; omega
theorem fillD_len {K : Type} [DecidableEq K] (l : List (K × Value)) : (fillD l).length ≤ l.length := by
  have := fill_len l []
  rw [List.length_nil, Nat.zero_add] at this
  exact this
def names2 : List Str := [Str.ofString "A", Str.ofString "D$"]
theorem some_take2 {v : Int} {a b : Tok} (h0 : 0 ≤ v.fmod 3) (h1 : v.fmod 3 < 3) : ∃ zs, kms_pick (#[.str (Str.ofString "A") a, .str (Str.ofString "D$") b] : Array Value).toList none (some (v.fmod 3)) = zs ∧ StrsAre zs (names2.take (v.fmod 3).toNat) := by
  refine ⟨_, rfl, ?_⟩
  have : v.fmod 3 = 0 ∨ v.fmod 3 = 1 ∨ v.fmod 3 = 2 := by omega
  rcases this with e | e | e <;> rw [e]
  · exact .nil
  · exact .cons _ _ .nil
  · exact .cons _ _ (.cons _ _ .nil)
def words5 : List Str := [Str.ofString "A", Str.ofString "B%", Str.ofString "Z", Str.ofString "A()", Str.ofString "D$()"]
theorem words5_are (t : Tok) : StrsAre [.str (Str.ofString "A") t, .str (Str.ofString "B%") (t + 1), .str (Str.ofString "Z") (t + 1 + 1), .str (Str.ofString "A()") (t + 1 + 1 + 1), .str (Str.ofString "D$()") (t + 1 + 1 + 1 + 1)] words5 :=
  .cons _ _ (.cons _ _ (.cons _ _ (.cons _ _ (.cons _ _ .nil))))
theorem updF_nd {d : Addr} {o : Obj} : ∀ (pre : List (Addr × Obj)) {post : List (Addr × Obj)}, ((pre ++ (d, o) :: post).map (·.1)).Nodup → UpdF d o (pre ++ (d, o) :: post) (fun o' => pre ++ (d, o') :: post)
  | [], post, h => .head fun p hp e => (List.nodup_cons.mp h).1 (List.mem_map.mpr ⟨p, hp, e⟩)
  | q :: r, post, h => .tail (fun e => (List.nodup_cons.mp h).1 (List.mem_map.mpr ⟨(d, o), List.mem_append_right _ (.head _), e.symm⟩)) (updF_nd r (List.nodup_cons.mp h).2)
theorem nd5 {a b c d e : Addr} (h1 : a ≠ b) (h2 : a ≠ c) (h3 : a ≠ d) (h4 : a ≠ e) (h5 : b ≠ c) (h6 : b ≠ d) (h7 : b ≠ e) (h8 : c ≠ d) (h9 : c ≠ e) (h10 : d ≠ e) : [a, b, c, d, e].Nodup := by
  simp [h1, h2, h3, h4, h5, h6, h7, h8, h9, h10]
theorem nd_new {D : Addr} {news : List (Addr × Obj)} (ne : ∀ p ∈ news, p.1 ≠ D) (nd : (news.map (·.1)).Nodup) : (D :: news.map (·.1)).Nodup :=
  List.nodup_cons.mpr ⟨fun h => by obtain ⟨p, hp, e⟩ := List.mem_map.mp h; exact ne p hp e, nd⟩
theorem nd_sub {D : Addr} {news l' : List (Addr × Obj)} (ne : ∀ p ∈ news, p.1 ≠ D) (sub : ∀ p ∈ l', p ∈ news) (nd : (l'.map (·.1)).Nodup) : (D :: l'.map (·.1)).Nodup := nd_new (fun p hp => ne p (sub p hp)) nd
theorem nd_lt {D : Addr} {as : List Addr} (lt : ∀ b ∈ as, b < D) (nd : as.Nodup) : (D :: as).Nodup := List.nodup_cons.mpr ⟨fun h => Nat.lt_irrefl _ (lt D h), nd⟩
theorem nd_rot {D : Addr} {as : List Addr} {bs : List Addr} (nd : (as ++ D :: bs).Nodup) : (D :: (as ++ bs)).Nodup := (List.perm_middle.nodup_iff).mp nd
theorem off_mapG {I C Dl D2 : Addr} {fx : List (Addr × Obj)} {ts : List (Addr × (Str × Tok × Value))} {t : Str × Tok × Value} (off : LCg.Off3 I C Dl (fx ++ ts.map tupOf)) (h1 : I < D2) (h2 : C < D2) (h3 : Dl < D2) : LCg.Off3 I C Dl (fx ++ (ts ++ [(D2, t)]).map tupOf) := by
  have m := off.mem
  refine LCg.Off3.of fun p hp => ?_
  rw [List.map_append, ← List.append_assoc] at hp
  rcases List.mem_append.mp hp with hp | hp
  · exact m _ hp
  · obtain rfl := List.mem_singleton.mp hp
    show D2 ≠ I ∧ D2 ≠ C ∧ D2 ≠ Dl
    exact ⟨Nat.ne_of_gt h1, Nat.ne_of_gt h2, Nat.ne_of_gt h3⟩
theorem sub_mapG {I C Dl D1 D2 : Addr} {oI oC oD o1 : Obj} {fx : List (Addr × Obj)} {ts : List (Addr × (Str × Tok × Value))} {y : Str} {ty : Tok} {u : Value} {p : Addr × Obj}
    (hp : p ∈ (I, oI) :: (C, oC) :: (Dl, oD) :: (fx ++ (ts ++ [(D2, y, ty, u)]).map tupOf)) :
    p ∈ (D2, ({ cls := .type "tuple", data := .seq #[.str y ty, u] } : Obj)) :: (D1, o1) :: (I, oI) :: (C, oC) :: (Dl, oD) :: (fx ++ ts.map tupOf) := by
  rw [List.map_append] at hp
  simp only [List.mem_cons, List.mem_append, List.map_cons, List.map_nil, List.not_mem_nil, or_false] at hp ⊢
  rcases hp with h | h | h | h | h | h
  · exact .inr (.inr (.inl h))
  · exact .inr (.inr (.inr (.inl h)))
  · exact .inr (.inr (.inr (.inr (.inl h))))
  · exact .inr (.inr (.inr (.inr (.inr (.inl h)))))
  · exact .inr (.inr (.inr (.inr (.inr (.inr h)))))
  · exact .inl (by rw [h]; rfl)
/-- the world that the law draws -/
structure LW (prog : Program) (w : World) (f : Str → Option Value) (dF aN aA lC lO lD : Addr) (oF oN oA oC oO oD : Obj) (kvN kvA : List (Str × Value)) (vC : List Value) (ws : List Str) : Prop where
  fN : f (Str.ofString "names") = some (.ref aN)
  fA : f (Str.ofString "arrays") = some (.ref aA)
  fC : f (Str.ofString "common") = some (.ref lC)
  fO : f (Str.ofString "out") = some (.ref lO)
  fR : ∃ t, f (Str.ofString "row") = some (.str (Str.ofString "two") t)
  fD : f (Str.ofString "data") = some (.ref lD)
  fS : ∃ t, f (Str.ofString "spot") = some (.int 1 t)
  fH : ∃ t, f (Str.ofString "handler") = some (.int 40 t)
  fF : f (Str.ofString "files") = some (.ref dF)
  iF : oF.IsDictOf (PySem.strKind prog w) []
  loF : (dF == sysModules) = false
  iN : oN.IsDictOf (PySem.strKind prog w) kvN
  loN : (aN == sysModules) = false
  mN : ∀ p ∈ kvN, p.1 ∈ names4 ∧ ∃ k t, p.2 = .int k t
  lN : kvN.length ≤ 4
  iA : oA.IsDictOf (PySem.strKind prog w) kvA
  loA : (aA == sysModules) = false
  mA : ∀ p ∈ kvA, p.1 ∈ names2 ∧ ∃ a, p.2 = .ref a
  lA : kvA.length ≤ 2
  iC : oC = LCg.lst vC
  sC : StrsAre vC ws
  lC : ws.length ≤ 5
  mC : ∀ y ∈ ws, y ∈ words5
  iO : ∃ t, oO = W.listOf #[.str (Str.ofString "one") t] 0
  iD : ∃ t u, oD = W.listOf #[.int 5 t, .int 6 u] 0
theorem lworld_spec {prog : Program} {w : World} {mean : ExcName → Option Value} {mg mb : Str → Option Value} {A : Around} {s : Shared} {Q E : Value → Shared → Prop} {g : Heap} {sp l : Addr} {o : Obj} {n : Nat} {vs : List Value} {ns : List Int}
    (c : Cx w mean mg mb g) (r : Rm A 10) (on : On g [(sp, o)] s.heap) (io : IsSpool o n l) (hl : g.IsList l vs.toArray) (sl : Spl vs ns) (hn : n ≤ 200)
    (h : ∀ h' tk x dx es n' f dF aN aA lC lO lD oF oN oA oC oO oD kvN kvA vC ws o' m, On g [(lD, oD), (lO, oO), (lC, oC), (aA, oA), (aN, oN), (x, instObj 133 dx), (dx, W.dictOf es n'), (dF, oF), (sp, o')] h' → ([lD, lO, lC, aA, aN, x, dx, dF, sp] : List Addr).Nodup → IsSpool o' m l → m ≤ n + 20 → FieldsAre es f → AllF f →
      LW prog w f dF aN aA lC lO lD oF oN oA oC oO oD kvN kvA vC ws → Q (.ref x) { s with heap := h', toks := tk }) :
    wpAny (model prog w) A (call (.ref 156) [.ref sp]) Q E s := by
  have c0 := c
  obtain ⟨X, T⟩ := c
  have rm := r
  obtain ⟨rd, ru, rh⟩ := r
  obtain ⟨ah, ad, af, ag, au⟩ := A
  dsimp only at rd ru rh
  subst rh
  refine wpAny_call ?_
  k_dflt (refine' enterCG (binds := [(Str.ofString "spool", .ref sp)]) on X T ?k6 ?k7 ?k8 ?k9 ?kB ?c5 ?_ ?c2 ?c3 ?c4; (((case k6 => k_is); (case k7 => k_is); (case k8 => ((try dsimp only); omega)); (case k9 => exact BindsTo.of_eq rfl); (case kB => exact rfl); (case c5 => decide); (case c2 => exact rfl); (case c3 => exact rfl); (case c4 => exact rfl))))
  intro L h1 tk1 cells F N hk0 CA hne0
  dsimp only
  k_fold
  have F' : Fr g L h1 (fun y => none) := F
  have CA' : CellsAre (fun y => if y = Str.ofString "spool" then some (.ref sp) else none) [(Str.ofString "spool", L + 1)] cells := CA
  clear F CA
  obtain ⟨o1, rfl, hc1⟩ := CA'.one
  rw [if_pos rfl] at hc1
  clear CA'
  (repeat' (first | (k_unfold; (try dsimp only)) | ((fail_if_success (with_reducible show wpAny _ _ (setItem _ _ _) _ _ _)); (((with_reducible show wpAny _ _ _ _ _ _); (fail_if_success (with_reducible show wpAny _ _ (exec (Stmt.While _ _ _ _) _) _ _ _)); (fail_if_success (with_reducible show wpAny _ _ (exec (Stmt.Raise _ _ _) _) _ _ _)); (fail_if_success (with_reducible show wpAny _ _ (exec (Stmt.Try _ _ _ _ _) _) _ _ _)); (fail_if_success (with_reducible show wpAny _ _ (exec (Stmt.For _ _ _ _ _) _) _ _ _)); (fail_if_success (with_reducible show wpAny _ _ (call (Value.ref _) _) _ _ _)); (fail_if_success (with_reducible show wpAny _ _ (call (Value.builtin "dict.pop") _) _ _ _)); (fail_if_success (with_reducible show wpAny _ _ (eval (Expr.ListComp _ _ _ _) _) _ _ _)); (fail_if_success (with_reducible show wpAny _ _ (exec (Stmt.Assign _ (Expr.ListComp _ _ _ _) _) _) _ _ _)); (fail_if_success (with_reducible show wpAny _ _ (call (Value.builtin "sorted") _) _ _ _)); (fail_if_success (with_reducible show wpAny _ _ (call (Value.type "list") [Value.ref _]) _ _ _)); (fail_if_success (with_reducible show wpAny _ _ (call (Value.type "dict") [Value.ref _]) _ _ _)); (try dsimp only); walk1))) | (first | ((with_reducible show ite _ _ _); walk1) | ((with_reducible show _ ∧ _); walk1) | (leave1; (try dsimp only)) | (dsimp only [InvPostN]) | fail "no step")))
  refine world_spec (c0.keeps F'.keep) (rm.deep (by decide)) ?_
  intro h2 tk2 x dx es n2 f dF oF on2 fa all hfF hiF loF lt1 ne1 ne2
  obtain ⟨F2, N2, ne3⟩ := news_on F' N on2
  have a1 : @Ne Nat (L + 1) x := ne3 (L + 1, o1) (.head _) (x, _) (.head _)
  have a2 : @Ne Nat (L + 1) dx := ne3 (L + 1, o1) (.head _) (dx, _) (.tail _ (.head _))
  have a3 : @Ne Nat (L + 1) dF := ne3 (L + 1, o1) (.head _) (dF, _) (.tail _ (.tail _ (.head _)))
  have b1 : @Ne Nat sp x := ne3 (sp, o) (.tail _ (.head _)) (x, _) (.head _)
  have b2 : @Ne Nat sp dx := ne3 (sp, o) (.tail _ (.head _)) (dx, _) (.tail _ (.head _))
  have b3 : @Ne Nat sp dF := ne3 (sp, o) (.tail _ (.head _)) (dF, _) (.tail _ (.tail _ (.head _)))
  have b0 : @Ne Nat sp (L + 1) := hne0 (sp, o) (.head _) (L + 1, o1) (.head _)
  have e0 : @Ne Nat x dx := Nat.ne_of_gt lt1
  have e1 : @Ne Nat x dF := ne1
  have e2 : @Ne Nat dx dF := ne2
  have nd2 : ([x, dx, dF, L + 1, sp] : List Addr).Nodup := nd5 e0 e1 (Ne.symm a1) (Ne.symm b1) e2 (Ne.symm a2) (Ne.symm b2) (Ne.symm a3) (Ne.symm b3) (Ne.symm b0)
  clear ne3 hne0 a1 a2 a3 b0 b1 b2 b3 e0 e1 e2 lt1 ne1 ne2
  dsimp only [List.cons_append, List.nil_append] at N2
  (try dsimp only)
  (repeat' (first | (k_unfold; (try dsimp only)) | ((fail_if_success (with_reducible show wpAny _ _ (setItem _ _ _) _ _ _)); (((with_reducible show wpAny _ _ _ _ _ _); (fail_if_success (with_reducible show wpAny _ _ (exec (Stmt.While _ _ _ _) _) _ _ _)); (fail_if_success (with_reducible show wpAny _ _ (exec (Stmt.Raise _ _ _) _) _ _ _)); (fail_if_success (with_reducible show wpAny _ _ (exec (Stmt.Try _ _ _ _ _) _) _ _ _)); (fail_if_success (with_reducible show wpAny _ _ (exec (Stmt.For _ _ _ _ _) _) _ _ _)); (fail_if_success (with_reducible show wpAny _ _ (call (Value.ref _) _) _ _ _)); (fail_if_success (with_reducible show wpAny _ _ (call (Value.builtin "dict.pop") _) _ _ _)); (fail_if_success (with_reducible show wpAny _ _ (eval (Expr.ListComp _ _ _ _) _) _ _ _)); (fail_if_success (with_reducible show wpAny _ _ (exec (Stmt.Assign _ (Expr.ListComp _ _ _ _) _) _) _ _ _)); (fail_if_success (with_reducible show wpAny _ _ (call (Value.builtin "sorted") _) _ _ _)); (fail_if_success (with_reducible show wpAny _ _ (call (Value.type "list") [Value.ref _]) _ _ _)); (fail_if_success (with_reducible show wpAny _ _ (call (Value.type "dict") [Value.ref _]) _ _ _)); (try dsimp only); walk1))) | (first | ((with_reducible show ite _ _ _); walk1) | ((with_reducible show _ ∧ _); walk1) | (leave1; (try dsimp only)) | (dsimp only [InvPostN]) | fail "no step")))
  have hspl : l ≠ sp := by
    rintro rfl
    obtain ⟨ol, e, _⟩ := hl
    rw [(on.led _ (.head _)).2] at e; cases e
  rename_i tkA aA hA F3 N3 lA
  have nd3 : ([aA, x, dx, dF, L + 1, sp] : List Addr).Nodup := nd_lt (by
    obtain ⟨g1, g2, g3, g4, g5⟩ := lA
    exact (all_cons g1 (all_cons g2 (all_cons g3 (all_cons g4 (all_cons g5 all_nil)))))) nd2
  clear lA
  refine take_led c0 F3 N3 (updF_nd [(aA, _), (x, _), (dx, _), (dF, _), (L + 1, _)] nd3) (rm.deep (by decide)) io (list_keep hl F3.keep) hspl sl (by omega) ?_
  intro h4 tk4 v4 tv4 o4 F4 N4 io4 hv4
  dsimp only [List.cons_append, List.nil_append] at N4
  (try dsimp only)
  (repeat' (first | (k_unfold; (try dsimp only)) | ((fail_if_success (with_reducible show wpAny _ _ (setItem _ _ _) _ _ _)); (((with_reducible show wpAny _ _ _ _ _ _); (fail_if_success (with_reducible show wpAny _ _ (exec (Stmt.While _ _ _ _) _) _ _ _)); (fail_if_success (with_reducible show wpAny _ _ (exec (Stmt.Raise _ _ _) _) _ _ _)); (fail_if_success (with_reducible show wpAny _ _ (exec (Stmt.Try _ _ _ _ _) _) _ _ _)); (fail_if_success (with_reducible show wpAny _ _ (exec (Stmt.For _ _ _ _ _) _) _ _ _)); (fail_if_success (with_reducible show wpAny _ _ (call (Value.ref _) _) _ _ _)); (fail_if_success (with_reducible show wpAny _ _ (call (Value.builtin "dict.pop") _) _ _ _)); (fail_if_success (with_reducible show wpAny _ _ (eval (Expr.ListComp _ _ _ _) _) _ _ _)); (fail_if_success (with_reducible show wpAny _ _ (exec (Stmt.Assign _ (Expr.ListComp _ _ _ _) _) _) _ _ _)); (fail_if_success (with_reducible show wpAny _ _ (call (Value.builtin "sorted") _) _ _ _)); (fail_if_success (with_reducible show wpAny _ _ (call (Value.type "list") [Value.ref _]) _ _ _)); (fail_if_success (with_reducible show wpAny _ _ (call (Value.type "dict") [Value.ref _]) _ _ _)); (try dsimp only); walk1))) | (first | ((with_reducible show ite _ _ _); walk1) | ((with_reducible show _ ∧ _); walk1) | (leave1; (try dsimp only)) | (dsimp only [InvPostN]) | fail "no step")))
  have h4' := Int.fmod_nonneg_of_pos v4 (b := 4) (by decide)
  have h4'' := Int.fmod_lt_of_pos v4 (b := 4) (by decide)
  obtain ⟨S4, hS4, hSa⟩ := some_take (a := tk) (b := tk + 1) (c := tk + 1 + 1) (d := tk + 1 + 1 + 1) h4' h4''
  k_dflt (refine' kms_slice_lit (s := ⟨h4, s.gens, s.drawn, _, s.os⟩) ?jF ?jN ?jl ?jp ?jq ?je ?_ ?js ?jt ?jz; (case jF => exact F4); (case jN => exact N4); (case jl => exact ⟨_, (N4 _ (.head _)).1, rfl, _, rfl⟩); (case jp => exact .none); (case jq => exact .int _ _); (case je => exact hS4); (case js => with_unfolding_all rfl); (case jt => kmk_pure); (case jz => exact Nat.le_of_ble_eq_true rfl))
  intro aS h5 F5 N5 ltS
  clear hS4 h4' h4'' ltS
  (try dsimp only)
  (repeat' (first | (k_unfold; (try dsimp only)) | ((fail_if_success (with_reducible show wpAny _ _ (setItem _ _ _) _ _ _)); (((with_reducible show wpAny _ _ _ _ _ _); (fail_if_success (with_reducible show wpAny _ _ (exec (Stmt.While _ _ _ _) _) _ _ _)); (fail_if_success (with_reducible show wpAny _ _ (exec (Stmt.Raise _ _ _) _) _ _ _)); (fail_if_success (with_reducible show wpAny _ _ (exec (Stmt.Try _ _ _ _ _) _) _ _ _)); (fail_if_success (with_reducible show wpAny _ _ (exec (Stmt.For _ _ _ _ _) _) _ _ _)); (fail_if_success (with_reducible show wpAny _ _ (call (Value.ref _) _) _ _ _)); (fail_if_success (with_reducible show wpAny _ _ (call (Value.builtin "dict.pop") _) _ _ _)); (fail_if_success (with_reducible show wpAny _ _ (eval (Expr.ListComp _ _ _ _) _) _ _ _)); (fail_if_success (with_reducible show wpAny _ _ (exec (Stmt.Assign _ (Expr.ListComp _ _ _ _) _) _) _ _ _)); (fail_if_success (with_reducible show wpAny _ _ (call (Value.builtin "sorted") _) _ _ _)); (fail_if_success (with_reducible show wpAny _ _ (call (Value.type "list") [Value.ref _]) _ _ _)); (fail_if_success (with_reducible show wpAny _ _ (call (Value.type "dict") [Value.ref _]) _ _ _)); (try dsimp only); walk1))) | (first | ((with_reducible show ite _ _ _); walk1) | ((with_reducible show _ ∧ _); walk1) | (leave1; (try dsimp only)) | (dsimp only [InvPostN]) | fail "no step")))
  rename_i hS6 F6 N6
  have hS4l : S4.length ≤ 4 := by
    rw [hSa.length, List.length_take]; exact Nat.min_le_right _ _
  refine ListComp_E g L (fun y => if y = Str.ofString "some" then some (.ref aS) else if y = Str.ofString "world" then some (.ref x) else none) (by with_unfolding_all rfl) (by decide) (by rfl) (by decide) (by rfl) (by rfl) (by decide) ?_
  (repeat' (first | (k_unfold; (try dsimp only)) | ((fail_if_success (with_reducible show wpAny _ _ (setItem _ _ _) _ _ _)); (((with_reducible show wpAny _ _ _ _ _ _); (fail_if_success (with_reducible show wpAny _ _ (exec (Stmt.While _ _ _ _) _) _ _ _)); (fail_if_success (with_reducible show wpAny _ _ (exec (Stmt.Raise _ _ _) _) _ _ _)); (fail_if_success (with_reducible show wpAny _ _ (exec (Stmt.Try _ _ _ _ _) _) _ _ _)); (fail_if_success (with_reducible show wpAny _ _ (exec (Stmt.For _ _ _ _ _) _) _ _ _)); (fail_if_success (with_reducible show wpAny _ _ (call (Value.ref _) _) _ _ _)); (fail_if_success (with_reducible show wpAny _ _ (call (Value.builtin "dict.pop") _) _ _ _)); (fail_if_success (with_reducible show wpAny _ _ (eval (Expr.ListComp _ _ _ _) _) _ _ _)); (fail_if_success (with_reducible show wpAny _ _ (exec (Stmt.Assign _ (Expr.ListComp _ _ _ _) _) _) _ _ _)); (fail_if_success (with_reducible show wpAny _ _ (call (Value.builtin "sorted") _) _ _ _)); (fail_if_success (with_reducible show wpAny _ _ (call (Value.type "list") [Value.ref _]) _ _ _)); (fail_if_success (with_reducible show wpAny _ _ (call (Value.type "dict") [Value.ref _]) _ _ _)); (try dsimp only); walk1))) | (first | ((with_reducible show ite _ _ _); walk1) | ((with_reducible show _ ∧ _); walk1) | (leave1; (try dsimp only)) | (dsimp only [InvPostN]) | fail "no step")))
  refine enum_src rfl F6 N6 (by k_mem) (by rw [List.size_toArray, sizeLine_eq]; omega) ?_ ?_
  · intro i v t ys nw I oI C oC D m2 h8 tk8 E' hv hC hma hmb F8 N8 off ne8
    (repeat' (first | (k_unfold; (try dsimp only)) | ((fail_if_success (with_reducible show wpAny _ _ (setItem _ _ _) _ _ _)); (((with_reducible show wpAny _ _ _ _ _ _); (fail_if_success (with_reducible show wpAny _ _ (exec (Stmt.While _ _ _ _) _) _ _ _)); (fail_if_success (with_reducible show wpAny _ _ (exec (Stmt.Raise _ _ _) _) _ _ _)); (fail_if_success (with_reducible show wpAny _ _ (exec (Stmt.Try _ _ _ _ _) _) _ _ _)); (fail_if_success (with_reducible show wpAny _ _ (exec (Stmt.For _ _ _ _ _) _) _ _ _)); (fail_if_success (with_reducible show wpAny _ _ (call (Value.ref _) _) _ _ _)); (fail_if_success (with_reducible show wpAny _ _ (call (Value.builtin "dict.pop") _) _ _ _)); (fail_if_success (with_reducible show wpAny _ _ (eval (Expr.ListComp _ _ _ _) _) _ _ _)); (fail_if_success (with_reducible show wpAny _ _ (exec (Stmt.Assign _ (Expr.ListComp _ _ _ _) _) _) _ _ _)); (fail_if_success (with_reducible show wpAny _ _ (call (Value.builtin "sorted") _) _ _ _)); (fail_if_success (with_reducible show wpAny _ _ (call (Value.type "list") [Value.ref _]) _ _ _)); (fail_if_success (with_reducible show wpAny _ _ (call (Value.type "dict") [Value.ref _]) _ _ _)); (try dsimp only); walk1))) | (first | ((with_reducible show ite _ _ _); walk1) | ((with_reducible show _ ∧ _); walk1) | (leave1; (try dsimp only)) | (dsimp only [InvPostN]) | fail "no step")))
    rename_i T9 h9 F9 N9 l9
    exact ⟨_, _, _, rfl, rfl, F9, N9, l9.1, l9.2.1, l9.2.2.1⟩
  · intro ts D h7 tk7 hts F7 N7 ne7
    (try dsimp only)
    (repeat' (first | (k_unfold; (try dsimp only)) | ((fail_if_success (with_reducible show wpAny _ _ (setItem _ _ _) _ _ _)); (((with_reducible show wpAny _ _ _ _ _ _); (fail_if_success (with_reducible show wpAny _ _ (exec (Stmt.While _ _ _ _) _) _ _ _)); (fail_if_success (with_reducible show wpAny _ _ (exec (Stmt.Raise _ _ _) _) _ _ _)); (fail_if_success (with_reducible show wpAny _ _ (exec (Stmt.Try _ _ _ _ _) _) _ _ _)); (fail_if_success (with_reducible show wpAny _ _ (exec (Stmt.For _ _ _ _ _) _) _ _ _)); (fail_if_success (with_reducible show wpAny _ _ (call (Value.ref _) _) _ _ _)); (fail_if_success (with_reducible show wpAny _ _ (call (Value.builtin "dict.pop") _) _ _ _)); (fail_if_success (with_reducible show wpAny _ _ (eval (Expr.ListComp _ _ _ _) _) _ _ _)); (fail_if_success (with_reducible show wpAny _ _ (exec (Stmt.Assign _ (Expr.ListComp _ _ _ _) _) _) _ _ _)); (fail_if_success (with_reducible show wpAny _ _ (call (Value.builtin "sorted") _) _ _ _)); (fail_if_success (with_reducible show wpAny _ _ (call (Value.type "list") [Value.ref _]) _ _ _)); (fail_if_success (with_reducible show wpAny _ _ (call (Value.type "dict") [Value.ref _]) _ _ _)); (try dsimp only); walk1))) | (first | ((with_reducible show ite _ _ _); walk1) | ((with_reducible show _ ∧ _); walk1) | (leave1; (try dsimp only)) | (dsimp only [InvPostN]) | fail "no step")))
    have htl : ts.length = S4.length := by rw [hts.1, List.size_toArray]
    refine dict_pairs (knd := PySem.strKind prog w) rfl F7 N7 T.nolimit (N7 _ (.head _)).1 (ts.map pairE) (by simp) (by rw [List.length_map]; omega) (fun i v hv => ?_) ?_
    · exact enum_pairs hSa hts (fun p hp => (N7 p (.tail _ (List.mem_append_left _ hp))).1) hv
    intro h9 tk9 o9 D9 F9 N9' loN hN ne9
    have hNm : ∀ p ∈ fillD (ts.map pairE), p.1 ∈ names4 ∧ ∃ k t, p.2 = .int k t := fun p hp => ⟨List.mem_of_mem_take (enum_fill hSa hts hp).1, (enum_fill hSa hts hp).2⟩
    have hNl : (fillD (ts.map pairE)).length ≤ 4 := by
      have := fillD_len (ts.map pairE)
      rw [List.length_map] at this; omega
    generalize fillD (ts.map pairE) = kvN at hN hNm hNl
    have sub9 : ∀ B : Obj, ∀ p ∈ [(x, instObj 133 dx), (dx, W.dictOf es n2), (dF, oF), (L + 1, o1), (sp, o4)], p ∈ (D, LCg.lst (List.map (fun p => Value.ref p.1) ts)) :: (ts.map tupE ++ [(aS, W.listOf S4.toArray 0), (aA, B), (x, instObj 133 dx), (dx, W.dictOf es n2), (dF, oF), (L + 1, o1), (sp, o4)]) := fun B p hp => .tail _ (List.mem_append_right _ (by revert p hp; (((repeat' (first | exact all_nil | refine all_cons ?_ ?_)) <;> first | k_mem | (exact fun p hp => by repeat (first | exact hp | exact List.mem_append_left _ hp | apply List.Mem.tail))))))
    have N9 := news_sub (l' := [(D9, o9), (x, instObj 133 dx), (dx, W.dictOf es n2), (dF, oF), (L + 1, o1), (sp, o4)]) N9' (fun p hp => by
      rcases List.mem_cons.mp hp with h | h
      · rw [h]; exact .head _
      · exact .tail _ (sub9 _ p h))
    have nd9 : ([D9, x, dx, dF, L + 1, sp] : List Addr).Nodup := nd_sub (l' := [(x, instObj 133 dx), (dx, W.dictOf es n2), (dF, oF), (L + 1, o1), (sp, o4)]) ne9 (sub9 _) nd2
    clear sub9 N9' ne9 ne7 N7 F7 F6 N6 hts htl hSa hS4l nd3
    (try dsimp only)
    (repeat' (first | (k_unfold; (try dsimp only)) | ((fail_if_success (with_reducible show wpAny _ _ (setItem _ _ _) _ _ _)); (((with_reducible show wpAny _ _ _ _ _ _); (fail_if_success (with_reducible show wpAny _ _ (exec (Stmt.While _ _ _ _) _) _ _ _)); (fail_if_success (with_reducible show wpAny _ _ (exec (Stmt.Raise _ _ _) _) _ _ _)); (fail_if_success (with_reducible show wpAny _ _ (exec (Stmt.Try _ _ _ _ _) _) _ _ _)); (fail_if_success (with_reducible show wpAny _ _ (exec (Stmt.For _ _ _ _ _) _) _ _ _)); (fail_if_success (with_reducible show wpAny _ _ (call (Value.ref _) _) _ _ _)); (fail_if_success (with_reducible show wpAny _ _ (call (Value.builtin "dict.pop") _) _ _ _)); (fail_if_success (with_reducible show wpAny _ _ (eval (Expr.ListComp _ _ _ _) _) _ _ _)); (fail_if_success (with_reducible show wpAny _ _ (exec (Stmt.Assign _ (Expr.ListComp _ _ _ _) _) _) _ _ _)); (fail_if_success (with_reducible show wpAny _ _ (call (Value.builtin "sorted") _) _ _ _)); (fail_if_success (with_reducible show wpAny _ _ (call (Value.type "list") [Value.ref _]) _ _ _)); (fail_if_success (with_reducible show wpAny _ _ (call (Value.type "dict") [Value.ref _]) _ _ _)); (try dsimp only); walk1))) | (first | ((with_reducible show ite _ _ _); walk1) | ((with_reducible show _ ∧ _); walk1) | (leave1; (try dsimp only)) | (dsimp only [InvPostN]) | fail "no step")))
    rename Fr _ _ _ _ => kF
    rename News _ _ _ _ => kN
    refine wsetB c0 kF kN (kN (x, instObj 133 dx) (by k_mem)).1 (updF_nd [(D9, _), (x, _)] nd9) (by assumption) (by assumption) (by decide +kernel) ?_
    clear kF kN
    intro h' esB nB F' N' fa' all'
    dsimp only [List.cons_append, List.nil_append] at N'
    (try dsimp only)
    (repeat' (first | (k_unfold; (try dsimp only)) | ((fail_if_success (with_reducible show wpAny _ _ (setItem _ _ _) _ _ _)); (((with_reducible show wpAny _ _ _ _ _ _); (fail_if_success (with_reducible show wpAny _ _ (exec (Stmt.While _ _ _ _) _) _ _ _)); (fail_if_success (with_reducible show wpAny _ _ (exec (Stmt.Raise _ _ _) _) _ _ _)); (fail_if_success (with_reducible show wpAny _ _ (exec (Stmt.Try _ _ _ _ _) _) _ _ _)); (fail_if_success (with_reducible show wpAny _ _ (exec (Stmt.For _ _ _ _ _) _) _ _ _)); (fail_if_success (with_reducible show wpAny _ _ (call (Value.ref _) _) _ _ _)); (fail_if_success (with_reducible show wpAny _ _ (call (Value.builtin "dict.pop") _) _ _ _)); (fail_if_success (with_reducible show wpAny _ _ (eval (Expr.ListComp _ _ _ _) _) _ _ _)); (fail_if_success (with_reducible show wpAny _ _ (exec (Stmt.Assign _ (Expr.ListComp _ _ _ _) _) _) _ _ _)); (fail_if_success (with_reducible show wpAny _ _ (call (Value.builtin "sorted") _) _ _ _)); (fail_if_success (with_reducible show wpAny _ _ (call (Value.type "list") [Value.ref _]) _ _ _)); (fail_if_success (with_reducible show wpAny _ _ (call (Value.type "dict") [Value.ref _]) _ _ _)); (try dsimp only); walk1))) | (first | ((with_reducible show ite _ _ _); walk1) | ((with_reducible show _ ∧ _); walk1) | (leave1; (try dsimp only)) | (dsimp only [InvPostN]) | fail "no step")))
    refine ListComp_J g L (fun y => if y = Str.ofString "some" then some (.ref aS) else if y = Str.ofString "world" then some (.ref x) else none) (by with_unfolding_all rfl) (by decide) (by rfl) (by decide) (by rfl) ?_
    (repeat' (first | (k_unfold; (try dsimp only)) | ((fail_if_success (with_reducible show wpAny _ _ (setItem _ _ _) _ _ _)); (((with_reducible show wpAny _ _ _ _ _ _); (fail_if_success (with_reducible show wpAny _ _ (exec (Stmt.While _ _ _ _) _) _ _ _)); (fail_if_success (with_reducible show wpAny _ _ (exec (Stmt.Raise _ _ _) _) _ _ _)); (fail_if_success (with_reducible show wpAny _ _ (exec (Stmt.Try _ _ _ _ _) _) _ _ _)); (fail_if_success (with_reducible show wpAny _ _ (exec (Stmt.For _ _ _ _ _) _) _ _ _)); (fail_if_success (with_reducible show wpAny _ _ (call (Value.ref _) _) _ _ _)); (fail_if_success (with_reducible show wpAny _ _ (call (Value.builtin "dict.pop") _) _ _ _)); (fail_if_success (with_reducible show wpAny _ _ (eval (Expr.ListComp _ _ _ _) _) _ _ _)); (fail_if_success (with_reducible show wpAny _ _ (exec (Stmt.Assign _ (Expr.ListComp _ _ _ _) _) _) _ _ _)); (fail_if_success (with_reducible show wpAny _ _ (call (Value.builtin "sorted") _) _ _ _)); (fail_if_success (with_reducible show wpAny _ _ (call (Value.type "list") [Value.ref _]) _ _ _)); (fail_if_success (with_reducible show wpAny _ _ (call (Value.type "dict") [Value.ref _]) _ _ _)); (try dsimp only); walk1))) | (first | ((with_reducible show ite _ _ _); walk1) | ((with_reducible show _ ∧ _); walk1) | (leave1; (try dsimp only)) | (dsimp only [InvPostN]) | fail "no step")))
    rename_i aB hB2 FB NB lB
    have ndB : ([aB, D9, x, dx, dF, L + 1, sp] : List Addr).Nodup := nd_lt (by
      obtain ⟨g1, g2, g3, g4, g5, g6⟩ := lB
      exact (all_cons g1 (all_cons g2 (all_cons g3 (all_cons g4 (all_cons g5 (all_cons g6 all_nil))))))) nd9
    clear lB
    refine take_led c0 FB NB (updF_nd [(aB, _), (D9, _), (x, _), (dx, _), (dF, _), (L + 1, _)] ndB) (rm.deep (by decide)) io4 (list_keep hl FB.keep) hspl sl (by omega) ?_
    intro h10 tk10 v10 tv10 o10 F10 N10 io10 hv10
    dsimp only [List.cons_append, List.nil_append] at N10
    (try dsimp only)
    (repeat' (first | (k_unfold; (try dsimp only)) | ((fail_if_success (with_reducible show wpAny _ _ (setItem _ _ _) _ _ _)); (((with_reducible show wpAny _ _ _ _ _ _); (fail_if_success (with_reducible show wpAny _ _ (exec (Stmt.While _ _ _ _) _) _ _ _)); (fail_if_success (with_reducible show wpAny _ _ (exec (Stmt.Raise _ _ _) _) _ _ _)); (fail_if_success (with_reducible show wpAny _ _ (exec (Stmt.Try _ _ _ _ _) _) _ _ _)); (fail_if_success (with_reducible show wpAny _ _ (exec (Stmt.For _ _ _ _ _) _) _ _ _)); (fail_if_success (with_reducible show wpAny _ _ (call (Value.ref _) _) _ _ _)); (fail_if_success (with_reducible show wpAny _ _ (call (Value.builtin "dict.pop") _) _ _ _)); (fail_if_success (with_reducible show wpAny _ _ (eval (Expr.ListComp _ _ _ _) _) _ _ _)); (fail_if_success (with_reducible show wpAny _ _ (exec (Stmt.Assign _ (Expr.ListComp _ _ _ _) _) _) _ _ _)); (fail_if_success (with_reducible show wpAny _ _ (call (Value.builtin "sorted") _) _ _ _)); (fail_if_success (with_reducible show wpAny _ _ (call (Value.type "list") [Value.ref _]) _ _ _)); (fail_if_success (with_reducible show wpAny _ _ (call (Value.type "dict") [Value.ref _]) _ _ _)); (try dsimp only); walk1))) | (first | ((with_reducible show ite _ _ _); walk1) | ((with_reducible show _ ∧ _); walk1) | (leave1; (try dsimp only)) | (dsimp only [InvPostN]) | fail "no step")))
    have hq0 := Int.fmod_nonneg_of_pos v10 (b := 3) (by decide)
    have hq1 := Int.fmod_lt_of_pos v10 (b := 3) (by decide)
    obtain ⟨S2, hS2, hSb⟩ := some_take2 (a := tk) (b := tk + 1) hq0 hq1
    k_dflt (refine' kms_slice_lit (s := ⟨h10, s.gens, s.drawn, _, s.os⟩) ?jF1 ?jN1 ?jl1 ?jp1 ?jq1 ?je1 ?_ ?js1 ?jt1 ?jz1; (case jF1 => exact F10); (case jN1 => exact N10); (case jl1 => exact ⟨_, (N10 _ (.head _)).1, rfl, _, rfl⟩); (case jp1 => exact .none); (case jq1 => exact .int _ _); (case je1 => exact hS2); (case js1 => with_unfolding_all rfl); (case jt1 => kmk_pure); (case jz1 => exact Nat.le_of_ble_eq_true rfl))
    intro aS2 h11 F11 N11 ltS2
    clear hS2 hq0 hq1 ltS2
    (try dsimp only)
    have hS2l : S2.length ≤ 2 := by
      rw [hSb.length, List.length_take]; exact Nat.min_le_right _ _
    have hwA : ∀ y ∈ names2.take (v10.fmod 3).toNat, y ∈ names2 := fun y hy => List.mem_of_mem_take hy
    generalize names2.take (v10.fmod 3).toNat = wsA at hSb hwA
    generalize hfx : [(aS2, W.listOf S2.toArray 0), (D9, o9), (x, instObj 133 dx), (dx, W.dictOf esB nB), (dF, oF), (L + 1, o1), (sp, o10)] = fx
    have N12 : News g L h11 (fx ++ ([] : List (Addr × (Str × Tok × Value))).map tupOf) := news_sub N11 (by rw [← hfx]; (((repeat' (first | exact all_nil | refine all_cons ?_ ?_)) <;> first | k_mem | (exact fun p hp => by repeat (first | exact hp | exact List.mem_append_left _ hp | apply List.Mem.tail)))))
    refine SrcJ.list (vs := S2) (ol := W.listOf S2.toArray 0) (fun i ys nw => ∃ ts : List (Addr × (Str × Tok × Value)), nw = fx ++ ts.map tupOf ∧ ys = ts.map (fun p => Value.ref p.1) ∧ ts.map (fun p => p.2.1) = wsA.take i ∧ ∀ p ∈ ts, ∃ a, p.2.2.2 = .ref a) rfl ⟨_, (N11 _ (.head _)).1, rfl, _, rfl⟩ (N11 _ (.head _)).1 (by rw [sizeLine_eq]; omega) F11 N12 ⟨[], rfl, rfl, rfl, fun _ h => nomatch h⟩ (.inr ?_) ?_ ?_
    · rintro i ys nw ⟨ts, rfl, _⟩
      rw [← hfx]; simp
    · rintro g1 i v ys nw I oI C oC Dl m2 h12 tk12 E' hi12 hv ⟨ts, rfl, rfl, hts, hrf⟩ hC hx F12 N12 off ne12
      obtain ⟨y, ty, rfl, hy⟩ := hSb.item i v hv
      refine wpAny_tests_nil ?_
      (repeat' (first | (k_unfold; (try dsimp only)) | ((fail_if_success (with_reducible show wpAny _ _ (setItem _ _ _) _ _ _)); (((with_reducible show wpAny _ _ _ _ _ _); (fail_if_success (with_reducible show wpAny _ _ (exec (Stmt.While _ _ _ _) _) _ _ _)); (fail_if_success (with_reducible show wpAny _ _ (exec (Stmt.Raise _ _ _) _) _ _ _)); (fail_if_success (with_reducible show wpAny _ _ (exec (Stmt.Try _ _ _ _ _) _) _ _ _)); (fail_if_success (with_reducible show wpAny _ _ (exec (Stmt.For _ _ _ _ _) _) _ _ _)); (fail_if_success (with_reducible show wpAny _ _ (call (Value.ref _) _) _ _ _)); (fail_if_success (with_reducible show wpAny _ _ (call (Value.builtin "dict.pop") _) _ _ _)); (fail_if_success (with_reducible show wpAny _ _ (eval (Expr.ListComp _ _ _ _) _) _ _ _)); (fail_if_success (with_reducible show wpAny _ _ (exec (Stmt.Assign _ (Expr.ListComp _ _ _ _) _) _) _ _ _)); (fail_if_success (with_reducible show wpAny _ _ (call (Value.builtin "sorted") _) _ _ _)); (fail_if_success (with_reducible show wpAny _ _ (call (Value.type "list") [Value.ref _]) _ _ _)); (fail_if_success (with_reducible show wpAny _ _ (call (Value.type "dict") [Value.ref _]) _ _ _)); (try dsimp only); walk1))) | (first | ((with_reducible show ite _ _ _); walk1) | ((with_reducible show _ ∧ _); walk1) | (leave1; (try dsimp only)) | (dsimp only [InvPostN]) | fail "no step")))
      rename_i lq hq lt1 Dq hq2 Fq Nq lt2
      refine TurnEnd.intro Fq Nq (fx ++ (ts ++ [(Dq, y, ty, Value.ref lq)]).map tupOf) (fun p hp => sub_mapG hp) (off_mapG off lt2.2.1 lt2.2.2.1 lt2.2.2.2.1) ⟨ts ++ [(Dq, y, ty, Value.ref lq)], rfl, by simp, ?_, ?_⟩
      · rw [List.map_append, hts, List.take_add_one, hy]; rfl
      · intro p hp
        rcases List.mem_append.mp hp with hp | hp
        · exact hrf p hp
        · rw [List.mem_singleton.mp hp]; exact ⟨_, rfl⟩
    · rintro ys nw ⟨ts, rfl, rfl, hts, hrf⟩ D3 h12 tk12 F12 N12 ne12
      rw [hSb.length, List.take_length] at hts
      (try dsimp only)
      (repeat' (first | (k_unfold; (try dsimp only)) | ((fail_if_success (with_reducible show wpAny _ _ (setItem _ _ _) _ _ _)); (((with_reducible show wpAny _ _ _ _ _ _); (fail_if_success (with_reducible show wpAny _ _ (exec (Stmt.While _ _ _ _) _) _ _ _)); (fail_if_success (with_reducible show wpAny _ _ (exec (Stmt.Raise _ _ _) _) _ _ _)); (fail_if_success (with_reducible show wpAny _ _ (exec (Stmt.Try _ _ _ _ _) _) _ _ _)); (fail_if_success (with_reducible show wpAny _ _ (exec (Stmt.For _ _ _ _ _) _) _ _ _)); (fail_if_success (with_reducible show wpAny _ _ (call (Value.ref _) _) _ _ _)); (fail_if_success (with_reducible show wpAny _ _ (call (Value.builtin "dict.pop") _) _ _ _)); (fail_if_success (with_reducible show wpAny _ _ (eval (Expr.ListComp _ _ _ _) _) _ _ _)); (fail_if_success (with_reducible show wpAny _ _ (exec (Stmt.Assign _ (Expr.ListComp _ _ _ _) _) _) _ _ _)); (fail_if_success (with_reducible show wpAny _ _ (call (Value.builtin "sorted") _) _ _ _)); (fail_if_success (with_reducible show wpAny _ _ (call (Value.type "list") [Value.ref _]) _ _ _)); (fail_if_success (with_reducible show wpAny _ _ (call (Value.type "dict") [Value.ref _]) _ _ _)); (try dsimp only); walk1))) | (first | ((with_reducible show ite _ _ _); walk1) | ((with_reducible show _ ∧ _); walk1) | (leave1; (try dsimp only)) | (dsimp only [InvPostN]) | fail "no step")))
      have htl : ts.length = S2.length := by
        rw [hSb.length, ← hts, List.length_map]
      refine dict_pairs (knd := PySem.strKind prog w) rfl F12 N12 T.nolimit (N12 _ (.head _)).1 (ts.map fun p => (p.2.1, p.2.2.2)) (by simp) (by rw [List.length_map]; omega) (fun i v hv => ?_) ?_
      · exact tup_at (fun p hp => (N12 p (.tail _ (List.mem_append_right _ hp))).1) rfl hv
      intro h13 tk13 oA DA F13 N13' loA hA' ne13
      have hAm : ∀ p ∈ fillD (ts.map fun p => (p.2.1, p.2.2.2)), p.1 ∈ names2 ∧ ∃ a, p.2 = .ref a := fun p hp => by
        obtain ⟨q, hq, rfl⟩ := List.mem_map.mp (fillD_mem hp)
        exact ⟨hwA _ (hts ▸ List.mem_map_of_mem hq), hrf q hq⟩
      have hAl : (fillD (ts.map fun p => (p.2.1, p.2.2.2))).length ≤ 2 := by
        have := fillD_len (ts.map fun p => (p.2.1, p.2.2.2))
        rw [List.length_map] at this; omega
      generalize fillD (ts.map fun p => (p.2.1, p.2.2.2)) = kvA at hA' hAm hAl
      subst hfx
      have sub13 : ∀ p ∈ [(D9, o9), (x, instObj 133 dx), (dx, W.dictOf esB nB), (dF, oF), (L + 1, o1), (sp, o10)], p ∈ (D3, LCg.lst (List.map (fun p => Value.ref p.1) ts)) :: ([(aS2, W.listOf S2.toArray 0), (D9, o9), (x, instObj 133 dx), (dx, W.dictOf esB nB), (dF, oF), (L + 1, o1), (sp, o10)] ++ ts.map tupOf) := by (((repeat' (first | exact all_nil | refine all_cons ?_ ?_)) <;> first | k_mem | (exact fun p hp => by repeat (first | exact hp | exact List.mem_append_left _ hp | apply List.Mem.tail))))
      have N13 := news_sub (l' := [(DA, oA), (D9, o9), (x, instObj 133 dx), (dx, W.dictOf esB nB), (dF, oF), (L + 1, o1), (sp, o10)]) N13' (fun p hp => by
        rcases List.mem_cons.mp hp with h | h
        · rw [h]; exact .head _
        · exact .tail _ (sub13 p h))
      have nd13 : ([DA, D9, x, dx, dF, L + 1, sp] : List Addr).Nodup := nd_sub (l' := [(D9, o9), (x, instObj 133 dx), (dx, W.dictOf esB nB), (dF, oF), (L + 1, o1), (sp, o10)]) ne13 sub13 nd9
      clear sub13 N13' ne13 ne12 N12 F12 hts hrf htl hSb hwA hS2l N11 F11 ndB F10 N10 FB NB
      (try dsimp only)
      (repeat' (first | (k_unfold; (try dsimp only)) | ((fail_if_success (with_reducible show wpAny _ _ (setItem _ _ _) _ _ _)); (((with_reducible show wpAny _ _ _ _ _ _); (fail_if_success (with_reducible show wpAny _ _ (exec (Stmt.While _ _ _ _) _) _ _ _)); (fail_if_success (with_reducible show wpAny _ _ (exec (Stmt.Raise _ _ _) _) _ _ _)); (fail_if_success (with_reducible show wpAny _ _ (exec (Stmt.Try _ _ _ _ _) _) _ _ _)); (fail_if_success (with_reducible show wpAny _ _ (exec (Stmt.For _ _ _ _ _) _) _ _ _)); (fail_if_success (with_reducible show wpAny _ _ (call (Value.ref _) _) _ _ _)); (fail_if_success (with_reducible show wpAny _ _ (call (Value.builtin "dict.pop") _) _ _ _)); (fail_if_success (with_reducible show wpAny _ _ (eval (Expr.ListComp _ _ _ _) _) _ _ _)); (fail_if_success (with_reducible show wpAny _ _ (exec (Stmt.Assign _ (Expr.ListComp _ _ _ _) _) _) _ _ _)); (fail_if_success (with_reducible show wpAny _ _ (call (Value.builtin "sorted") _) _ _ _)); (fail_if_success (with_reducible show wpAny _ _ (call (Value.type "list") [Value.ref _]) _ _ _)); (fail_if_success (with_reducible show wpAny _ _ (call (Value.type "dict") [Value.ref _]) _ _ _)); (try dsimp only); walk1))) | (first | ((with_reducible show ite _ _ _); walk1) | ((with_reducible show _ ∧ _); walk1) | (leave1; (try dsimp only)) | (dsimp only [InvPostN]) | fail "no step")))
      rename Fr _ _ _ _ => kF
      rename News _ _ _ _ => kN
      refine wsetB c0 kF kN (kN (x, instObj 133 dx) (by k_mem)).1 (updF_nd [(DA, _), (D9, _), (x, _)] nd13) (by assumption) (by assumption) (by decide +kernel) ?_
      clear kF kN
      intro h' esC nC F' N' fa' all'
      dsimp only [List.cons_append, List.nil_append] at N'
      (try dsimp only)
      (repeat' (first | (k_unfold; (try dsimp only)) | ((fail_if_success (with_reducible show wpAny _ _ (setItem _ _ _) _ _ _)); (((with_reducible show wpAny _ _ _ _ _ _); (fail_if_success (with_reducible show wpAny _ _ (exec (Stmt.While _ _ _ _) _) _ _ _)); (fail_if_success (with_reducible show wpAny _ _ (exec (Stmt.Raise _ _ _) _) _ _ _)); (fail_if_success (with_reducible show wpAny _ _ (exec (Stmt.Try _ _ _ _ _) _) _ _ _)); (fail_if_success (with_reducible show wpAny _ _ (exec (Stmt.For _ _ _ _ _) _) _ _ _)); (fail_if_success (with_reducible show wpAny _ _ (call (Value.ref _) _) _ _ _)); (fail_if_success (with_reducible show wpAny _ _ (call (Value.builtin "dict.pop") _) _ _ _)); (fail_if_success (with_reducible show wpAny _ _ (eval (Expr.ListComp _ _ _ _) _) _ _ _)); (fail_if_success (with_reducible show wpAny _ _ (exec (Stmt.Assign _ (Expr.ListComp _ _ _ _) _) _) _ _ _)); (fail_if_success (with_reducible show wpAny _ _ (call (Value.builtin "sorted") _) _ _ _)); (fail_if_success (with_reducible show wpAny _ _ (call (Value.type "list") [Value.ref _]) _ _ _)); (fail_if_success (with_reducible show wpAny _ _ (call (Value.type "dict") [Value.ref _]) _ _ _)); (try dsimp only); walk1))) | (first | ((with_reducible show ite _ _ _); walk1) | ((with_reducible show _ ∧ _); walk1) | (leave1; (try dsimp only)) | (dsimp only [InvPostN]) | fail "no step")))
      walk1
      (repeat' (first | (k_unfold; (try dsimp only)) | ((fail_if_success (with_reducible show wpAny _ _ (setItem _ _ _) _ _ _)); (((with_reducible show wpAny _ _ _ _ _ _); (fail_if_success (with_reducible show wpAny _ _ (exec (Stmt.While _ _ _ _) _) _ _ _)); (fail_if_success (with_reducible show wpAny _ _ (exec (Stmt.Raise _ _ _) _) _ _ _)); (fail_if_success (with_reducible show wpAny _ _ (exec (Stmt.Try _ _ _ _ _) _) _ _ _)); (fail_if_success (with_reducible show wpAny _ _ (exec (Stmt.For _ _ _ _ _) _) _ _ _)); (fail_if_success (with_reducible show wpAny _ _ (call (Value.ref _) _) _ _ _)); (fail_if_success (with_reducible show wpAny _ _ (call (Value.builtin "dict.pop") _) _ _ _)); (fail_if_success (with_reducible show wpAny _ _ (eval (Expr.ListComp _ _ _ _) _) _ _ _)); (fail_if_success (with_reducible show wpAny _ _ (exec (Stmt.Assign _ (Expr.ListComp _ _ _ _) _) _) _ _ _)); (fail_if_success (with_reducible show wpAny _ _ (call (Value.builtin "sorted") _) _ _ _)); (fail_if_success (with_reducible show wpAny _ _ (call (Value.type "list") [Value.ref _]) _ _ _)); (fail_if_success (with_reducible show wpAny _ _ (call (Value.type "dict") [Value.ref _]) _ _ _)); (try dsimp only); walk1))) | (first | ((with_reducible show ite _ _ _); walk1) | ((with_reducible show _ ∧ _); walk1) | (leave1; (try dsimp only)) | (dsimp only [InvPostN]) | fail "no step")))
      refine ListComp_J g L (fun y => if y = Str.ofString "some" then some (.ref aS) else if y = Str.ofString "world" then some (.ref x) else none) (by with_unfolding_all rfl) (by decide) (by rfl) (by decide) (by rfl) ?_
      (repeat' (first | (k_unfold; (try dsimp only)) | ((fail_if_success (with_reducible show wpAny _ _ (setItem _ _ _) _ _ _)); (((with_reducible show wpAny _ _ _ _ _ _); (fail_if_success (with_reducible show wpAny _ _ (exec (Stmt.While _ _ _ _) _) _ _ _)); (fail_if_success (with_reducible show wpAny _ _ (exec (Stmt.Raise _ _ _) _) _ _ _)); (fail_if_success (with_reducible show wpAny _ _ (exec (Stmt.Try _ _ _ _ _) _) _ _ _)); (fail_if_success (with_reducible show wpAny _ _ (exec (Stmt.For _ _ _ _ _) _) _ _ _)); (fail_if_success (with_reducible show wpAny _ _ (call (Value.ref _) _) _ _ _)); (fail_if_success (with_reducible show wpAny _ _ (call (Value.builtin "dict.pop") _) _ _ _)); (fail_if_success (with_reducible show wpAny _ _ (eval (Expr.ListComp _ _ _ _) _) _ _ _)); (fail_if_success (with_reducible show wpAny _ _ (exec (Stmt.Assign _ (Expr.ListComp _ _ _ _) _) _) _ _ _)); (fail_if_success (with_reducible show wpAny _ _ (call (Value.builtin "sorted") _) _ _ _)); (fail_if_success (with_reducible show wpAny _ _ (call (Value.type "list") [Value.ref _]) _ _ _)); (fail_if_success (with_reducible show wpAny _ _ (call (Value.type "dict") [Value.ref _]) _ _ _)); (try dsimp only); walk1))) | (first | ((with_reducible show ite _ _ _); walk1) | ((with_reducible show _ ∧ _); walk1) | (leave1; (try dsimp only)) | (dsimp only [InvPostN]) | fail "no step")))
      rename_i aW hW FW NW lW
      have e5 := words5_are tk
      generalize hvW : [Value.str (Str.ofString "A") tk, .str (Str.ofString "B%") (tk + 1), .str (Str.ofString "Z") (tk + 1 + 1), .str (Str.ofString "A()") (tk + 1 + 1 + 1), .str (Str.ofString "D$()") (tk + 1 + 1 + 1 + 1)] = vW at e5
      have N14 := news_sub (l' := [(aW, W.listOf vW.toArray 0), (DA, oA), (D9, o9), (x, instObj 133 dx), (dx, W.dictOf esC nC), (dF, oF), (L + 1, o1), (sp, o10)]) NW (fun p hp => by
        rw [← hvW] at hp
        exact hp)
      have ndW : ([aW, DA, D9, x, dx, dF, L + 1, sp] : List Addr).Nodup := nd_lt (by
        obtain ⟨g1, g2, g3, g4, g5, g6, g7⟩ := lW
        exact (all_cons g1 (all_cons g2 (all_cons g3 (all_cons g4 (all_cons g5 (all_cons g6 (all_cons g7 all_nil)))))))) nd13
      clear hvW NW lW
      have hvl : vW.length = 5 := e5.length
      refine SrcJ.list (vs := vW) (ol := W.listOf vW.toArray 0) (fun i ys nw => ∃ os ws, nw = [(aW, W.listOf vW.toArray 0), (DA, oA), (D9, o9), (x, instObj 133 dx), (dx, W.dictOf esC nC), (dF, oF), (L + 1, o1), (sp, os)] ∧ IsSpool os (n + 2 + i) l ∧ StrsAre ys ws ∧ ws.length ≤ i ∧ ∀ y ∈ ws, y ∈ words5) rfl ⟨_, (N14 _ (.head _)).1, rfl, _, rfl⟩ (N14 _ (.head _)).1 (by rw [sizeLine_eq]; omega) FW N14 ⟨o10, [], rfl, io10, .nil, Nat.le_refl _, fun _ h => nomatch h⟩ (.inr ?_) ?_ ?_
      · rintro i ys nw ⟨os, ws, rfl, _⟩
        simp
      · rintro g1 i v ys nw I oI C oC Dl m2 h15 tk15 E' hi15 hv ⟨os, ws, rfl, ios, hys, hwl, hws⟩ hC hx F15 N15 off ne15
        obtain ⟨y, ty, rfl, hy⟩ := e5.item i v hv
        have U15 : UpdF sp os ((I, oI) :: (C, oC) :: (Dl, LCg.lst ys) :: [(aW, W.listOf vW.toArray 0), (DA, oA), (D9, o9), (x, instObj 133 dx), (dx, W.dictOf esC nC), (dF, oF), (L + 1, o1), (sp, os)]) (fun o' => [(I, oI), (C, oC), (Dl, LCg.lst ys), (aW, W.listOf vW.toArray 0), (DA, oA), (D9, o9), (x, instObj 133 dx), (dx, W.dictOf esC nC), (dF, oF), (L + 1, o1), (sp, o')]) := by
          have q := off.mem (sp, os) (by simp)
          exact .tail (Ne.symm q.1) (.tail (Ne.symm q.2.1) (.tail (Ne.symm q.2.2) (updF_nd [(aW, _), (DA, _), (D9, _), (x, _), (dx, _), (dF, _), (L + 1, _)] ndW)))
        clear ne15
        refine wpAny_tests_one ?_
        (repeat' (first | (k_unfold; (try dsimp only)) | ((fail_if_success (with_reducible show wpAny _ _ (setItem _ _ _) _ _ _)); (((with_reducible show wpAny _ _ _ _ _ _); (fail_if_success (with_reducible show wpAny _ _ (exec (Stmt.While _ _ _ _) _) _ _ _)); (fail_if_success (with_reducible show wpAny _ _ (exec (Stmt.Raise _ _ _) _) _ _ _)); (fail_if_success (with_reducible show wpAny _ _ (exec (Stmt.Try _ _ _ _ _) _) _ _ _)); (fail_if_success (with_reducible show wpAny _ _ (exec (Stmt.For _ _ _ _ _) _) _ _ _)); (fail_if_success (with_reducible show wpAny _ _ (call (Value.ref _) _) _ _ _)); (fail_if_success (with_reducible show wpAny _ _ (call (Value.builtin "dict.pop") _) _ _ _)); (fail_if_success (with_reducible show wpAny _ _ (eval (Expr.ListComp _ _ _ _) _) _ _ _)); (fail_if_success (with_reducible show wpAny _ _ (exec (Stmt.Assign _ (Expr.ListComp _ _ _ _) _) _) _ _ _)); (fail_if_success (with_reducible show wpAny _ _ (call (Value.builtin "sorted") _) _ _ _)); (fail_if_success (with_reducible show wpAny _ _ (call (Value.type "list") [Value.ref _]) _ _ _)); (fail_if_success (with_reducible show wpAny _ _ (call (Value.type "dict") [Value.ref _]) _ _ _)); (try dsimp only); walk1))) | (first | ((with_reducible show ite _ _ _); walk1) | ((with_reducible show _ ∧ _); walk1) | (leave1; (try dsimp only)) | (dsimp only [InvPostN]) | fail "no step")))
        rename Fr _ _ _ _ => F15'
        rename News _ _ _ _ => N15'
        refine take_led c0 F15' N15' U15 (rm.deep (by decide)) ios (list_keep hl F15'.keep) hspl sl (by omega) ?_
        intro h16 tk16 v16 tv16 o16 F16 N16 io16 hv16
        clear U15
        (try dsimp only at N16)
        (try dsimp only)
        (repeat' (first | (k_unfold; (try dsimp only)) | ((fail_if_success (with_reducible show wpAny _ _ (setItem _ _ _) _ _ _)); (((with_reducible show wpAny _ _ _ _ _ _); (fail_if_success (with_reducible show wpAny _ _ (exec (Stmt.While _ _ _ _) _) _ _ _)); (fail_if_success (with_reducible show wpAny _ _ (exec (Stmt.Raise _ _ _) _) _ _ _)); (fail_if_success (with_reducible show wpAny _ _ (exec (Stmt.Try _ _ _ _ _) _) _ _ _)); (fail_if_success (with_reducible show wpAny _ _ (exec (Stmt.For _ _ _ _ _) _) _ _ _)); (fail_if_success (with_reducible show wpAny _ _ (call (Value.ref _) _) _ _ _)); (fail_if_success (with_reducible show wpAny _ _ (call (Value.builtin "dict.pop") _) _ _ _)); (fail_if_success (with_reducible show wpAny _ _ (eval (Expr.ListComp _ _ _ _) _) _ _ _)); (fail_if_success (with_reducible show wpAny _ _ (exec (Stmt.Assign _ (Expr.ListComp _ _ _ _) _) _) _ _ _)); (fail_if_success (with_reducible show wpAny _ _ (call (Value.builtin "sorted") _) _ _ _)); (fail_if_success (with_reducible show wpAny _ _ (call (Value.type "list") [Value.ref _]) _ _ _)); (fail_if_success (with_reducible show wpAny _ _ (call (Value.type "dict") [Value.ref _]) _ _ _)); (try dsimp only); walk1))) | (first | ((with_reducible show ite _ _ _); walk1) | ((with_reducible show _ ∧ _); walk1) | (leave1; (try dsimp only)) | (dsimp only [InvPostN]) | fail "no step")))
        · rename Fr _ _ _ _ => F17
          rename News _ _ _ _ => N17
          exact TurnEnd.intro F17 N17 [(aW, W.listOf vW.toArray 0), (DA, oA), (D9, o9), (x, instObj 133 dx), (dx, W.dictOf esC nC), (dF, oF), (L + 1, o1), (sp, o16)] (fun _ h => h) off ⟨o16, ws ++ [y], rfl, io16, strs_snoc hys, by rw [List.length_append]; exact Nat.succ_le_succ hwl, fun z hz => by
            rcases List.mem_append.mp hz with hz | hz
            · exact hws z hz
            · rw [List.mem_singleton.mp hz]; exact List.mem_of_getElem? hy⟩
        · rename Fr _ _ _ _ => F17
          rename News _ _ _ _ => N17
          exact TurnEnd.intro F17 N17 [(aW, W.listOf vW.toArray 0), (DA, oA), (D9, o9), (x, instObj 133 dx), (dx, W.dictOf esC nC), (dF, oF), (L + 1, o1), (sp, o16)] (fun _ h => h) off ⟨o16, ws, rfl, io16, hys, Nat.le_succ_of_le hwl, hws⟩
      · rintro ys nw ⟨os, ws, rfl, ios, hys, hwl, hws⟩ D4 h16 tk16 F16 N16 ne16
        have ndC : ([D4, aW, DA, D9, x, dx, dF, L + 1, sp] : List Addr).Nodup := nd_new (news := [(aW, W.listOf vW.toArray 0), (DA, oA), (D9, o9), (x, instObj 133 dx), (dx, W.dictOf esC nC), (dF, oF), (L + 1, o1), (sp, os)]) ne16 ndW
        clear ne16 FW N14
        rw [hvl] at ios hwl
        (try dsimp only)
        (repeat' (first | (k_unfold; (try dsimp only)) | ((fail_if_success (with_reducible show wpAny _ _ (setItem _ _ _) _ _ _)); (((with_reducible show wpAny _ _ _ _ _ _); (fail_if_success (with_reducible show wpAny _ _ (exec (Stmt.While _ _ _ _) _) _ _ _)); (fail_if_success (with_reducible show wpAny _ _ (exec (Stmt.Raise _ _ _) _) _ _ _)); (fail_if_success (with_reducible show wpAny _ _ (exec (Stmt.Try _ _ _ _ _) _) _ _ _)); (fail_if_success (with_reducible show wpAny _ _ (exec (Stmt.For _ _ _ _ _) _) _ _ _)); (fail_if_success (with_reducible show wpAny _ _ (call (Value.ref _) _) _ _ _)); (fail_if_success (with_reducible show wpAny _ _ (call (Value.builtin "dict.pop") _) _ _ _)); (fail_if_success (with_reducible show wpAny _ _ (eval (Expr.ListComp _ _ _ _) _) _ _ _)); (fail_if_success (with_reducible show wpAny _ _ (exec (Stmt.Assign _ (Expr.ListComp _ _ _ _) _) _) _ _ _)); (fail_if_success (with_reducible show wpAny _ _ (call (Value.builtin "sorted") _) _ _ _)); (fail_if_success (with_reducible show wpAny _ _ (call (Value.type "list") [Value.ref _]) _ _ _)); (fail_if_success (with_reducible show wpAny _ _ (call (Value.type "dict") [Value.ref _]) _ _ _)); (try dsimp only); walk1))) | (first | ((with_reducible show ite _ _ _); walk1) | ((with_reducible show _ ∧ _); walk1) | (leave1; (try dsimp only)) | (dsimp only [InvPostN]) | fail "no step")))
        rename Fr _ _ _ _ => kF
        rename News _ _ _ _ => kN
        refine wsetB c0 kF kN (kN (x, instObj 133 dx) (by k_mem)).1 (updF_nd [(D4, _), (aW, _), (DA, _), (D9, _), (x, _)] ndC) (by assumption) (by assumption) (by decide +kernel) ?_
        clear kF kN
        intro h' esD nD F' N' fa' all'
        dsimp only [List.cons_append, List.nil_append] at N'
        (try dsimp only)
        (repeat' (first | (k_unfold; (try dsimp only)) | ((fail_if_success (with_reducible show wpAny _ _ (setItem _ _ _) _ _ _)); (((with_reducible show wpAny _ _ _ _ _ _); (fail_if_success (with_reducible show wpAny _ _ (exec (Stmt.While _ _ _ _) _) _ _ _)); (fail_if_success (with_reducible show wpAny _ _ (exec (Stmt.Raise _ _ _) _) _ _ _)); (fail_if_success (with_reducible show wpAny _ _ (exec (Stmt.Try _ _ _ _ _) _) _ _ _)); (fail_if_success (with_reducible show wpAny _ _ (exec (Stmt.For _ _ _ _ _) _) _ _ _)); (fail_if_success (with_reducible show wpAny _ _ (call (Value.ref _) _) _ _ _)); (fail_if_success (with_reducible show wpAny _ _ (call (Value.builtin "dict.pop") _) _ _ _)); (fail_if_success (with_reducible show wpAny _ _ (eval (Expr.ListComp _ _ _ _) _) _ _ _)); (fail_if_success (with_reducible show wpAny _ _ (exec (Stmt.Assign _ (Expr.ListComp _ _ _ _) _) _) _ _ _)); (fail_if_success (with_reducible show wpAny _ _ (call (Value.builtin "sorted") _) _ _ _)); (fail_if_success (with_reducible show wpAny _ _ (call (Value.type "list") [Value.ref _]) _ _ _)); (fail_if_success (with_reducible show wpAny _ _ (call (Value.type "dict") [Value.ref _]) _ _ _)); (try dsimp only); walk1))) | (first | ((with_reducible show ite _ _ _); walk1) | ((with_reducible show _ ∧ _); walk1) | (leave1; (try dsimp only)) | (dsimp only [InvPostN]) | fail "no step")))
        rename_i lO hO1 lt1 lD hD1 lt2 aT hT1 lt3 hT2 FT NT
        have ndO : ([lO, D4, aW, DA, D9, x, dx, dF, L + 1, sp] : List Addr).Nodup := nd_lt (by
          obtain ⟨g1, g2, g3, g4, g5, g6, g7, g8, g9⟩ := lt1
          exact (all_cons g1 (all_cons g2 (all_cons g3 (all_cons g4 (all_cons g5 (all_cons g6 (all_cons g7 (all_cons g8 (all_cons g9 all_nil)))))))))) ndC
        have ndD : ([lD, lO, D4, aW, DA, D9, x, dx, dF, L + 1, sp] : List Addr).Nodup := nd_lt (by
          obtain ⟨g1, g2, g3, g4, g5, g6, g7, g8, g9, g10⟩ := lt2
          exact (all_cons g1 (all_cons g2 (all_cons g3 (all_cons g4 (all_cons g5 (all_cons g6 (all_cons g7 (all_cons g8 (all_cons g9 (all_cons g10 all_nil))))))))))) ndO
        have ndE : ([lD, lO, D4, DA, D9, x, dx, dF, L + 1, sp] : List Addr).Nodup := ndD.sublist (.cons₂ _ (.cons₂ _ (.cons₂ _ (.cons _ (List.Sublist.refl _)))))
        obtain ⟨oD, oO, hoD, hoO, NE⟩ : ∃ oD oO : Obj, (∃ t u, oD = W.listOf #[.int 5 t, .int 6 u] 0) ∧ (∃ t, oO = W.listOf #[.str (Str.ofString "one") t] 0) ∧ News g L hT2 [(lD, oD), (lO, oO), (D4, LCg.lst ys), (DA, oA), (D9, o9), (x, instObj 133 dx), (dx, W.dictOf esD nD), (dF, oF), (L + 1, o1), (sp, os)] :=
          ⟨_, _, ⟨_, _, rfl⟩, ⟨_, rfl⟩, news_sub (l' := [(lD, W.listOf #[Value.int 5 (tk + 1 + 1), Value.int 6 (tk + 1 + 1 + 1)] 0), (lO, W.listOf #[Value.str (Str.ofString "one") tk] 0), (D4, LCg.lst ys), (DA, oA), (D9, o9), (x, instObj 133 dx), (dx, W.dictOf esD nD), (dF, oF), (L + 1, o1), (sp, os)]) NT (by (((repeat' (first | exact all_nil | refine all_cons ?_ ?_)) <;> first | k_mem | (exact fun p hp => by repeat (first | exact hp | exact List.mem_append_left _ hp | apply List.Mem.tail)))))⟩
        clear lt1 lt2 lt3 NT ndO ndD ndC ndW
        rename Fr _ _ _ _ => kF
        rename News _ _ _ _ => kN
        refine wsetB c0 kF kN (kN (x, instObj 133 dx) (by k_mem)).1 (updF_nd [(lD, _), (lO, _), (D4, _), (DA, _), (D9, _), (x, _)] ndE) (by assumption) (by assumption) (by decide +kernel) ?_
        clear kF kN
        intro h' esE nE F' N' fa' all'
        dsimp only [List.cons_append, List.nil_append] at N'
        (try dsimp only)
        (repeat' (first | (k_unfold; (try dsimp only)) | ((fail_if_success (with_reducible show wpAny _ _ (setItem _ _ _) _ _ _)); (((with_reducible show wpAny _ _ _ _ _ _); (fail_if_success (with_reducible show wpAny _ _ (exec (Stmt.While _ _ _ _) _) _ _ _)); (fail_if_success (with_reducible show wpAny _ _ (exec (Stmt.Raise _ _ _) _) _ _ _)); (fail_if_success (with_reducible show wpAny _ _ (exec (Stmt.Try _ _ _ _ _) _) _ _ _)); (fail_if_success (with_reducible show wpAny _ _ (exec (Stmt.For _ _ _ _ _) _) _ _ _)); (fail_if_success (with_reducible show wpAny _ _ (call (Value.ref _) _) _ _ _)); (fail_if_success (with_reducible show wpAny _ _ (call (Value.builtin "dict.pop") _) _ _ _)); (fail_if_success (with_reducible show wpAny _ _ (eval (Expr.ListComp _ _ _ _) _) _ _ _)); (fail_if_success (with_reducible show wpAny _ _ (exec (Stmt.Assign _ (Expr.ListComp _ _ _ _) _) _) _ _ _)); (fail_if_success (with_reducible show wpAny _ _ (call (Value.builtin "sorted") _) _ _ _)); (fail_if_success (with_reducible show wpAny _ _ (call (Value.type "list") [Value.ref _]) _ _ _)); (fail_if_success (with_reducible show wpAny _ _ (call (Value.type "dict") [Value.ref _]) _ _ _)); (try dsimp only); walk1))) | (first | ((with_reducible show ite _ _ _); walk1) | ((with_reducible show _ ∧ _); walk1) | (leave1; (try dsimp only)) | (dsimp only [InvPostN]) | fail "no step")))
        rename Fr _ _ _ _ => kF
        rename News _ _ _ _ => kN
        refine wsetB c0 kF kN (kN (x, instObj 133 dx) (by k_mem)).1 (updF_nd [(lD, _), (lO, _), (D4, _), (DA, _), (D9, _), (x, _)] ndE) (by assumption) (by assumption) (by decide +kernel) ?_
        clear kF kN
        intro h' esG nG F' N' fa' all'
        dsimp only [List.cons_append, List.nil_append] at N'
        (try dsimp only)
        (repeat' (first | (k_unfold; (try dsimp only)) | ((fail_if_success (with_reducible show wpAny _ _ (setItem _ _ _) _ _ _)); (((with_reducible show wpAny _ _ _ _ _ _); (fail_if_success (with_reducible show wpAny _ _ (exec (Stmt.While _ _ _ _) _) _ _ _)); (fail_if_success (with_reducible show wpAny _ _ (exec (Stmt.Raise _ _ _) _) _ _ _)); (fail_if_success (with_reducible show wpAny _ _ (exec (Stmt.Try _ _ _ _ _) _) _ _ _)); (fail_if_success (with_reducible show wpAny _ _ (exec (Stmt.For _ _ _ _ _) _) _ _ _)); (fail_if_success (with_reducible show wpAny _ _ (call (Value.ref _) _) _ _ _)); (fail_if_success (with_reducible show wpAny _ _ (call (Value.builtin "dict.pop") _) _ _ _)); (fail_if_success (with_reducible show wpAny _ _ (eval (Expr.ListComp _ _ _ _) _) _ _ _)); (fail_if_success (with_reducible show wpAny _ _ (exec (Stmt.Assign _ (Expr.ListComp _ _ _ _) _) _) _ _ _)); (fail_if_success (with_reducible show wpAny _ _ (call (Value.builtin "sorted") _) _ _ _)); (fail_if_success (with_reducible show wpAny _ _ (call (Value.type "list") [Value.ref _]) _ _ _)); (fail_if_success (with_reducible show wpAny _ _ (call (Value.type "dict") [Value.ref _]) _ _ _)); (try dsimp only); walk1))) | (first | ((with_reducible show ite _ _ _); walk1) | ((with_reducible show _ ∧ _); walk1) | (leave1; (try dsimp only)) | (dsimp only [InvPostN]) | fail "no step")))
        rename Fr _ _ _ _ => kF
        rename News _ _ _ _ => kN
        refine wsetB c0 kF kN (kN (x, instObj 133 dx) (by k_mem)).1 (updF_nd [(lD, _), (lO, _), (D4, _), (DA, _), (D9, _), (x, _)] ndE) (by assumption) (by assumption) (by decide +kernel) ?_
        clear kF kN
        intro h' esH nH F' N' fa' all'
        dsimp only [List.cons_append, List.nil_append] at N'
        (try dsimp only)
        (repeat' (first | (k_unfold; (try dsimp only)) | ((fail_if_success (with_reducible show wpAny _ _ (setItem _ _ _) _ _ _)); (((with_reducible show wpAny _ _ _ _ _ _); (fail_if_success (with_reducible show wpAny _ _ (exec (Stmt.While _ _ _ _) _) _ _ _)); (fail_if_success (with_reducible show wpAny _ _ (exec (Stmt.Raise _ _ _) _) _ _ _)); (fail_if_success (with_reducible show wpAny _ _ (exec (Stmt.Try _ _ _ _ _) _) _ _ _)); (fail_if_success (with_reducible show wpAny _ _ (exec (Stmt.For _ _ _ _ _) _) _ _ _)); (fail_if_success (with_reducible show wpAny _ _ (call (Value.ref _) _) _ _ _)); (fail_if_success (with_reducible show wpAny _ _ (call (Value.builtin "dict.pop") _) _ _ _)); (fail_if_success (with_reducible show wpAny _ _ (eval (Expr.ListComp _ _ _ _) _) _ _ _)); (fail_if_success (with_reducible show wpAny _ _ (exec (Stmt.Assign _ (Expr.ListComp _ _ _ _) _) _) _ _ _)); (fail_if_success (with_reducible show wpAny _ _ (call (Value.builtin "sorted") _) _ _ _)); (fail_if_success (with_reducible show wpAny _ _ (call (Value.type "list") [Value.ref _]) _ _ _)); (fail_if_success (with_reducible show wpAny _ _ (call (Value.type "dict") [Value.ref _]) _ _ _)); (try dsimp only); walk1))) | (first | ((with_reducible show ite _ _ _); walk1) | ((with_reducible show _ ∧ _); walk1) | (leave1; (try dsimp only)) | (dsimp only [InvPostN]) | fail "no step")))
        rename Fr _ _ _ _ => kF
        rename News _ _ _ _ => kN
        refine wsetB c0 kF kN (kN (x, instObj 133 dx) (by k_mem)).1 (updF_nd [(lD, _), (lO, _), (D4, _), (DA, _), (D9, _), (x, _)] ndE) (by assumption) (by assumption) (by decide +kernel) ?_
        clear kF kN
        intro h' esI nI F' N' fa' all'
        dsimp only [List.cons_append, List.nil_append] at N'
        (try dsimp only)
        (repeat' (first | (k_unfold; (try dsimp only)) | ((fail_if_success (with_reducible show wpAny _ _ (setItem _ _ _) _ _ _)); (((with_reducible show wpAny _ _ _ _ _ _); (fail_if_success (with_reducible show wpAny _ _ (exec (Stmt.While _ _ _ _) _) _ _ _)); (fail_if_success (with_reducible show wpAny _ _ (exec (Stmt.Raise _ _ _) _) _ _ _)); (fail_if_success (with_reducible show wpAny _ _ (exec (Stmt.Try _ _ _ _ _) _) _ _ _)); (fail_if_success (with_reducible show wpAny _ _ (exec (Stmt.For _ _ _ _ _) _) _ _ _)); (fail_if_success (with_reducible show wpAny _ _ (call (Value.ref _) _) _ _ _)); (fail_if_success (with_reducible show wpAny _ _ (call (Value.builtin "dict.pop") _) _ _ _)); (fail_if_success (with_reducible show wpAny _ _ (eval (Expr.ListComp _ _ _ _) _) _ _ _)); (fail_if_success (with_reducible show wpAny _ _ (exec (Stmt.Assign _ (Expr.ListComp _ _ _ _) _) _) _ _ _)); (fail_if_success (with_reducible show wpAny _ _ (call (Value.builtin "sorted") _) _ _ _)); (fail_if_success (with_reducible show wpAny _ _ (call (Value.type "list") [Value.ref _]) _ _ _)); (fail_if_success (with_reducible show wpAny _ _ (call (Value.type "dict") [Value.ref _]) _ _ _)); (try dsimp only); walk1))) | (first | ((with_reducible show ite _ _ _); walk1) | ((with_reducible show _ ∧ _); walk1) | (leave1; (try dsimp only)) | (dsimp only [InvPostN]) | fail "no step")))
        rename Fr _ _ _ _ => kF
        rename News _ _ _ _ => kN
        refine wsetB c0 kF kN (kN (x, instObj 133 dx) (by k_mem)).1 (updF_nd [(lD, _), (lO, _), (D4, _), (DA, _), (D9, _), (x, _)] ndE) (by assumption) (by assumption) (by decide +kernel) ?_
        clear kF kN
        intro h' esJ nJ F' N' fa' all'
        dsimp only [List.cons_append, List.nil_append] at N'
        (try dsimp only)
        (repeat' (first | (k_unfold; (try dsimp only)) | ((fail_if_success (with_reducible show wpAny _ _ (setItem _ _ _) _ _ _)); (((with_reducible show wpAny _ _ _ _ _ _); (fail_if_success (with_reducible show wpAny _ _ (exec (Stmt.While _ _ _ _) _) _ _ _)); (fail_if_success (with_reducible show wpAny _ _ (exec (Stmt.Raise _ _ _) _) _ _ _)); (fail_if_success (with_reducible show wpAny _ _ (exec (Stmt.Try _ _ _ _ _) _) _ _ _)); (fail_if_success (with_reducible show wpAny _ _ (exec (Stmt.For _ _ _ _ _) _) _ _ _)); (fail_if_success (with_reducible show wpAny _ _ (call (Value.ref _) _) _ _ _)); (fail_if_success (with_reducible show wpAny _ _ (call (Value.builtin "dict.pop") _) _ _ _)); (fail_if_success (with_reducible show wpAny _ _ (eval (Expr.ListComp _ _ _ _) _) _ _ _)); (fail_if_success (with_reducible show wpAny _ _ (exec (Stmt.Assign _ (Expr.ListComp _ _ _ _) _) _) _ _ _)); (fail_if_success (with_reducible show wpAny _ _ (call (Value.builtin "sorted") _) _ _ _)); (fail_if_success (with_reducible show wpAny _ _ (call (Value.type "list") [Value.ref _]) _ _ _)); (fail_if_success (with_reducible show wpAny _ _ (call (Value.type "dict") [Value.ref _]) _ _ _)); (try dsimp only); walk1))) | (first | ((with_reducible show ite _ _ _); walk1) | ((with_reducible show _ ∧ _); walk1) | (leave1; (try dsimp only)) | (dsimp only [InvPostN]) | fail "no step")))
        rename Fr _ _ _ _ => FZ
        rename News _ _ _ _ => NZ
        rename FieldsAre _ _ => faZ
        rename AllF _ => allZ
        refine h _ _ x dx esJ nJ _ dF D9 DA D4 lO lD oF o9 oA (LCg.lst ys) oO oD kvN kvA ys ws os (n + 2 + 5) (On.sub (On.of FZ NZ) (fun p hp => ?_)) ?_ ios (by omega) faZ allZ ?_
        · revert p hp; (((repeat' (first | exact all_nil | refine all_cons ?_ ?_)) <;> first | k_mem | (exact fun p hp => by repeat (first | exact hp | exact List.mem_append_left _ hp | apply List.Mem.tail))))
        · exact ndE.sublist (.cons₂ _ (.cons₂ _ (.cons₂ _ (.cons₂ _ (.cons₂ _ (.cons₂ _ (.cons₂ _ (.cons₂ _ (.cons _ (List.Sublist.refl _))))))))))
        · exact ⟨rfl, rfl, rfl, rfl, ⟨_, rfl⟩, rfl, ⟨_, rfl⟩, ⟨_, rfl⟩, hfF, hiF, loF, hN, loN, hNm, hNl, hA', loA, hAm, hAl, rfl, hys, hwl, hws, hoO, hoD⟩

theorem Rm.hd {A : Around} {n : Nat} (r : Rm A n) (h : 5 ≤ n) : A.depth + 1 + 3 < recursionLimit := by have := r.d; omega
theorem Rm.hu {A : Around} {n : Nat} (r : Rm A n) (h : 5 ≤ n) : A.units + 3 + 200 < cLine := by have := r.u; omega
theorem held_spec {prog : Program} {w : World} {mean : ExcName → Option Value} {mg mb : Str → Option Value} {A : Around} {s : Shared} {Q E : Value → Shared → Prop} {x dx aN aA lD lO lC : Addr} {a b : Int} {t u tr : Tok} {row : Str} {f : Str → Option Value}
    (c : Cx w mean mg mb s.heap) (rd : A.depth + 3 < recursionLimit) (ru : A.units + 200 < cLine) (wa : WAt s.heap x dx f) (hN : f (Str.ofString "names") = some (.ref aN)) (hA : f (Str.ofString "arrays") = some (.ref aA)) (hD : f (Str.ofString "data") = some (.ref lD)) (hS : f (Str.ofString "spot") = some (.int a t))
    (hH : f (Str.ofString "handler") = some (.int b u)) (hO : f (Str.ofString "out") = some (.ref lO)) (hR : f (Str.ofString "row") = some (.str row tr)) (hC : f (Str.ofString "common") = some (.ref lC))
    (h : ∀ h' tk D, (∀ b o, s.heap.get? b = some o → h'.get? b = some o) → s.heap.get? D = none → h'.get? D = some (W.listOf #[.ref aN, .ref aA, .ref lD, .int a t, .int b u, .ref lO, .str row tr, .ref lC] 0) → Q (.ref D) { s with heap := h', toks := tk }) :
    wpAny (model prog w) A (call (.ref 163) [.ref x]) Q E s := by
  have c0 := c
  obtain ⟨X, T⟩ := c
  obtain ⟨ah, ad, af, ag, au⟩ := A
  dsimp only at rd ru
  refine wpAny_call ?_
  k_dflt (refine' enter0 (binds := [(Str.ofString "world", .ref x)]) X T ?k6 ?k7 ?k8 ?k9 ?kB ?_ ?c2 ?c3 ?c4 ?c5; (((case k6 => k_is); (case k7 => k_is); (case k8 => ((try dsimp only); omega)); (case k9 => exact BindsTo.of_eq rfl); (case c5 => decide); (case kB => exact locs rfl); (case c2 => exact rfl); (case c3 => exact rfl); (case c4 => exact rfl))))
  intro L h1 F N
  rw [lk1] at F
  dsimp only
  k_fold
  (repeat' (first | (k_unfold; (try dsimp only)) | ((fail_if_success (with_reducible show wpAny _ _ (setItem _ _ _) _ _ _)); (((with_reducible show wpAny _ _ _ _ _ _); (fail_if_success (with_reducible show wpAny _ _ (exec (Stmt.While _ _ _ _) _) _ _ _)); (fail_if_success (with_reducible show wpAny _ _ (exec (Stmt.Raise _ _ _) _) _ _ _)); (fail_if_success (with_reducible show wpAny _ _ (exec (Stmt.Try _ _ _ _ _) _) _ _ _)); (fail_if_success (with_reducible show wpAny _ _ (exec (Stmt.For _ _ _ _ _) _) _ _ _)); (fail_if_success (with_reducible show wpAny _ _ (call (Value.ref _) _) _ _ _)); (fail_if_success (with_reducible show wpAny _ _ (call (Value.builtin "dict.pop") _) _ _ _)); (fail_if_success (with_reducible show wpAny _ _ (eval (Expr.ListComp _ _ _ _) _) _ _ _)); (fail_if_success (with_reducible show wpAny _ _ (exec (Stmt.Assign _ (Expr.ListComp _ _ _ _) _) _) _ _ _)); (fail_if_success (with_reducible show wpAny _ _ (call (Value.builtin "sorted") _) _ _ _)); (fail_if_success (with_reducible show wpAny _ _ (call (Value.type "list") [Value.ref _]) _ _ _)); (fail_if_success (with_reducible show wpAny _ _ (call (Value.type "dict") [Value.ref _]) _ _ _)); (try dsimp only); walk1))) | (first | ((with_reducible show ite _ _ _); walk1) | ((with_reducible show _ ∧ _); walk1) | (leave1; (try dsimp only)) | (dsimp only [InvPostN]) | fail "no step")))
  refine wgetW (c0.keeps F.keep) (wa.keep F.keep) (by decide +kernel) hN rfl ?_
  (try dsimp only)
  (repeat' (first | (k_unfold; (try dsimp only)) | ((fail_if_success (with_reducible show wpAny _ _ (setItem _ _ _) _ _ _)); (((with_reducible show wpAny _ _ _ _ _ _); (fail_if_success (with_reducible show wpAny _ _ (exec (Stmt.While _ _ _ _) _) _ _ _)); (fail_if_success (with_reducible show wpAny _ _ (exec (Stmt.Raise _ _ _) _) _ _ _)); (fail_if_success (with_reducible show wpAny _ _ (exec (Stmt.Try _ _ _ _ _) _) _ _ _)); (fail_if_success (with_reducible show wpAny _ _ (exec (Stmt.For _ _ _ _ _) _) _ _ _)); (fail_if_success (with_reducible show wpAny _ _ (call (Value.ref _) _) _ _ _)); (fail_if_success (with_reducible show wpAny _ _ (call (Value.builtin "dict.pop") _) _ _ _)); (fail_if_success (with_reducible show wpAny _ _ (eval (Expr.ListComp _ _ _ _) _) _ _ _)); (fail_if_success (with_reducible show wpAny _ _ (exec (Stmt.Assign _ (Expr.ListComp _ _ _ _) _) _) _ _ _)); (fail_if_success (with_reducible show wpAny _ _ (call (Value.builtin "sorted") _) _ _ _)); (fail_if_success (with_reducible show wpAny _ _ (call (Value.type "list") [Value.ref _]) _ _ _)); (fail_if_success (with_reducible show wpAny _ _ (call (Value.type "dict") [Value.ref _]) _ _ _)); (try dsimp only); walk1))) | (first | ((with_reducible show ite _ _ _); walk1) | ((with_reducible show _ ∧ _); walk1) | (leave1; (try dsimp only)) | (dsimp only [InvPostN]) | fail "no step")))
  refine wgetW (c0.keeps F.keep) (wa.keep F.keep) (by decide +kernel) hA rfl ?_
  (try dsimp only)
  (repeat' (first | (k_unfold; (try dsimp only)) | ((fail_if_success (with_reducible show wpAny _ _ (setItem _ _ _) _ _ _)); (((with_reducible show wpAny _ _ _ _ _ _); (fail_if_success (with_reducible show wpAny _ _ (exec (Stmt.While _ _ _ _) _) _ _ _)); (fail_if_success (with_reducible show wpAny _ _ (exec (Stmt.Raise _ _ _) _) _ _ _)); (fail_if_success (with_reducible show wpAny _ _ (exec (Stmt.Try _ _ _ _ _) _) _ _ _)); (fail_if_success (with_reducible show wpAny _ _ (exec (Stmt.For _ _ _ _ _) _) _ _ _)); (fail_if_success (with_reducible show wpAny _ _ (call (Value.ref _) _) _ _ _)); (fail_if_success (with_reducible show wpAny _ _ (call (Value.builtin "dict.pop") _) _ _ _)); (fail_if_success (with_reducible show wpAny _ _ (eval (Expr.ListComp _ _ _ _) _) _ _ _)); (fail_if_success (with_reducible show wpAny _ _ (exec (Stmt.Assign _ (Expr.ListComp _ _ _ _) _) _) _ _ _)); (fail_if_success (with_reducible show wpAny _ _ (call (Value.builtin "sorted") _) _ _ _)); (fail_if_success (with_reducible show wpAny _ _ (call (Value.type "list") [Value.ref _]) _ _ _)); (fail_if_success (with_reducible show wpAny _ _ (call (Value.type "dict") [Value.ref _]) _ _ _)); (try dsimp only); walk1))) | (first | ((with_reducible show ite _ _ _); walk1) | ((with_reducible show _ ∧ _); walk1) | (leave1; (try dsimp only)) | (dsimp only [InvPostN]) | fail "no step")))
  refine wgetW (c0.keeps F.keep) (wa.keep F.keep) (by decide +kernel) hD rfl ?_
  (try dsimp only)
  (repeat' (first | (k_unfold; (try dsimp only)) | ((fail_if_success (with_reducible show wpAny _ _ (setItem _ _ _) _ _ _)); (((with_reducible show wpAny _ _ _ _ _ _); (fail_if_success (with_reducible show wpAny _ _ (exec (Stmt.While _ _ _ _) _) _ _ _)); (fail_if_success (with_reducible show wpAny _ _ (exec (Stmt.Raise _ _ _) _) _ _ _)); (fail_if_success (with_reducible show wpAny _ _ (exec (Stmt.Try _ _ _ _ _) _) _ _ _)); (fail_if_success (with_reducible show wpAny _ _ (exec (Stmt.For _ _ _ _ _) _) _ _ _)); (fail_if_success (with_reducible show wpAny _ _ (call (Value.ref _) _) _ _ _)); (fail_if_success (with_reducible show wpAny _ _ (call (Value.builtin "dict.pop") _) _ _ _)); (fail_if_success (with_reducible show wpAny _ _ (eval (Expr.ListComp _ _ _ _) _) _ _ _)); (fail_if_success (with_reducible show wpAny _ _ (exec (Stmt.Assign _ (Expr.ListComp _ _ _ _) _) _) _ _ _)); (fail_if_success (with_reducible show wpAny _ _ (call (Value.builtin "sorted") _) _ _ _)); (fail_if_success (with_reducible show wpAny _ _ (call (Value.type "list") [Value.ref _]) _ _ _)); (fail_if_success (with_reducible show wpAny _ _ (call (Value.type "dict") [Value.ref _]) _ _ _)); (try dsimp only); walk1))) | (first | ((with_reducible show ite _ _ _); walk1) | ((with_reducible show _ ∧ _); walk1) | (leave1; (try dsimp only)) | (dsimp only [InvPostN]) | fail "no step")))
  refine wgetW (c0.keeps F.keep) (wa.keep F.keep) (by decide +kernel) hS rfl ?_
  (try dsimp only)
  (repeat' (first | (k_unfold; (try dsimp only)) | ((fail_if_success (with_reducible show wpAny _ _ (setItem _ _ _) _ _ _)); (((with_reducible show wpAny _ _ _ _ _ _); (fail_if_success (with_reducible show wpAny _ _ (exec (Stmt.While _ _ _ _) _) _ _ _)); (fail_if_success (with_reducible show wpAny _ _ (exec (Stmt.Raise _ _ _) _) _ _ _)); (fail_if_success (with_reducible show wpAny _ _ (exec (Stmt.Try _ _ _ _ _) _) _ _ _)); (fail_if_success (with_reducible show wpAny _ _ (exec (Stmt.For _ _ _ _ _) _) _ _ _)); (fail_if_success (with_reducible show wpAny _ _ (call (Value.ref _) _) _ _ _)); (fail_if_success (with_reducible show wpAny _ _ (call (Value.builtin "dict.pop") _) _ _ _)); (fail_if_success (with_reducible show wpAny _ _ (eval (Expr.ListComp _ _ _ _) _) _ _ _)); (fail_if_success (with_reducible show wpAny _ _ (exec (Stmt.Assign _ (Expr.ListComp _ _ _ _) _) _) _ _ _)); (fail_if_success (with_reducible show wpAny _ _ (call (Value.builtin "sorted") _) _ _ _)); (fail_if_success (with_reducible show wpAny _ _ (call (Value.type "list") [Value.ref _]) _ _ _)); (fail_if_success (with_reducible show wpAny _ _ (call (Value.type "dict") [Value.ref _]) _ _ _)); (try dsimp only); walk1))) | (first | ((with_reducible show ite _ _ _); walk1) | ((with_reducible show _ ∧ _); walk1) | (leave1; (try dsimp only)) | (dsimp only [InvPostN]) | fail "no step")))
  refine wgetW (c0.keeps F.keep) (wa.keep F.keep) (by decide +kernel) hH rfl ?_
  (try dsimp only)
  (repeat' (first | (k_unfold; (try dsimp only)) | ((fail_if_success (with_reducible show wpAny _ _ (setItem _ _ _) _ _ _)); (((with_reducible show wpAny _ _ _ _ _ _); (fail_if_success (with_reducible show wpAny _ _ (exec (Stmt.While _ _ _ _) _) _ _ _)); (fail_if_success (with_reducible show wpAny _ _ (exec (Stmt.Raise _ _ _) _) _ _ _)); (fail_if_success (with_reducible show wpAny _ _ (exec (Stmt.Try _ _ _ _ _) _) _ _ _)); (fail_if_success (with_reducible show wpAny _ _ (exec (Stmt.For _ _ _ _ _) _) _ _ _)); (fail_if_success (with_reducible show wpAny _ _ (call (Value.ref _) _) _ _ _)); (fail_if_success (with_reducible show wpAny _ _ (call (Value.builtin "dict.pop") _) _ _ _)); (fail_if_success (with_reducible show wpAny _ _ (eval (Expr.ListComp _ _ _ _) _) _ _ _)); (fail_if_success (with_reducible show wpAny _ _ (exec (Stmt.Assign _ (Expr.ListComp _ _ _ _) _) _) _ _ _)); (fail_if_success (with_reducible show wpAny _ _ (call (Value.builtin "sorted") _) _ _ _)); (fail_if_success (with_reducible show wpAny _ _ (call (Value.type "list") [Value.ref _]) _ _ _)); (fail_if_success (with_reducible show wpAny _ _ (call (Value.type "dict") [Value.ref _]) _ _ _)); (try dsimp only); walk1))) | (first | ((with_reducible show ite _ _ _); walk1) | ((with_reducible show _ ∧ _); walk1) | (leave1; (try dsimp only)) | (dsimp only [InvPostN]) | fail "no step")))
  refine wgetW (c0.keeps F.keep) (wa.keep F.keep) (by decide +kernel) hO rfl ?_
  (try dsimp only)
  (repeat' (first | (k_unfold; (try dsimp only)) | ((fail_if_success (with_reducible show wpAny _ _ (setItem _ _ _) _ _ _)); (((with_reducible show wpAny _ _ _ _ _ _); (fail_if_success (with_reducible show wpAny _ _ (exec (Stmt.While _ _ _ _) _) _ _ _)); (fail_if_success (with_reducible show wpAny _ _ (exec (Stmt.Raise _ _ _) _) _ _ _)); (fail_if_success (with_reducible show wpAny _ _ (exec (Stmt.Try _ _ _ _ _) _) _ _ _)); (fail_if_success (with_reducible show wpAny _ _ (exec (Stmt.For _ _ _ _ _) _) _ _ _)); (fail_if_success (with_reducible show wpAny _ _ (call (Value.ref _) _) _ _ _)); (fail_if_success (with_reducible show wpAny _ _ (call (Value.builtin "dict.pop") _) _ _ _)); (fail_if_success (with_reducible show wpAny _ _ (eval (Expr.ListComp _ _ _ _) _) _ _ _)); (fail_if_success (with_reducible show wpAny _ _ (exec (Stmt.Assign _ (Expr.ListComp _ _ _ _) _) _) _ _ _)); (fail_if_success (with_reducible show wpAny _ _ (call (Value.builtin "sorted") _) _ _ _)); (fail_if_success (with_reducible show wpAny _ _ (call (Value.type "list") [Value.ref _]) _ _ _)); (fail_if_success (with_reducible show wpAny _ _ (call (Value.type "dict") [Value.ref _]) _ _ _)); (try dsimp only); walk1))) | (first | ((with_reducible show ite _ _ _); walk1) | ((with_reducible show _ ∧ _); walk1) | (leave1; (try dsimp only)) | (dsimp only [InvPostN]) | fail "no step")))
  refine wgetW (c0.keeps F.keep) (wa.keep F.keep) (by decide +kernel) hR rfl ?_
  (try dsimp only)
  (repeat' (first | (k_unfold; (try dsimp only)) | ((fail_if_success (with_reducible show wpAny _ _ (setItem _ _ _) _ _ _)); (((with_reducible show wpAny _ _ _ _ _ _); (fail_if_success (with_reducible show wpAny _ _ (exec (Stmt.While _ _ _ _) _) _ _ _)); (fail_if_success (with_reducible show wpAny _ _ (exec (Stmt.Raise _ _ _) _) _ _ _)); (fail_if_success (with_reducible show wpAny _ _ (exec (Stmt.Try _ _ _ _ _) _) _ _ _)); (fail_if_success (with_reducible show wpAny _ _ (exec (Stmt.For _ _ _ _ _) _) _ _ _)); (fail_if_success (with_reducible show wpAny _ _ (call (Value.ref _) _) _ _ _)); (fail_if_success (with_reducible show wpAny _ _ (call (Value.builtin "dict.pop") _) _ _ _)); (fail_if_success (with_reducible show wpAny _ _ (eval (Expr.ListComp _ _ _ _) _) _ _ _)); (fail_if_success (with_reducible show wpAny _ _ (exec (Stmt.Assign _ (Expr.ListComp _ _ _ _) _) _) _ _ _)); (fail_if_success (with_reducible show wpAny _ _ (call (Value.builtin "sorted") _) _ _ _)); (fail_if_success (with_reducible show wpAny _ _ (call (Value.type "list") [Value.ref _]) _ _ _)); (fail_if_success (with_reducible show wpAny _ _ (call (Value.type "dict") [Value.ref _]) _ _ _)); (try dsimp only); walk1))) | (first | ((with_reducible show ite _ _ _); walk1) | ((with_reducible show _ ∧ _); walk1) | (leave1; (try dsimp only)) | (dsimp only [InvPostN]) | fail "no step")))
  refine wgetW (c0.keeps F.keep) (wa.keep F.keep) (by decide +kernel) hC rfl ?_
  (try dsimp only)
  (repeat' (first | (k_unfold; (try dsimp only)) | ((fail_if_success (with_reducible show wpAny _ _ (setItem _ _ _) _ _ _)); (((with_reducible show wpAny _ _ _ _ _ _); (fail_if_success (with_reducible show wpAny _ _ (exec (Stmt.While _ _ _ _) _) _ _ _)); (fail_if_success (with_reducible show wpAny _ _ (exec (Stmt.Raise _ _ _) _) _ _ _)); (fail_if_success (with_reducible show wpAny _ _ (exec (Stmt.Try _ _ _ _ _) _) _ _ _)); (fail_if_success (with_reducible show wpAny _ _ (exec (Stmt.For _ _ _ _ _) _) _ _ _)); (fail_if_success (with_reducible show wpAny _ _ (call (Value.ref _) _) _ _ _)); (fail_if_success (with_reducible show wpAny _ _ (call (Value.builtin "dict.pop") _) _ _ _)); (fail_if_success (with_reducible show wpAny _ _ (eval (Expr.ListComp _ _ _ _) _) _ _ _)); (fail_if_success (with_reducible show wpAny _ _ (exec (Stmt.Assign _ (Expr.ListComp _ _ _ _) _) _) _ _ _)); (fail_if_success (with_reducible show wpAny _ _ (call (Value.builtin "sorted") _) _ _ _)); (fail_if_success (with_reducible show wpAny _ _ (call (Value.type "list") [Value.ref _]) _ _ _)); (fail_if_success (with_reducible show wpAny _ _ (call (Value.type "dict") [Value.ref _]) _ _ _)); (try dsimp only); walk1))) | (first | ((with_reducible show ite _ _ _); walk1) | ((with_reducible show _ ∧ _); walk1) | (leave1; (try dsimp only)) | (dsimp only [InvPostN]) | fail "no step")))
  rename Fr _ _ _ _ => F9
  rename News _ _ _ _ => N9
  exact h _ _ _ F9.keep (N9 _ (.head _)).2.2 (N9 _ (.head _)).1

section
variable {K : Type} [DecidableEq K]
theorem stored_at {kvs : List (K × Value)} {k j : K} {v : Value} : valueAt (stored kvs k v) j = if k = j then some v else valueAt kvs j := at_put (P := kvs)
theorem fold_at {g : K → Option Value} {k : K} : ∀ {l kvs : List (K × Value)}, (∀ p ∈ l, g p.1 = some p.2) → valueAt (l.foldl (fun a p => stored a p.1 p.2) kvs) k = if k ∈ l.map (·.1) then g k else valueAt kvs k
  | [], kvs, _ => by simp
  | p :: r, kvs, h => by
    rw [List.foldl_cons, fold_at fun q hq => h q (.tail _ hq), stored_at]
    by_cases h1 : k ∈ r.map (·.1)
    · rw [if_pos h1, if_pos (by rw [List.map_cons]; exact .tail _ h1)]
    · rw [if_neg h1]
      by_cases h2 : p.1 = k
      · rw [if_pos h2, if_pos (by rw [List.map_cons, ← h2]; exact List.mem_cons_self), ← h2, h p (.head _)]
      · rw [if_neg h2, if_neg]
        rw [List.map_cons, List.mem_cons]
        rintro (e | e)
        · exact h2 e.symm
        · exact h1 e
theorem fillD_at {g : K → Option Value} {k : K} {l : List (K × Value)} (h : ∀ p ∈ l, g p.1 = some p.2) : valueAt (fillD l) k = if k ∈ l.map (·.1) then g k else none := fold_at h
theorem sameD_eq {ka kb : List (K × Value)} (h : ∀ k, valueAt ka k = valueAt kb k) : SameD ka kb :=
  ⟨fun k v e => ⟨v, by rw [← h k, e], .inl rfl⟩, fun k hk => valueAt_keys.mp (by rw [h k]; exact valueAt_keys.mpr hk)⟩
theorem fillD_same {g : K → Option Value} {l l' : List (K × Value)} (h : ∀ p ∈ l, g p.1 = some p.2) (h' : ∀ p ∈ l', g p.1 = some p.2) (e : ∀ k, k ∈ l.map (·.1) ↔ k ∈ l'.map (·.1)) : SameD (fillD l) (fillD l') := by
  refine sameD_eq fun k => ?_
  rw [fillD_at h, fillD_at h']
  by_cases q : k ∈ l.map (·.1)
  · rw [if_pos q, if_pos ((e k).mp q)]
  · rw [if_neg q, if_neg fun q' => q ((e k).mpr q')]
end
theorem pick_vals {kvs : List (Str × Value)} {ws : List Str} : ∀ p ∈ pick kvs ws, valueAt kvs p.1 = some p.2 := by
  intro p hp
  unfold pick at hp
  obtain ⟨x, hx, e⟩ := List.mem_filterMap.mp hp
  obtain ⟨v, hv, rfl⟩ := Option.map_eq_some_iff.mp e
  exact hv
theorem pick_keys {kvs : List (Str × Value)} {ws : List Str} {k : Str} : k ∈ (pick kvs ws).map (·.1) ↔ k ∈ ws ∧ k ∈ kvs.map (·.1) := by
  constructor
  · intro h
    obtain ⟨p, hp, rfl⟩ := List.mem_map.mp h
    refine ⟨?_, valueAt_keys.mp (by rw [pick_vals p hp]; rfl)⟩
    obtain ⟨x, hx, e⟩ := List.mem_filterMap.mp hp
    obtain ⟨v, hv, rfl⟩ := Option.map_eq_some_iff.mp e
    exact hx
  · rintro ⟨h1, h2⟩
    obtain ⟨v, hv⟩ := Option.isSome_iff_exists.mp (valueAt_keys.mpr h2)
    exact List.mem_map.mpr ⟨(k, v), List.mem_filterMap.mpr ⟨k, h1, by rw [hv]; rfl⟩, rfl⟩
theorem filter_vals {kvs : List (Str × Value)} (nd : (kvs.map (·.1)).Nodup) (c : Str × Value → Bool) : ∀ p ∈ kvs.filter c, valueAt kvs p.1 = some p.2 := fun p hp => valueAt_mem nd (List.mem_filter.mp hp).1
theorem filter_keys {kvs : List (Str × Value)} (c : Str → Bool) {k : Str} : k ∈ (kvs.filter fun p => c p.1).map (·.1) ↔ k ∈ kvs.map (·.1) ∧ c k = true := by
  constructor
  · intro h
    obtain ⟨p, hp, rfl⟩ := List.mem_map.mp h
    obtain ⟨h1, h2⟩ := List.mem_filter.mp hp
    exact ⟨List.mem_map_of_mem h1, h2⟩
  · rintro ⟨h1, h2⟩
    obtain ⟨p, hp, rfl⟩ := List.mem_map.mp h1
    exact List.mem_map.mpr ⟨p, List.mem_filter.mpr ⟨hp, h2⟩, rfl⟩
theorem any_mem {ws : List Str} {x : Str} : ws.any (· == x) = true ↔ x ∈ ws := by
  rw [List.any_eq_true]
  constructor
  · rintro ⟨y, hy, e⟩; rw [← eq_of_beq e]; exact hy
  · intro h; exact ⟨x, h, beq_self_eq_true x⟩
theorem names4_plain : ∀ x ∈ names4, isArr x = false := by decide +kernel
theorem words5_cut : ∀ x ∈ words5, isArr x = true → cut2 x ++ Str.ofString "()" = x := by decide +kernel
theorem names2_cut : ∀ x ∈ names2, isArr (x ++ Str.ofString "()") = true ∧ cut2 (x ++ Str.ofString "()") = x := by decide +kernel
theorem names2_len : ∀ x ∈ names2, x.length ≤ 100 := by decide +kernel
theorem names_same {kvN : List (Str × Value)} {ws : List Str} (nd : (kvN.map (·.1)).Nodup) (hk : ∀ p ∈ kvN, p.1 ∈ names4) : SameD (fillD (pick kvN (ws.filter fun x => !isArr x))) (fillD (kvN.filter fun p => ws.any (· == p.1))) := by
  refine fillD_same (g := valueAt kvN) pick_vals (filter_vals nd _) fun k => ?_
  rw [pick_keys, filter_keys fun x => ws.any (· == x), any_mem, List.mem_filter]
  constructor
  · rintro ⟨⟨h1, _⟩, h2⟩; exact ⟨h2, h1⟩
  · rintro ⟨h2, h1⟩
    obtain ⟨p, hp, rfl⟩ := List.mem_map.mp h2
    exact ⟨⟨h1, by rw [names4_plain _ (hk p hp)]; rfl⟩, h2⟩
theorem arrays_same {kvA : List (Str × Value)} {ws : List Str} (nd : (kvA.map (·.1)).Nodup) (hk : ∀ p ∈ kvA, p.1 ∈ names2) (hw : ∀ y ∈ ws, y ∈ words5) : SameD (fillD (pick kvA ((ws.filter isArr).map cut2))) (fillD (kvA.filter fun p => ws.any (· == p.1 ++ Str.ofString "()"))) := by
  refine fillD_same (g := valueAt kvA) pick_vals (filter_vals nd _) fun k => ?_
  rw [pick_keys, filter_keys fun x => ws.any (· == x ++ Str.ofString "()"), any_mem, List.mem_map]
  constructor
  · rintro ⟨⟨y, hy, rfl⟩, h2⟩
    obtain ⟨h3, h4⟩ := List.mem_filter.mp hy
    exact ⟨h2, by rw [words5_cut y (hw y h3) h4]; exact h3⟩
  · rintro ⟨h2, h1⟩
    obtain ⟨p, hp, rfl⟩ := List.mem_map.mp h2
    obtain ⟨q1, q2⟩ := names2_cut _ (hk p hp)
    exact ⟨⟨_, List.mem_filter.mpr ⟨h1, q1⟩, q2⟩, h2⟩
theorem list_eqW {prog : Program} {w : World} {A : Around} {s : Shared} {l b : Addr} {items items2 : Array Value} (hl : s.heap.IsList l items) (hb : s.heap.IsList b items2) (hsz : items.size = items2.size) (hu : A.units < cLine) (he : ∀ j (h1 : j < items.size) (h2 : j < items2.size), EqW prog w A.in1 s items[j] items2[j]) : EqW prog w A s (.ref l) (.ref b) :=
  EqW.refs fun _ _ hq => eqw_lists hl hb hsz hu he hq
theorem nil_eqW {prog : Program} {w : World} {A : Around} {s : Shared} {l b : Addr} (hl : s.heap.IsList l #[]) (hb : s.heap.IsList b #[]) (hu : A.units < cLine) : EqW prog w A s (.ref l) (.ref b) :=
  list_eqW hl hb rfl hu fun j h1 => absurd h1 (Nat.not_lt_zero j)
theorem one_eqW {prog : Program} {w : World} {A : Around} {s : Shared} {l b : Addr} {x : Str} {t u : Tok} (hl : s.heap.IsList l #[.str x t]) (hb : s.heap.IsList b #[.str x u]) (hu : A.units < cLine) : EqW prog w A s (.ref l) (.ref b) :=
  list_eqW hl hb rfl hu fun j h1 h2 => match j, h1, h2 with
    | 0, _, _ => VEq.eqW (.inr (.inr ⟨_, _, _, rfl, rfl⟩))
    | k + 1, h1, _ => absurd h1 (by simp)

theorem On.nd {h h' : Heap} {as : List Addr} {led news : List (Addr × Obj)} (on : On (Mine.holes h as) led h') (nl : (led.map (·.1)).Nodup) (nn : (news.map (·.1)).Nodup) (N : ∀ p ∈ news, ∃ o, h.get? p.1 = some o) (off : ∀ p ∈ led, p.1 ∉ as) : ((led ++ news).map (·.1)).Nodup := by
  rw [List.map_append, List.nodup_append]
  refine ⟨nl, nn, fun a ha b hb e => ?_⟩
  obtain ⟨p, hp, rfl⟩ := List.mem_map.mp ha
  obtain ⟨q, hq, rfl⟩ := List.mem_map.mp hb
  have z := (on.led p hp).2
  rw [holes_get, if_neg (off p hp)] at z
  obtain ⟨ob, ho⟩ := N q hq
  rw [e, ho] at z; cases z
theorem nd_last {as : List Addr} {b : Addr} (h : (as ++ [b]).Nodup) : as.Nodup ∧ ∀ a ∈ as, a ≠ b := by
  rw [List.nodup_append] at h
  exact ⟨h.1, fun a ha => h.2.2 a ha b (.head _)⟩
theorem isdict_cls {prog : Program} {w : World} {K : Type} [DecidableEq K] {knd : KeyKind prog w K} {o : Obj} {kvs : List (K × Value)} (h : o.IsDictOf knd kvs) : o.cls = .type "dict" := let ⟨_, _, he, _⟩ := h; he.1
/-- the copies of the held things, as they grow -/
inductive HeldJ (prog : Program) (w : World) (led : List (Addr × Obj)) (kvN kvA : List (Str × Value)) (vals : List Value) : Nat → List Value → List (Addr × Obj) → Prop
  | zero {i : Nat} {ys : List Value} {nw : List (Addr × Obj)} : i = 0 → ys = [] → nw = led → HeldJ prog w led kvN kvA vals i ys nw
  | one {i : Nat} {ys : List Value} {nw : List (Addr × Obj)} (d1 : Addr) (od1 : Obj) : i = 1 → ys = [.ref d1] → nw = (d1, od1) :: led → od1.IsDictOf (PySem.strKind prog w) kvN → (d1 == sysModules) = false → (∀ p ∈ led, p.1 ≠ d1) → HeldJ prog w led kvN kvA vals i ys nw
  | more {i : Nat} {ys : List Value} {nw : List (Addr × Obj)} (d1 : Addr) (od1 : Obj) (d2 : Addr) (od2 : Obj) : 2 ≤ i → ys = .ref d1 :: .ref d2 :: (vals.take i).drop 2 → nw = (d2, od2) :: (d1, od1) :: led → od1.IsDictOf (PySem.strKind prog w) kvN → (d1 == sysModules) = false → (∀ p ∈ led, p.1 ≠ d1) →
    od2.IsDictOf (PySem.strKind prog w) kvA → (d2 == sysModules) = false → (∀ p ∈ (d1, od1) :: led, p.1 ≠ d2) → HeldJ prog w led kvN kvA vals i ys nw
theorem HeldJ.sub {prog : Program} {w : World} {led : List (Addr × Obj)} {kvN kvA : List (Str × Value)} {vals : List Value} {i : Nat} {ys : List Value} {nw : List (Addr × Obj)} (h : HeldJ prog w led kvN kvA vals i ys nw) {p : Addr × Obj} (hp : p ∈ led) : p ∈ nw := by
  cases h with
  | zero _ _ e => exact e ▸ hp
  | one d1 od1 _ _ e => rw [e]; exact .tail _ hp
  | more d1 od1 d2 od2 _ _ e => rw [e]; exact .tail _ (.tail _ hp)
theorem isi_not {prog : Program} {w : World} {A : Around} {E : Value → Shared → Prop} {s : Shared} {Q : Value → Shared → Prop} {v : Value} (hv : (∃ a o, v = .ref a ∧ s.heap.get? a = some o ∧ o.cls = .type "list") ∨ (∃ n t, v = .int n t) ∨ ∃ x t, v = .str x t)
    (h : Q (.bool false) { s with toks := s.toks + 1 }) : wpAny (model prog w) A (call (.builtin "isinstance") [v, .type "dict"]) Q E s := by
  rcases hv with ⟨a, o, rfl, e, c⟩ | ⟨n, t, rfl⟩ | ⟨x, t, rfl⟩
  · exact IsiPair.list_dict e c h
  · exact IsiPair.int_dict h
  · exact IsiPair.str_dict h
theorem held_rot {I C D : Addr} {oI oC oD : Obj} {led : List (Addr × Obj)} (D6 : Addr) (o6 : Obj) : ∀ p ∈ (I, oI) :: (C, oC) :: (D, oD) :: (D6, o6) :: led, p ∈ (D6, o6) :: (I, oI) :: (C, oC) :: (D, oD) :: led := by (((repeat' (first | exact all_nil | refine all_cons ?_ ?_)) <;> first | k_mem | (exact fun p hp => by repeat (first | exact hp | exact List.mem_append_left _ hp | apply List.Mem.tail))))
theorem off_new {I C D D6 : Addr} {oI oC oD o6 : Obj} {led : List (Addr × Obj)} (off : LCg.Off3 I C D led) (ne : ∀ p ∈ (I, oI) :: (C, oC) :: (D, oD) :: led, p.1 ≠ D6) : LCg.Off3 I C D ((D6, o6) :: led) :=
  ⟨⟨Ne.symm (ne _ (.head _)), Ne.symm (ne _ (.tail _ (.head _))), Ne.symm (ne _ (.tail _ (.tail _ (.head _))))⟩, off⟩
theorem held_ne {I C D D6 : Addr} {oI oC oD : Obj} {led : List (Addr × Obj)} (ne : ∀ p ∈ (I, oI) :: (C, oC) :: (D, oD) :: led, p.1 ≠ D6) : ∀ p ∈ led, p.1 ≠ D6 := fun p hp => ne p (.tail _ (.tail _ (.tail _ hp)))
theorem mem_drop2 {l : List Value} {i : Nat} {v : Value} (h2 : 2 ≤ i) (h : l[i]? = some v) : v ∈ l.drop 2 :=
  List.mem_of_getElem? (i := i - 2) (by rw [List.getElem?_drop, Nat.add_sub_cancel' h2]; exact h)
theorem held_snoc {vals : List Value} {i : Nat} {v d1 d2 : Value} (h2 : 2 ≤ i) (hv : vals[i]? = some v) : (d1 :: d2 :: (vals.take i).drop 2) ++ [v] = d1 :: d2 :: (vals.take (i + 1)).drop 2 := by
  have hl := (List.getElem?_eq_some_iff.mp hv).1
  rw [List.take_add_one, hv, Option.toList_some, List.drop_append_of_le_length (by rw [List.length_take]; omega)]
  rfl
theorem nd_own {c : Addr} {own rest : List (Addr × Obj)} (h : (own.map (·.1) ++ c :: rest.map (·.1)).Nodup) : ∀ p ∈ own, p.1 ≠ c := by
  rw [List.nodup_append] at h
  exact fun p hp => h.2.2 p.1 (List.mem_map_of_mem hp) c (.head _)
theorem nd_rest {c : Addr} {own rest : List (Addr × Obj)} (h : (own.map (·.1) ++ c :: rest.map (·.1)).Nodup) : ∀ p ∈ rest, p.1 ≠ c := by
  rw [List.nodup_append] at h
  exact fun p hp e => (List.nodup_cons.mp h.2.1).1 (List.mem_map.mpr ⟨p, hp, e⟩)
def LineV (v : Value) : Prop := v = .none ∨ ∃ k t, v = .int k t ∧ (k = 10 ∨ k = 30 ∨ k = 45)
theorem line_pick {v : Int} {t1 t2 t3 : Tok} (h0 : 0 ≤ v.fmod 4) (h1 : v.fmod 4 < 4) : ∃ x, (#[Value.none, .int 10 t1, .int 30 t2, .int 45 t3] : Array Value)[(v.fmod 4).toNat]? = some x ∧ LineV x := by
  have : v.fmod 4 = 0 ∨ v.fmod 4 = 1 ∨ v.fmod 4 = 2 ∨ v.fmod 4 = 3 := by omega
  rcases this with e | e | e | e <;> rw [e]
  · exact ⟨_, rfl, .inl rfl⟩
  · exact ⟨_, rfl, .inr ⟨_, _, rfl, .inl rfl⟩⟩
  · exact ⟨_, rfl, .inr ⟨_, _, rfl, .inr (.inl rfl)⟩⟩
  · exact ⟨_, rfl, .inr ⟨_, _, rfl, .inr (.inr rfl)⟩⟩
theorem eight {P : Value → Value → Prop} {a0 a1 a2 a3 a4 a5 a6 a7 b0 b1 b2 b3 b4 b5 b6 b7 : Value} (h0 : P a0 b0) (h1 : P a1 b1) (h2 : P a2 b2) (h3 : P a3 b3) (h4 : P a4 b4) (h5 : P a5 b5) (h6 : P a6 b6) (h7 : P a7 b7) :
    ∀ j (q1 : j < (#[a0, a1, a2, a3, a4, a5, a6, a7] : Array Value).size) (q2 : j < (#[b0, b1, b2, b3, b4, b5, b6, b7] : Array Value).size), P (#[a0, a1, a2, a3, a4, a5, a6, a7] : Array Value)[j] (#[b0, b1, b2, b3, b4, b5, b6, b7] : Array Value)[j]
  | 0, _, _ => h0 | 1, _, _ => h1 | 2, _, _ => h2 | 3, _, _ => h3 | 4, _, _ => h4 | 5, _, _ => h5 | 6, _, _ => h6 | 7, _, _ => h7
  | k + 8, q, _ => absurd q (by simp)
/-- the held things and their copies, of one content -/
structure HeldEq (prog : Program) (w : World) (h : Heap) (aN aA d1 d2 : Addr) (kvN kvA : List (Str × Value)) : Prop where
  n1 : h.DictOf (PySem.strKind prog w) aN kvN
  a1 : h.DictOf (PySem.strKind prog w) aA kvA
  n2 : h.DictOf (PySem.strKind prog w) d1 kvN
  a2 : h.DictOf (PySem.strKind prog w) d2 kvA
  l1 : (aN == sysModules) = false
  l2 : (aA == sysModules) = false
  l3 : (d1 == sysModules) = false
  l4 : (d2 == sysModules) = false
theorem HeldEq.each {prog : Program} {w : World} {A : Around} {s : Shared} {aN aA d1 d2 : Addr} {kvN kvA : List (Str × Value)} {v2 v5 v7 : Value} {i j : Int} {t1 t2 t3 u1 u2 u3 : Tok} {x : Str} (q : HeldEq prog w s.heap aN aA d1 d2 kvN kvA) (hu : A.units < cLine) :
    ∀ k (q1 : k < (#[.ref aN, .ref aA, v2, .int i t1, .int j t2, v5, .str x t3, v7] : Array Value).size) (q2 : k < (#[.ref d1, .ref d2, v2, .int i u1, .int j u2, v5, .str x u3, v7] : Array Value).size),
      EqW prog w A s (#[.ref aN, .ref aA, v2, .int i t1, .int j t2, v5, .str x t3, v7] : Array Value)[k] (#[.ref d1, .ref d2, v2, .int i u1, .int j u2, v5, .str x u3, v7] : Array Value)[k] :=
  eight (dict_eqW q.l1 q.l3 q.n1 q.n2 hu (SameD.refl _)) (dict_eqW q.l2 q.l4 q.a1 q.a2 hu (SameD.refl _)) (VEq.eqW (.inl rfl)) (VEq.eqW (.inr (.inl ⟨_, _, _, rfl, rfl⟩))) (VEq.eqW (.inr (.inl ⟨_, _, _, rfl, rfl⟩))) (VEq.eqW (.inl rfl)) (VEq.eqW (.inr (.inr ⟨_, _, _, rfl, rfl⟩))) (VEq.eqW (.inl rfl))
/-- the code of a caught BasicError -/
theorem got_code {prog : Program} {w : World} {mean : ExcName → Option Value} {mg mb : Str → Option Value} {A : Around} {E : Value → Shared → Prop} {s : Shared} {Q : Value → Shared → Prop} {g : Heap} {L e dx : Addr} {m : Str → Option Value} {news : List (Addr × Obj)} {oe od : Obj} {x : Str} {t : Tok} {expr : Bool} (c : Cx w mean mg mb g) (F : Fr g L s.heap m) (N : News g L s.heap news)
    (h1 : (e, oe) ∈ news) (h2 : (dx, od) ∈ news) (ge : GotErr (.str x t) e oe dx od) (h : Q (.str x t) { s with toks := s.toks + 1 }) : wpAny (model prog w) A (getAttr (.ref e) (Str.ofString "code") expr) Q E s := by
  obtain ⟨es, n, f, rfl, fa, hf⟩ := ge.fields
  obtain ⟨hh, gg, dd, tt, os⟩ := s
  obtain ⟨vs, hd⟩ := ge.data
  refine exc_get (c.keeps F.keep).X (⟨(N _ h1).1, ge.cls, by unfold notCls; rw [hd], by rw [ge.dict]; exact (N _ h2).1⟩ : InstAt hh e oe 34 (some (W.dictOf es n))) (by k_is) ?_ rfl h
  rw [fa.look, hf]
/-- the ways through an if meet behind it -/
theorem If_join {M : Model} {A : Around} {E : Value → Shared → Prop} {s : Shared} {Q : Flow → Shared → Prop} {x : Sem Flow} (C : Prop) (main : (∀ tk, C → Q .next { s with toks := tk }) → wpAny M A x Q E s) (rest : ∀ tk, C → Q .next { s with toks := tk }) : wpAny M A x Q E s := main rest
theorem Eval_join {M : Model} {A : Around} {E : Value → Shared → Prop} {s : Shared} {Q : Value → Shared → Prop} {x : Sem Value} {g : Heap} {L : Addr} {m : Str → Option Value} {led : List (Addr × Obj)} (F : Fr g L s.heap m) (N : News g L s.heap led) (C : Value → Prop)
    (main : (∀ h' tk v, Fr g L h' m → News g L h' led → C v → Q v { s with heap := h', toks := tk }) → wpAny M A x Q E s) (rest : ∀ h' tk v, Fr g L h' m → News g L h' led → C v → Q v { s with heap := h', toks := tk }) : wpAny M A x Q E s := main rest
/-- the least line of a program -/
def LeastV (P : List (Int × Str)) (v : Value) : Prop := (P = [] ∧ v = .none) ∨ ∃ M t, v = .int M t ∧ M ∈ P.map (·.1) ∧ ∀ a ∈ P.map (·.1), M ≤ a
theorem prog_notin {prog : Program} {w : World} {A : Around} {E : Value → Shared → Prop} {s : Shared} {Q : Value → Shared → Prop} {d : Addr} {P : List (Int × Str)} {k : Int} {t : Tok} {b : Bool} (pd : ProgAt prog w s.heap d P) (hb : (!decide (k ∈ P.map (·.1))) = b) (h : Q (.bool b) { s with toks := s.toks + 1 }) :
    wpAny (model prog w) A (compareOp .NotIn (.int k t) (.ref d)) Q E s := by
  obtain ⟨lo, kvs, hd, hall, hP⟩ := pd
  have hkeys : kvs.map (·.1) = P.map (·.1) := by rw [← hP, keys_proj]
  refine wpAny_notIn_of (knd := intKind prog w) (intKind_is _ _ _ _) lo hd.mapOf ?_
  have hv : (valueAt kvs k).isSome = decide (k ∈ P.map (·.1)) := by rw [valueAt_isSome_eq_any, any_key (P := kvs), hkeys]
  rw [hv, hb]; exact h
/-- is a program not the empty dict -/
theorem prog_ne_nil {prog : Program} {w : World} {A : Around} {E : Value → Shared → Prop} {s : Shared} {Q : Value → Shared → Prop} {d e : Addr} {P : List (Int × Str)} {oe : Obj} (pd : ProgAt prog w s.heap d P) (he : s.heap.get? e = some oe) (hi : oe.IsDictOf (intKind prog w) []) (lo : (e == sysModules) = false) (hu : A.units < cLine)
    (h : Q (.bool (decide (P ≠ []))) s) : wpAny (model prog w) A (compareOp .NotEq (.ref d) (.ref e)) Q E s := by
  obtain ⟨la, ka, da, sa, rfl⟩ := pd
  refine keq_ne (knd := intKind prog w) (r := true) la lo da (Heap.dictOf_iff.mpr ⟨oe, he, hi⟩) hu (fun hl => ?_) ?_
  · obtain rfl : ka = [] := List.eq_nil_of_length_eq_zero hl
    exact .nil
  · cases ka with
    | nil => exact h
    | cons p r =>
      have e1 : decide (proj (p :: r) ≠ []) = true := by simp [proj]
      rw [e1] at h
      exact h
theorem prog_min {prog : Program} {w : World} {A : Around} {E : Value → Shared → Prop} {s : Shared} {d : Addr} {P : List (Int × Str)} {Q : Value → Shared → Prop} (hh : A.handled = none) (pd : ProgAt prog w s.heap d P) (hne : P ≠ [])
    (h : ∀ h' M (t : Tok) tk, (∀ b o, s.heap.get? b = some o → h'.get? b = some o) → M ∈ P.map (·.1) → (∀ a ∈ P.map (·.1), M ≤ a) → Q (.int M t) { s with heap := h', toks := tk }) :
    wpAny (model prog w) A (call (.builtin "min") [.ref d]) Q E s := by
  obtain ⟨lo, kvs, hd, hall, rfl⟩ := pd
  refine min_dict hh hd lo ?_ fun h' M t tk k h1 h2 => h h' M t tk k (by rw [keys_proj]; exact h1) (by rw [keys_proj]; exact h2)
  cases kvs with
  | nil => exact absurd rfl hne
  | cons p r => exact Nat.succ_pos _
theorem dict_itemT {prog : Program} {w : World} {A : Around} {E : Value → Shared → Prop} {s : Shared} {K : Type} [DecidableEq K] {knd : KeyKind prog w K} {d : Addr} {kvs : List (K × Value)} {k : K} {key v : Value} {value slice : PySem.Expr} {Q : Value → Shared → Prop} (hD : s.heap.DictOf knd d kvs) (hkey : knd.is k key = true) (hl : valueAt kvs k = some v) (h : Q v { s with toks := s.toks + 1 })
    (hs : subscripted slice false (.ref d) key = operate [.ref d, key] (getItem (.ref d) key) := by with_unfolding_all rfl) : wpAny (model prog w) A (subscriptTail value slice (.ref d) key) Q E s :=
  tail_any hD.typeIs slot_dict_getitem.lookup (wpAny_getItem_of hkey hD.mapOf hl h) hs
theorem sub_mapH {I C Dl D2 : Addr} {oI oC oD : Obj} {fx : List (Addr × Obj)} {ts : List (Addr × (Str × Tok × Value))} {y : Str} {ty : Tok} {u : Value} {p : Addr × Obj}
    (hp : p ∈ (I, oI) :: (C, oC) :: (Dl, oD) :: (fx ++ (ts ++ [(D2, y, ty, u)]).map tupOf)) :
    p ∈ (D2, ({ cls := .type "tuple", data := .seq #[.str y ty, u] } : Obj)) :: (I, oI) :: (C, oC) :: (Dl, oD) :: (fx ++ ts.map tupOf) := by
  rw [List.map_append] at hp
  simp only [List.mem_cons, List.mem_append, List.map_cons, List.map_nil, List.not_mem_nil, or_false] at hp ⊢
  rcases hp with h | h | h | h | h | h
  · exact .inr (.inl h)
  · exact .inr (.inr (.inl h))
  · exact .inr (.inr (.inr (.inl h)))
  · exact .inr (.inr (.inr (.inr (.inl h))))
  · exact .inr (.inr (.inr (.inr (.inr h))))
  · exact .inl (by rw [h]; rfl)
theorem begins_none {P : List (Int × Str)} {v u : Value} (hb : Begins P .none v) (hl : LeastV P u) : VEq v u := by
  rcases hb with ⟨_, h⟩ | ⟨_, _, e, _⟩
  · rcases h with ⟨h1, rfl⟩ | ⟨M, t, rfl, h1, h2⟩
    · rcases hl with ⟨_, rfl⟩ | ⟨M, t, rfl, h3, _⟩
      · exact .inl rfl
      · rw [h1] at h3; cases h3
    · rcases hl with ⟨h3, rfl⟩ | ⟨M', t', rfl, h3, h4⟩
      · rw [h3] at h1; cases h1
      · have : M = M' := Int.le_antisymm (h2 _ h3) (h4 _ h1)
        subst this
        exact .inr (.inl ⟨M, t, t', rfl, rfl⟩)
  · cases e
theorem begins_int {P : List (Int × Str)} {v line : Value} {k : Int} {t : Tok} (hb : Begins P line v) (e : line = .int k t) : v = .int k t := by
  rcases hb with ⟨h, _⟩ | ⟨_, _, _, _, h⟩
  · rw [h] at e; cases e
  · rw [h, e]
theorem words5_len : ∀ x ∈ words5, x.length ≤ 100 := by decide +kernel
theorem off_frames {g h : Heap} {L : Addr} {news : List (Addr × Obj)} {outer : List Env} (hff : FF g outer) (N : News g L h news) : ∀ p ∈ news, p.1 ∉ outer.filterMap (·.frame) := fun p hp hm => by
  obtain ⟨_, ob, e, _⟩ := Heap.FunFrames.mem hff hm
  rw [(N p hp).2.2] at e; cases e
theorem lchain_spec {prog : Program} {w : World} {mean : ExcName → Option Value} {mg mb : Str → Option Value} {A : Around} {s : Shared} {Q E : Value → Shared → Prop} {g : Heap} {sp l d : Addr} {o : Obj} {n : Nat} {vs : List Value} {ns : List Int} {outer : List Env} {tx : Str} {tt : Tok} {P : List (Int × Str)} {rows : List RowD}
    (px : PX prog) (c : Cx w mean mg mb g) (cB : Cx w mean mg mb (holes g (outer.filterMap (·.frame)))) (r : Rm A 20) (hA : A.frames = some outer) (hff : FF g outer) (on : On g [(sp, o)] s.heap) (io : IsSpool o n l) (hl : (holes g (outer.filterMap (·.frame))).IsList l vs.toArray) (sl : Spl vs ns) (hn : n ≤ 100)
    (pd : ProgAt prog w (holes g (outer.filterMap (·.frame))) d P) (htx : tx.length ≤ 1048576) (hsp : Txt.split tx (Str.ofString "\n") = rows.map RowD.str) (hok : ∀ r ∈ rows, r.Ok) (hrl : rows.length ≤ 1000) (few : (rows.foldl loadStep []).length < 64)
    (hP : rows.foldl loadStep [] = P)
    (h : ∀ h' tk, (∀ b o, (holes g (outer.filterMap (·.frame))).get? b = some o → h'.get? b = some o) → Q (.bool true) { s with heap := h', toks := tk }) :
    wpAny (model prog w) A (call (.ref 168) [.ref sp, .str tx tt, .ref d]) Q E s := by
  have c0 := c
  obtain ⟨X, T⟩ := c
  have rm := r
  obtain ⟨rd, ru, rh⟩ := r
  obtain ⟨ah, ad, af, ag, au⟩ := A
  dsimp only at rd ru rh hA
  subst rh
  refine wpAny_call ?_
  k_dflt (refine' enterCG (binds := [(Str.ofString "spool", .ref sp), (Str.ofString "text", .str tx tt), (Str.ofString "program", .ref d)]) on X T ?k6 ?k7 ?k8 ?k9 ?kB ?c5 ?_ ?c2 ?c3 ?c4; (((case k6 => k_is); (case k7 => k_is); (case k8 => ((try dsimp only); omega)); (case k9 => exact BindsTo.of_eq rfl); (case kB => exact rfl); (case c5 => decide); (case c2 => exact rfl); (case c3 => exact rfl); (case c4 => exact rfl))))
  intro L h1 tk1 cells F N hk0 CA hne0
  dsimp only
  k_fold
  have F' : Fr g L h1 (fun y => if y = Str.ofString "program" then some (.ref d) else if y = Str.ofString "text" then some (.str tx tt) else if y = Str.ofString "spool" then some (.ref sp) else none) := F
  have CA' : CellsAre (fun y => none) [(Str.ofString "common", L + 1 + 1), (Str.ofString "held", L + 1)] cells := CA
  clear F CA
  obtain ⟨o2, o1, rfl, hc2, hc1⟩ := CA'.two
  clear CA'
  (repeat' (first | (k_unfold; (try dsimp only)) | ((fail_if_success (with_reducible show wpAny _ _ (setItem _ _ _) _ _ _)); (((with_reducible show wpAny _ _ _ _ _ _); (fail_if_success (with_reducible show wpAny _ _ (exec (Stmt.While _ _ _ _) _) _ _ _)); (fail_if_success (with_reducible show wpAny _ _ (exec (Stmt.Raise _ _ _) _) _ _ _)); (fail_if_success (with_reducible show wpAny _ _ (exec (Stmt.Try _ _ _ _ _) _) _ _ _)); (fail_if_success (with_reducible show wpAny _ _ (exec (Stmt.For _ _ _ _ _) _) _ _ _)); (fail_if_success (with_reducible show wpAny _ _ (call (Value.ref _) _) _ _ _)); (fail_if_success (with_reducible show wpAny _ _ (call (Value.builtin "dict.pop") _) _ _ _)); (fail_if_success (with_reducible show wpAny _ _ (eval (Expr.ListComp _ _ _ _) _) _ _ _)); (fail_if_success (with_reducible show wpAny _ _ (exec (Stmt.Assign _ (Expr.ListComp _ _ _ _) _) _) _ _ _)); (fail_if_success (with_reducible show wpAny _ _ (call (Value.builtin "sorted") _) _ _ _)); (fail_if_success (with_reducible show wpAny _ _ (call (Value.type "list") [Value.ref _]) _ _ _)); (fail_if_success (with_reducible show wpAny _ _ (call (Value.type "dict") [Value.ref _]) _ _ _)); (try dsimp only); walk1))) | (first | ((with_reducible show ite _ _ _); walk1) | ((with_reducible show _ ∧ _); walk1) | (leave1; (try dsimp only)) | (dsimp only [InvPostN]) | fail "no step")))
  dsimp only [List.cons_append, List.nil_append] at N
  have hspl : l ≠ sp := by
    rintro rfl
    obtain ⟨ol, e, _⟩ := hl
    have := (on.led _ (.head _)).2
    rw [(holes_some.mp e).1] at this; cases this
  have hlg : g.IsList l vs.toArray := list_keep hl fun b ob e => (holes_some.mp e).1
  have nd1 : ([L + 1 + 1, L + 1, sp] : List Addr).Nodup := by
    have q1 : @Ne Nat sp (L + 1 + 1) := hne0 (sp, o) (.head _) (L + 1 + 1, o2) (.head _)
    have q2 : @Ne Nat sp (L + 1) := hne0 (sp, o) (.head _) (L + 1, o1) (.tail _ (.head _))
    have q3 : @Ne Nat (L + 1 + 1) (L + 1) := by omega
    simp only [List.nodup_cons, List.mem_cons, List.not_mem_nil, or_false, not_or, List.nodup_nil, not_false_eq_true, and_true]
    exact ⟨⟨q3, Ne.symm q1⟩, Ne.symm q2⟩
  clear hne0
  refine lworld_spec (c0.over F' N (as := [sp]) fun a ha => ⟨o, by rw [List.mem_singleton.mp ha]; simp⟩) (rm.deep (by decide)) (On.hole1 N (by k_mem)) io (holes_list (list_keep hlg F'.keep) (by simpa using hspl)) sl (by omega) ?_
  intro h2 tk2 x dx es n2 f dF aN aA lC lO lD oF oN oA oC oO oD kvN kvA vC ws osp m2 on2 nd2 ios hm2 fa all lw
  obtain ⟨nd2a, nd2b⟩ := nd_last (as := [lD, lO, lC, aA, aN, x, dx, dF]) nd2
  obtain ⟨F2, N2⟩ := On.back1x (o' := osp) (led := [(lD, oD), (lO, oO), (lC, oC), (aA, oA), (aN, oN), (x, instObj 133 dx), (dx, W.dictOf es n2), (dF, oF)]) F' N (updF_nd [(L + 1 + 1, _), (L + 1, _)] nd1) (on2.sub (by (((repeat' (first | exact all_nil | refine all_cons ?_ ?_)) <;> first | k_mem | (exact fun p hp => by repeat (first | exact hp | exact List.mem_append_left _ hp | apply List.Mem.tail)))))) (fun p hp => nd2b p.1 (List.mem_map_of_mem (f := fun q : Addr × Obj => q.1) hp))
  have nd3 : ([lD, lO, lC, aA, aN, x, dx, dF, L + 1 + 1, L + 1, sp] : List Addr).Nodup := On.nd (led := [(lD, oD), (lO, oO), (lC, oC), (aA, oA), (aN, oN), (x, instObj 133 dx), (dx, W.dictOf es n2), (dF, oF)]) (news := [(L + 1 + 1, o2), (L + 1, o1), (sp, o)]) (on2.sub (by (((repeat' (first | exact all_nil | refine all_cons ?_ ?_)) <;> first | k_mem | (exact fun p hp => by repeat (first | exact hp | exact List.mem_append_left _ hp | apply List.Mem.tail)))))) nd2a nd1 (fun p hp => ⟨p.2, (N p hp).1⟩) (fun p hp => by
    have := nd2b p.1 (List.mem_map_of_mem (f := fun q : Addr × Obj => q.1) hp)
    simpa using this)
  clear N on2 nd2 nd2a nd2b nd1
  dsimp only [List.cons_append, List.nil_append] at N2
  (try dsimp only)
  (repeat' (first | (k_unfold; (try dsimp only)) | ((fail_if_success (with_reducible show wpAny _ _ (setItem _ _ _) _ _ _)); (((with_reducible show wpAny _ _ _ _ _ _); (fail_if_success (with_reducible show wpAny _ _ (exec (Stmt.While _ _ _ _) _) _ _ _)); (fail_if_success (with_reducible show wpAny _ _ (exec (Stmt.Raise _ _ _) _) _ _ _)); (fail_if_success (with_reducible show wpAny _ _ (exec (Stmt.Try _ _ _ _ _) _) _ _ _)); (fail_if_success (with_reducible show wpAny _ _ (exec (Stmt.For _ _ _ _ _) _) _ _ _)); (fail_if_success (with_reducible show wpAny _ _ (call (Value.ref _) _) _ _ _)); (fail_if_success (with_reducible show wpAny _ _ (call (Value.builtin "dict.pop") _) _ _ _)); (fail_if_success (with_reducible show wpAny _ _ (eval (Expr.ListComp _ _ _ _) _) _ _ _)); (fail_if_success (with_reducible show wpAny _ _ (exec (Stmt.Assign _ (Expr.ListComp _ _ _ _) _) _) _ _ _)); (fail_if_success (with_reducible show wpAny _ _ (call (Value.builtin "sorted") _) _ _ _)); (fail_if_success (with_reducible show wpAny _ _ (call (Value.type "list") [Value.ref _]) _ _ _)); (fail_if_success (with_reducible show wpAny _ _ (call (Value.type "dict") [Value.ref _]) _ _ _)); (try dsimp only); walk1))) | (first | ((with_reducible show ite _ _ _); walk1) | ((with_reducible show _ ∧ _); walk1) | (leave1; (try dsimp only)) | (dsimp only [InvPostN]) | fail "no step")))
  rename Fr _ _ _ _ => F3
  rename News _ _ _ _ => N3
  obtain ⟨tR, hfR⟩ := lw.fR
  obtain ⟨tS, hfS⟩ := lw.fS
  obtain ⟨tH, hfH⟩ := lw.fH
  have wa3 : WAt _ x dx f := ⟨es, n2, (N3 (x, _) (by k_mem)).1, (N3 (dx, _) (by k_mem)).1, fa⟩
  refine ListComp_J g L (fun y => if y = Str.ofString "world" then some (.ref x) else if y = Str.ofString "program" then some (.ref d) else if y = Str.ofString "text" then some (.str tx tt) else if y = Str.ofString "spool" then some (.ref sp) else none) (by with_unfolding_all rfl) (by decide) (by rfl) (by decide) (by rfl) ?_
  (repeat' (first | (k_unfold; (try dsimp only)) | ((fail_if_success (with_reducible show wpAny _ _ (setItem _ _ _) _ _ _)); (((with_reducible show wpAny _ _ _ _ _ _); (fail_if_success (with_reducible show wpAny _ _ (exec (Stmt.While _ _ _ _) _) _ _ _)); (fail_if_success (with_reducible show wpAny _ _ (exec (Stmt.Raise _ _ _) _) _ _ _)); (fail_if_success (with_reducible show wpAny _ _ (exec (Stmt.Try _ _ _ _ _) _) _ _ _)); (fail_if_success (with_reducible show wpAny _ _ (exec (Stmt.For _ _ _ _ _) _) _ _ _)); (fail_if_success (with_reducible show wpAny _ _ (call (Value.ref _) _) _ _ _)); (fail_if_success (with_reducible show wpAny _ _ (call (Value.builtin "dict.pop") _) _ _ _)); (fail_if_success (with_reducible show wpAny _ _ (eval (Expr.ListComp _ _ _ _) _) _ _ _)); (fail_if_success (with_reducible show wpAny _ _ (exec (Stmt.Assign _ (Expr.ListComp _ _ _ _) _) _) _ _ _)); (fail_if_success (with_reducible show wpAny _ _ (call (Value.builtin "sorted") _) _ _ _)); (fail_if_success (with_reducible show wpAny _ _ (call (Value.type "list") [Value.ref _]) _ _ _)); (fail_if_success (with_reducible show wpAny _ _ (call (Value.type "dict") [Value.ref _]) _ _ _)); (try dsimp only); walk1))) | (first | ((with_reducible show ite _ _ _); walk1) | ((with_reducible show _ ∧ _); walk1) | (leave1; (try dsimp only)) | (dsimp only [InvPostN]) | fail "no step")))
  refine held_spec (c0.keeps F3.keep) (rm.hd (by decide)) (rm.hu (by decide)) wa3 lw.fN lw.fA lw.fD hfS hfH lw.fO hfR lw.fC ?_
  intro h4 tk4 DH k4 nH4 hH4
  obtain ⟨F4, N4, ne4⟩ := news_add F3 N3 k4 nH4 hH4
  (try dsimp only)
  have nd4 := nd_new ne4 nd3
  clear ne4
  obtain ⟨vals, hvals⟩ : ∃ vals : List Value, vals = [.ref aN, .ref aA, .ref lD, .int 1 tS, .int 40 tH, .ref lO, .str (Str.ofString "two") tR, .ref lC] := ⟨_, rfl⟩
  generalize hled : [(DH, W.listOf #[Value.ref aN, .ref aA, .ref lD, .int 1 tS, .int 40 tH, .ref lO, .str (Str.ofString "two") tR, .ref lC] 0), (lD, oD), (lO, oO), (lC, oC), (aA, oA), (aN, oN), (x, instObj 133 dx), (dx, W.dictOf es n2), (dF, oF), (L + 1 + 1, o2), (L + 1, o1), (sp, osp)] = led at N4
  have mN : (aN, oN) ∈ led := by rw [← hled]; k_mem
  have mA : (aA, oA) ∈ led := by rw [← hled]; k_mem
  have mD : (lD, oD) ∈ led := by rw [← hled]; k_mem
  have mO : (lO, oO) ∈ led := by rw [← hled]; k_mem
  have mC : (lC, oC) ∈ led := by rw [← hled]; k_mem
  have mX : (x, instObj 133 dx) ∈ led := by rw [← hled]; k_mem
  have mE : (dx, W.dictOf es n2) ∈ led := by rw [← hled]; k_mem
  have mH : (DH, W.listOf vals.toArray 0) ∈ led := by rw [← hled, hvals]; exact .head _
  refine SrcJ.list (vs := vals) (ol := W.listOf vals.toArray 0) (HeldJ prog w led kvN kvA vals) rfl ⟨_, (N4 _ mH).1, rfl, _, rfl⟩ (N4 _ mH).1 (by rw [sizeLine_eq, hvals]; exact Nat.le_of_ble_eq_true rfl) F4 N4 (.zero rfl rfl rfl) (.inr fun i ys nw j => j.sub mH) ?_ ?_
  · rintro g1 i v ys nw I oI C oQ Dl m2' h5 tk5 E' hi5 hv j hC hx F5 N5 off ne5
    refine wpAny_tests_nil ?_
    cases j with
    | zero e1 e2 e3 =>
      subst e1 e2 e3
      obtain rfl : v = .ref aN := by rw [hvals] at hv; exact (Option.some.inj hv).symm
      (repeat' (first | (k_unfold; (try dsimp only)) | ((fail_if_success (with_reducible show wpAny _ _ (setItem _ _ _) _ _ _)); (((with_reducible show wpAny _ _ _ _ _ _); (fail_if_success (with_reducible show wpAny _ _ (exec (Stmt.While _ _ _ _) _) _ _ _)); (fail_if_success (with_reducible show wpAny _ _ (exec (Stmt.Raise _ _ _) _) _ _ _)); (fail_if_success (with_reducible show wpAny _ _ (exec (Stmt.Try _ _ _ _ _) _) _ _ _)); (fail_if_success (with_reducible show wpAny _ _ (exec (Stmt.For _ _ _ _ _) _) _ _ _)); (fail_if_success (with_reducible show wpAny _ _ (call (Value.ref _) _) _ _ _)); (fail_if_success (with_reducible show wpAny _ _ (call (Value.builtin "dict.pop") _) _ _ _)); (fail_if_success (with_reducible show wpAny _ _ (eval (Expr.ListComp _ _ _ _) _) _ _ _)); (fail_if_success (with_reducible show wpAny _ _ (exec (Stmt.Assign _ (Expr.ListComp _ _ _ _) _) _) _ _ _)); (fail_if_success (with_reducible show wpAny _ _ (call (Value.builtin "sorted") _) _ _ _)); (fail_if_success (with_reducible show wpAny _ _ (call (Value.type "list") [Value.ref _]) _ _ _)); (fail_if_success (with_reducible show wpAny _ _ (call (Value.type "dict") [Value.ref _]) _ _ _)); (try dsimp only); walk1))) | (first | ((with_reducible show ite _ _ _); walk1) | ((with_reducible show _ ∧ _); walk1) | (leave1; (try dsimp only)) | (dsimp only [InvPostN]) | fail "no step")))
      refine IsiPair.dict_dict (N5 (aN, oN) (.tail _ (.tail _ (.tail _ mN)))).1 (isdict_cls lw.iN) ?_
      (repeat' (first | (k_unfold; (try dsimp only)) | ((fail_if_success (with_reducible show wpAny _ _ (setItem _ _ _) _ _ _)); (((with_reducible show wpAny _ _ _ _ _ _); (fail_if_success (with_reducible show wpAny _ _ (exec (Stmt.While _ _ _ _) _) _ _ _)); (fail_if_success (with_reducible show wpAny _ _ (exec (Stmt.Raise _ _ _) _) _ _ _)); (fail_if_success (with_reducible show wpAny _ _ (exec (Stmt.Try _ _ _ _ _) _) _ _ _)); (fail_if_success (with_reducible show wpAny _ _ (exec (Stmt.For _ _ _ _ _) _) _ _ _)); (fail_if_success (with_reducible show wpAny _ _ (call (Value.ref _) _) _ _ _)); (fail_if_success (with_reducible show wpAny _ _ (call (Value.builtin "dict.pop") _) _ _ _)); (fail_if_success (with_reducible show wpAny _ _ (eval (Expr.ListComp _ _ _ _) _) _ _ _)); (fail_if_success (with_reducible show wpAny _ _ (exec (Stmt.Assign _ (Expr.ListComp _ _ _ _) _) _) _ _ _)); (fail_if_success (with_reducible show wpAny _ _ (call (Value.builtin "sorted") _) _ _ _)); (fail_if_success (with_reducible show wpAny _ _ (call (Value.type "list") [Value.ref _]) _ _ _)); (fail_if_success (with_reducible show wpAny _ _ (call (Value.type "dict") [Value.ref _]) _ _ _)); (try dsimp only); walk1))) | (first | ((with_reducible show ite _ _ _); walk1) | ((with_reducible show _ ∧ _); walk1) | (leave1; (try dsimp only)) | (dsimp only [InvPostN]) | fail "no step")))
      refine dict_of_dict F5 N5 c0.T.nolimit (Heap.dictOf_iff.mpr ⟨oN, (N5 (aN, oN) (.tail _ (.tail _ (.tail _ mN)))).1, lw.iN⟩) lw.loN (Nat.le_trans lw.lN (by rw [sizeLine_eq]; decide)) fun h6 o6 D6 F6 N6 lo6 i6 ne6 => ?_
      (try dsimp only)
      (repeat' (first | (k_unfold; (try dsimp only)) | ((fail_if_success (with_reducible show wpAny _ _ (setItem _ _ _) _ _ _)); (((with_reducible show wpAny _ _ _ _ _ _); (fail_if_success (with_reducible show wpAny _ _ (exec (Stmt.While _ _ _ _) _) _ _ _)); (fail_if_success (with_reducible show wpAny _ _ (exec (Stmt.Raise _ _ _) _) _ _ _)); (fail_if_success (with_reducible show wpAny _ _ (exec (Stmt.Try _ _ _ _ _) _) _ _ _)); (fail_if_success (with_reducible show wpAny _ _ (exec (Stmt.For _ _ _ _ _) _) _ _ _)); (fail_if_success (with_reducible show wpAny _ _ (call (Value.ref _) _) _ _ _)); (fail_if_success (with_reducible show wpAny _ _ (call (Value.builtin "dict.pop") _) _ _ _)); (fail_if_success (with_reducible show wpAny _ _ (eval (Expr.ListComp _ _ _ _) _) _ _ _)); (fail_if_success (with_reducible show wpAny _ _ (exec (Stmt.Assign _ (Expr.ListComp _ _ _ _) _) _) _ _ _)); (fail_if_success (with_reducible show wpAny _ _ (call (Value.builtin "sorted") _) _ _ _)); (fail_if_success (with_reducible show wpAny _ _ (call (Value.type "list") [Value.ref _]) _ _ _)); (fail_if_success (with_reducible show wpAny _ _ (call (Value.type "dict") [Value.ref _]) _ _ _)); (try dsimp only); walk1))) | (first | ((with_reducible show ite _ _ _); walk1) | ((with_reducible show _ ∧ _); walk1) | (leave1; (try dsimp only)) | (dsimp only [InvPostN]) | fail "no step")))
      exact TurnEnd.intro F6 N6 ((D6, o6) :: nw) (held_rot D6 o6) (off_new off ne6) (.one D6 o6 rfl rfl rfl i6 lo6 (held_ne ne6))
    | one d1 od1 e1 e2 e3 i1 lo1 nd1 =>
      subst e1 e2 e3
      obtain rfl : v = .ref aA := by rw [hvals] at hv; exact (Option.some.inj hv).symm
      (repeat' (first | (k_unfold; (try dsimp only)) | ((fail_if_success (with_reducible show wpAny _ _ (setItem _ _ _) _ _ _)); (((with_reducible show wpAny _ _ _ _ _ _); (fail_if_success (with_reducible show wpAny _ _ (exec (Stmt.While _ _ _ _) _) _ _ _)); (fail_if_success (with_reducible show wpAny _ _ (exec (Stmt.Raise _ _ _) _) _ _ _)); (fail_if_success (with_reducible show wpAny _ _ (exec (Stmt.Try _ _ _ _ _) _) _ _ _)); (fail_if_success (with_reducible show wpAny _ _ (exec (Stmt.For _ _ _ _ _) _) _ _ _)); (fail_if_success (with_reducible show wpAny _ _ (call (Value.ref _) _) _ _ _)); (fail_if_success (with_reducible show wpAny _ _ (call (Value.builtin "dict.pop") _) _ _ _)); (fail_if_success (with_reducible show wpAny _ _ (eval (Expr.ListComp _ _ _ _) _) _ _ _)); (fail_if_success (with_reducible show wpAny _ _ (exec (Stmt.Assign _ (Expr.ListComp _ _ _ _) _) _) _ _ _)); (fail_if_success (with_reducible show wpAny _ _ (call (Value.builtin "sorted") _) _ _ _)); (fail_if_success (with_reducible show wpAny _ _ (call (Value.type "list") [Value.ref _]) _ _ _)); (fail_if_success (with_reducible show wpAny _ _ (call (Value.type "dict") [Value.ref _]) _ _ _)); (try dsimp only); walk1))) | (first | ((with_reducible show ite _ _ _); walk1) | ((with_reducible show _ ∧ _); walk1) | (leave1; (try dsimp only)) | (dsimp only [InvPostN]) | fail "no step")))
      refine IsiPair.dict_dict (N5 (aA, oA) (.tail _ (.tail _ (.tail _ (.tail _ mA))))).1 (isdict_cls lw.iA) ?_
      (repeat' (first | (k_unfold; (try dsimp only)) | ((fail_if_success (with_reducible show wpAny _ _ (setItem _ _ _) _ _ _)); (((with_reducible show wpAny _ _ _ _ _ _); (fail_if_success (with_reducible show wpAny _ _ (exec (Stmt.While _ _ _ _) _) _ _ _)); (fail_if_success (with_reducible show wpAny _ _ (exec (Stmt.Raise _ _ _) _) _ _ _)); (fail_if_success (with_reducible show wpAny _ _ (exec (Stmt.Try _ _ _ _ _) _) _ _ _)); (fail_if_success (with_reducible show wpAny _ _ (exec (Stmt.For _ _ _ _ _) _) _ _ _)); (fail_if_success (with_reducible show wpAny _ _ (call (Value.ref _) _) _ _ _)); (fail_if_success (with_reducible show wpAny _ _ (call (Value.builtin "dict.pop") _) _ _ _)); (fail_if_success (with_reducible show wpAny _ _ (eval (Expr.ListComp _ _ _ _) _) _ _ _)); (fail_if_success (with_reducible show wpAny _ _ (exec (Stmt.Assign _ (Expr.ListComp _ _ _ _) _) _) _ _ _)); (fail_if_success (with_reducible show wpAny _ _ (call (Value.builtin "sorted") _) _ _ _)); (fail_if_success (with_reducible show wpAny _ _ (call (Value.type "list") [Value.ref _]) _ _ _)); (fail_if_success (with_reducible show wpAny _ _ (call (Value.type "dict") [Value.ref _]) _ _ _)); (try dsimp only); walk1))) | (first | ((with_reducible show ite _ _ _); walk1) | ((with_reducible show _ ∧ _); walk1) | (leave1; (try dsimp only)) | (dsimp only [InvPostN]) | fail "no step")))
      refine dict_of_dict F5 N5 c0.T.nolimit (Heap.dictOf_iff.mpr ⟨oA, (N5 (aA, oA) (.tail _ (.tail _ (.tail _ (.tail _ mA))))).1, lw.iA⟩) lw.loA (Nat.le_trans lw.lA (by rw [sizeLine_eq]; decide)) fun h6 o6 D6 F6 N6 lo6 i6 ne6 => ?_
      (try dsimp only)
      (repeat' (first | (k_unfold; (try dsimp only)) | ((fail_if_success (with_reducible show wpAny _ _ (setItem _ _ _) _ _ _)); (((with_reducible show wpAny _ _ _ _ _ _); (fail_if_success (with_reducible show wpAny _ _ (exec (Stmt.While _ _ _ _) _) _ _ _)); (fail_if_success (with_reducible show wpAny _ _ (exec (Stmt.Raise _ _ _) _) _ _ _)); (fail_if_success (with_reducible show wpAny _ _ (exec (Stmt.Try _ _ _ _ _) _) _ _ _)); (fail_if_success (with_reducible show wpAny _ _ (exec (Stmt.For _ _ _ _ _) _) _ _ _)); (fail_if_success (with_reducible show wpAny _ _ (call (Value.ref _) _) _ _ _)); (fail_if_success (with_reducible show wpAny _ _ (call (Value.builtin "dict.pop") _) _ _ _)); (fail_if_success (with_reducible show wpAny _ _ (eval (Expr.ListComp _ _ _ _) _) _ _ _)); (fail_if_success (with_reducible show wpAny _ _ (exec (Stmt.Assign _ (Expr.ListComp _ _ _ _) _) _) _ _ _)); (fail_if_success (with_reducible show wpAny _ _ (call (Value.builtin "sorted") _) _ _ _)); (fail_if_success (with_reducible show wpAny _ _ (call (Value.type "list") [Value.ref _]) _ _ _)); (fail_if_success (with_reducible show wpAny _ _ (call (Value.type "dict") [Value.ref _]) _ _ _)); (try dsimp only); walk1))) | (first | ((with_reducible show ite _ _ _); walk1) | ((with_reducible show _ ∧ _); walk1) | (leave1; (try dsimp only)) | (dsimp only [InvPostN]) | fail "no step")))
      exact TurnEnd.intro F6 N6 ((D6, o6) :: (d1, od1) :: led) (held_rot D6 o6) (off_new off ne6) (.more d1 od1 D6 o6 (Nat.le_refl 2) (by rw [hvals]; rfl) rfl i1 lo1 nd1 i6 lo6 (held_ne ne6))
    | more d1 od1 d2 od2 e1 e2 e3 i1 lo1 nd1 i2 lo2 nd2 =>
      subst e2 e3
      have hq : ∀ p ∈ led, h5.get? p.1 = some p.2 := fun p hp => (N5 p (.tail _ (.tail _ (.tail _ (.tail _ (.tail _ hp)))))).1
      (repeat' (first | (k_unfold; (try dsimp only)) | ((fail_if_success (with_reducible show wpAny _ _ (setItem _ _ _) _ _ _)); (((with_reducible show wpAny _ _ _ _ _ _); (fail_if_success (with_reducible show wpAny _ _ (exec (Stmt.While _ _ _ _) _) _ _ _)); (fail_if_success (with_reducible show wpAny _ _ (exec (Stmt.Raise _ _ _) _) _ _ _)); (fail_if_success (with_reducible show wpAny _ _ (exec (Stmt.Try _ _ _ _ _) _) _ _ _)); (fail_if_success (with_reducible show wpAny _ _ (exec (Stmt.For _ _ _ _ _) _) _ _ _)); (fail_if_success (with_reducible show wpAny _ _ (call (Value.ref _) _) _ _ _)); (fail_if_success (with_reducible show wpAny _ _ (call (Value.builtin "dict.pop") _) _ _ _)); (fail_if_success (with_reducible show wpAny _ _ (eval (Expr.ListComp _ _ _ _) _) _ _ _)); (fail_if_success (with_reducible show wpAny _ _ (exec (Stmt.Assign _ (Expr.ListComp _ _ _ _) _) _) _ _ _)); (fail_if_success (with_reducible show wpAny _ _ (call (Value.builtin "sorted") _) _ _ _)); (fail_if_success (with_reducible show wpAny _ _ (call (Value.type "list") [Value.ref _]) _ _ _)); (fail_if_success (with_reducible show wpAny _ _ (call (Value.type "dict") [Value.ref _]) _ _ _)); (try dsimp only); walk1))) | (first | ((with_reducible show ite _ _ _); walk1) | ((with_reducible show _ ∧ _); walk1) | (leave1; (try dsimp only)) | (dsimp only [InvPostN]) | fail "no step")))
      refine isi_not ?_ ?_
      · obtain ⟨tO, eO⟩ := lw.iO
        obtain ⟨tD, uD, eD⟩ := lw.iD
        have hall : ∀ v ∈ vals.drop 2, (∃ a o, v = Value.ref a ∧ h5.get? a = some o ∧ o.cls = .type "list") ∨ (∃ n t, v = .int n t) ∨ ∃ x t, v = .str x t := by
          rw [hvals]
          exact all_cons (.inl ⟨lD, oD, rfl, hq _ mD, by rw [eD]⟩) (all_cons (.inr (.inl ⟨_, _, rfl⟩)) (all_cons (.inr (.inl ⟨_, _, rfl⟩)) (all_cons (.inl ⟨lO, oO, rfl, hq _ mO, by rw [eO]⟩) (all_cons (.inr (.inr ⟨_, _, rfl⟩)) (all_cons (.inl ⟨lC, oC, rfl, hq _ mC, by rw [lw.iC]⟩) all_nil)))))
        exact hall v (mem_drop2 e1 hv)
      (repeat' (first | (k_unfold; (try dsimp only)) | ((fail_if_success (with_reducible show wpAny _ _ (setItem _ _ _) _ _ _)); (((with_reducible show wpAny _ _ _ _ _ _); (fail_if_success (with_reducible show wpAny _ _ (exec (Stmt.While _ _ _ _) _) _ _ _)); (fail_if_success (with_reducible show wpAny _ _ (exec (Stmt.Raise _ _ _) _) _ _ _)); (fail_if_success (with_reducible show wpAny _ _ (exec (Stmt.Try _ _ _ _ _) _) _ _ _)); (fail_if_success (with_reducible show wpAny _ _ (exec (Stmt.For _ _ _ _ _) _) _ _ _)); (fail_if_success (with_reducible show wpAny _ _ (call (Value.ref _) _) _ _ _)); (fail_if_success (with_reducible show wpAny _ _ (call (Value.builtin "dict.pop") _) _ _ _)); (fail_if_success (with_reducible show wpAny _ _ (eval (Expr.ListComp _ _ _ _) _) _ _ _)); (fail_if_success (with_reducible show wpAny _ _ (exec (Stmt.Assign _ (Expr.ListComp _ _ _ _) _) _) _ _ _)); (fail_if_success (with_reducible show wpAny _ _ (call (Value.builtin "sorted") _) _ _ _)); (fail_if_success (with_reducible show wpAny _ _ (call (Value.type "list") [Value.ref _]) _ _ _)); (fail_if_success (with_reducible show wpAny _ _ (call (Value.type "dict") [Value.ref _]) _ _ _)); (try dsimp only); walk1))) | (first | ((with_reducible show ite _ _ _); walk1) | ((with_reducible show _ ∧ _); walk1) | (leave1; (try dsimp only)) | (dsimp only [InvPostN]) | fail "no step")))
      exact TurnEnd.intro F5 N5 _ (fun _ h => h) off (.more d1 od1 d2 od2 (Nat.le_succ_of_le e1) (held_snoc e1 hv) rfl i1 lo1 nd1 i2 lo2 nd2)
  intro ys nw hj D5 h5 tk5 F5 N5 ne5
  (try dsimp only)
  have hv8 : vals.length = 8 := by rw [hvals]; rfl
  rw [hv8] at hj
  cases hj with
  | zero e1 e2 e3 => cases e1
  | one d1 od1 e1 e2 e3 i1 lo1 nd1 => cases e1
  | more d1 od1 d2 od2 e1 e2 e3 i1 lo1 nd1 i2 lo2 nd2 =>
  subst e2 e3
  have ndl : (led.map (·.1)).Nodup := by rw [← hled]; exact nd4
  have nd5 : (D5 :: d2 :: d1 :: led.map (·.1)).Nodup := nd_new (news := (d2, od2) :: (d1, od1) :: led) ne5 (nd_new (news := (d1, od1) :: led) nd2 (nd_new nd1 ndl))
  clear ne5 nd2 nd1 ndl nd4 nd3 N3 N4 F4 k4 nH4 hH4 F3 wa3
  (repeat' (first | (k_unfold; (try dsimp only)) | ((fail_if_success (with_reducible show wpAny _ _ (setItem _ _ _) _ _ _)); (((with_reducible show wpAny _ _ _ _ _ _); (fail_if_success (with_reducible show wpAny _ _ (exec (Stmt.While _ _ _ _) _) _ _ _)); (fail_if_success (with_reducible show wpAny _ _ (exec (Stmt.Raise _ _ _) _) _ _ _)); (fail_if_success (with_reducible show wpAny _ _ (exec (Stmt.Try _ _ _ _ _) _) _ _ _)); (fail_if_success (with_reducible show wpAny _ _ (exec (Stmt.For _ _ _ _ _) _) _ _ _)); (fail_if_success (with_reducible show wpAny _ _ (call (Value.ref _) _) _ _ _)); (fail_if_success (with_reducible show wpAny _ _ (call (Value.builtin "dict.pop") _) _ _ _)); (fail_if_success (with_reducible show wpAny _ _ (eval (Expr.ListComp _ _ _ _) _) _ _ _)); (fail_if_success (with_reducible show wpAny _ _ (exec (Stmt.Assign _ (Expr.ListComp _ _ _ _) _) _) _ _ _)); (fail_if_success (with_reducible show wpAny _ _ (call (Value.builtin "sorted") _) _ _ _)); (fail_if_success (with_reducible show wpAny _ _ (call (Value.type "list") [Value.ref _]) _ _ _)); (fail_if_success (with_reducible show wpAny _ _ (call (Value.type "dict") [Value.ref _]) _ _ _)); (try dsimp only); walk1))) | (first | ((with_reducible show ite _ _ _); walk1) | ((with_reducible show _ ∧ _); walk1) | (leave1; (try dsimp only)) | (dsimp only [InvPostN]) | fail "no step")))
  have sb5 : ∀ p ∈ led, p ∈ (D5, LCg.lst (Value.ref d1 :: Value.ref d2 :: List.drop 2 (List.take 8 vals))) :: (d2, od2) :: (d1, od1) :: led := fun p hp => .tail _ (.tail _ (.tail _ hp))
  refine wgetW (c0.keeps F5.keep) ⟨es, n2, (N5 _ (sb5 _ mX)).1, (N5 _ (sb5 _ mE)).1, fa⟩ (by decide +kernel) lw.fC rfl ?_
  (try dsimp only)
  (repeat' (first | (k_unfold; (try dsimp only)) | ((fail_if_success (with_reducible show wpAny _ _ (setItem _ _ _) _ _ _)); (((with_reducible show wpAny _ _ _ _ _ _); (fail_if_success (with_reducible show wpAny _ _ (exec (Stmt.While _ _ _ _) _) _ _ _)); (fail_if_success (with_reducible show wpAny _ _ (exec (Stmt.Raise _ _ _) _) _ _ _)); (fail_if_success (with_reducible show wpAny _ _ (exec (Stmt.Try _ _ _ _ _) _) _ _ _)); (fail_if_success (with_reducible show wpAny _ _ (exec (Stmt.For _ _ _ _ _) _) _ _ _)); (fail_if_success (with_reducible show wpAny _ _ (call (Value.ref _) _) _ _ _)); (fail_if_success (with_reducible show wpAny _ _ (call (Value.builtin "dict.pop") _) _ _ _)); (fail_if_success (with_reducible show wpAny _ _ (eval (Expr.ListComp _ _ _ _) _) _ _ _)); (fail_if_success (with_reducible show wpAny _ _ (exec (Stmt.Assign _ (Expr.ListComp _ _ _ _) _) _) _ _ _)); (fail_if_success (with_reducible show wpAny _ _ (call (Value.builtin "sorted") _) _ _ _)); (fail_if_success (with_reducible show wpAny _ _ (call (Value.type "list") [Value.ref _]) _ _ _)); (fail_if_success (with_reducible show wpAny _ _ (call (Value.type "dict") [Value.ref _]) _ _ _)); (try dsimp only); walk1))) | (first | ((with_reducible show ite _ _ _); walk1) | ((with_reducible show _ ∧ _); walk1) | (leave1; (try dsimp only)) | (dsimp only [InvPostN]) | fail "no step")))
  refine list_copyK F5 N5 (items := vC.toArray) ⟨oC, (N5 _ (sb5 _ mC)).1, by rw [lw.iC], vC.length, by rw [lw.iC]⟩ ?_ ?_
  rotate_left
  · rw [List.size_toArray, lw.sC.length]; exact Nat.le_trans lw.lC (by rw [sizeLine_eq]; decide)
  intro DK cK h6 F6 N6 lt6
  have nd6 : (DK :: D5 :: d2 :: d1 :: led.map (·.1)).Nodup := nd_new (news := (D5, LCg.lst (Value.ref d1 :: Value.ref d2 :: List.drop 2 (List.take 8 vals))) :: (d2, od2) :: (d1, od1) :: led) (fun p hp => Nat.ne_of_lt (lt6 p hp)) nd5
  clear lt6 nd5 sb5 N5 F5
  (try dsimp only)
  rw [← hled] at N6 nd6
  simp only [List.map_cons, List.map_nil] at nd6
  (repeat' (first | (k_unfold; (try dsimp only)) | ((fail_if_success (with_reducible show wpAny _ _ (setItem _ _ _) _ _ _)); (((with_reducible show wpAny _ _ _ _ _ _); (fail_if_success (with_reducible show wpAny _ _ (exec (Stmt.While _ _ _ _) _) _ _ _)); (fail_if_success (with_reducible show wpAny _ _ (exec (Stmt.Raise _ _ _) _) _ _ _)); (fail_if_success (with_reducible show wpAny _ _ (exec (Stmt.Try _ _ _ _ _) _) _ _ _)); (fail_if_success (with_reducible show wpAny _ _ (exec (Stmt.For _ _ _ _ _) _) _ _ _)); (fail_if_success (with_reducible show wpAny _ _ (call (Value.ref _) _) _ _ _)); (fail_if_success (with_reducible show wpAny _ _ (call (Value.builtin "dict.pop") _) _ _ _)); (fail_if_success (with_reducible show wpAny _ _ (eval (Expr.ListComp _ _ _ _) _) _ _ _)); (fail_if_success (with_reducible show wpAny _ _ (exec (Stmt.Assign _ (Expr.ListComp _ _ _ _) _) _) _ _ _)); (fail_if_success (with_reducible show wpAny _ _ (call (Value.builtin "sorted") _) _ _ _)); (fail_if_success (with_reducible show wpAny _ _ (call (Value.type "list") [Value.ref _]) _ _ _)); (fail_if_success (with_reducible show wpAny _ _ (call (Value.type "dict") [Value.ref _]) _ _ _)); (try dsimp only); walk1))) | (first | ((with_reducible show ite _ _ _); walk1) | ((with_reducible show _ ∧ _); walk1) | (leave1; (try dsimp only)) | (dsimp only [InvPostN]) | fail "no step")))
  rename Fr _ _ _ _ => F7
  rename News _ _ _ _ => N7
  have nd7 : ([L + 1, L + 1 + 1, DK, D5, d2, d1, lD, lO, lC, aA, aN, x, dx, dF, sp] : List Addr).Nodup :=
    nd_rot (as := [L + 1 + 1, DK, D5, d2, d1, lD, lO, lC, aA, aN, x, dx, dF]) (nd_rot (as := [DK, D5, d2, d1, lD, lO, lC, aA, aN, x, dx, dF]) (List.nodup_cons.mp (nd_rot (as := [DK, D5, d2, d1]) nd6)).2)
  have e8 : List.drop 2 (List.take 8 vals) = [.ref lD, .int 1 tS, .int 40 tH, .ref lO, .str (Str.ofString "two") tR, .ref lC] := by rw [hvals]; rfl
  rw [e8] at N7
  have N8 := news_sub (l' := [(L + 1, o1), (L + 1 + 1, o2), (DK, W.listOf vC.toArray cK), (D5, LCg.lst [.ref d1, .ref d2, .ref lD, .int 1 tS, .int 40 tH, .ref lO, .str (Str.ofString "two") tR, .ref lC]), (d2, od2), (d1, od1), (lD, oD), (lO, oO), (lC, oC), (aA, oA), (aN, oN), (x, instObj 133 dx), (dx, W.dictOf es n2), (dF, oF), (sp, osp)]) N7 (by (((repeat' (first | exact all_nil | refine all_cons ?_ ?_)) <;> first | k_mem | (exact fun p hp => by repeat (first | exact hp | exact List.mem_append_left _ hp | apply List.Mem.tail)))))
  clear N7 nd6 hled hvals mN mA mD mO mC mH mX mE e1 hv8
  refine stCN (own := []) F7 N8 (c := L + 1) (v₀ := none) (by rfl) hc1 (fun p hp => nomatch hp) (nd_rest (own := []) nd7) ?_
  intro h9 o9 F9 N9 hc9
  (try dsimp only [List.nil_append] at N9)
  (try dsimp only)
  (repeat' (first | (k_unfold; (try dsimp only)) | ((fail_if_success (with_reducible show wpAny _ _ (setItem _ _ _) _ _ _)); (((with_reducible show wpAny _ _ _ _ _ _); (fail_if_success (with_reducible show wpAny _ _ (exec (Stmt.While _ _ _ _) _) _ _ _)); (fail_if_success (with_reducible show wpAny _ _ (exec (Stmt.Raise _ _ _) _) _ _ _)); (fail_if_success (with_reducible show wpAny _ _ (exec (Stmt.Try _ _ _ _ _) _) _ _ _)); (fail_if_success (with_reducible show wpAny _ _ (exec (Stmt.For _ _ _ _ _) _) _ _ _)); (fail_if_success (with_reducible show wpAny _ _ (call (Value.ref _) _) _ _ _)); (fail_if_success (with_reducible show wpAny _ _ (call (Value.builtin "dict.pop") _) _ _ _)); (fail_if_success (with_reducible show wpAny _ _ (eval (Expr.ListComp _ _ _ _) _) _ _ _)); (fail_if_success (with_reducible show wpAny _ _ (exec (Stmt.Assign _ (Expr.ListComp _ _ _ _) _) _) _ _ _)); (fail_if_success (with_reducible show wpAny _ _ (call (Value.builtin "sorted") _) _ _ _)); (fail_if_success (with_reducible show wpAny _ _ (call (Value.type "list") [Value.ref _]) _ _ _)); (fail_if_success (with_reducible show wpAny _ _ (call (Value.type "dict") [Value.ref _]) _ _ _)); (try dsimp only); walk1))) | (first | ((with_reducible show ite _ _ _); walk1) | ((with_reducible show _ ∧ _); walk1) | (leave1; (try dsimp only)) | (dsimp only [InvPostN]) | fail "no step")))
  refine stCN (own := [(L + 1, _)]) F9 N9 (c := L + 1 + 1) (v₀ := none) (by rfl) hc2 ?_ (nd_rest (own := [(L + 1, o9)]) nd7) ?_
  · exact nd_own (rest := [(DK, W.listOf vC.toArray cK), (D5, LCg.lst [.ref d1, .ref d2, .ref lD, .int 1 tS, .int 40 tH, .ref lO, .str (Str.ofString "two") tR, .ref lC]), (d2, od2), (d1, od1), (lD, oD), (lO, oO), (lC, oC), (aA, oA), (aN, oN), (x, instObj 133 dx), (dx, W.dictOf es n2), (dF, oF), (sp, osp)]) nd7
  intro h10 o10 F10 N10 hc10
  (try dsimp only [List.cons_append, List.nil_append] at N10)
  clear F7 N8 F9 N9 hc1 hc2
  (try dsimp only)
  (repeat' (first | (k_unfold; (try dsimp only)) | ((fail_if_success (with_reducible show wpAny _ _ (setItem _ _ _) _ _ _)); (((with_reducible show wpAny _ _ _ _ _ _); (fail_if_success (with_reducible show wpAny _ _ (exec (Stmt.While _ _ _ _) _) _ _ _)); (fail_if_success (with_reducible show wpAny _ _ (exec (Stmt.Raise _ _ _) _) _ _ _)); (fail_if_success (with_reducible show wpAny _ _ (exec (Stmt.Try _ _ _ _ _) _) _ _ _)); (fail_if_success (with_reducible show wpAny _ _ (exec (Stmt.For _ _ _ _ _) _) _ _ _)); (fail_if_success (with_reducible show wpAny _ _ (call (Value.ref _) _) _ _ _)); (fail_if_success (with_reducible show wpAny _ _ (call (Value.builtin "dict.pop") _) _ _ _)); (fail_if_success (with_reducible show wpAny _ _ (eval (Expr.ListComp _ _ _ _) _) _ _ _)); (fail_if_success (with_reducible show wpAny _ _ (exec (Stmt.Assign _ (Expr.ListComp _ _ _ _) _) _) _ _ _)); (fail_if_success (with_reducible show wpAny _ _ (call (Value.builtin "sorted") _) _ _ _)); (fail_if_success (with_reducible show wpAny _ _ (call (Value.type "list") [Value.ref _]) _ _ _)); (fail_if_success (with_reducible show wpAny _ _ (call (Value.type "dict") [Value.ref _]) _ _ _)); (try dsimp only); walk1))) | (first | ((with_reducible show ite _ _ _); walk1) | ((with_reducible show _ ∧ _); walk1) | (leave1; (try dsimp only)) | (dsimp only [InvPostN]) | fail "no step")))
  rename_i lL h11 F11 N11 ltL
  have ndL := nd_lt (D := lL) (as := [L + 1, L + 1 + 1, DK, D5, d2, d1, lD, lO, lC, aA, aN, x, dx, dF, sp]) (by
    obtain ⟨q1, q2, q3, q4, q5, q6, q7, q8, q9, q10, q11, q12, q13, q14, q15⟩ := ltL
    exact all_cons q1 (all_cons q2 (all_cons q3 (all_cons q4 (all_cons q5 (all_cons q6 (all_cons q7 (all_cons q8 (all_cons q9 (all_cons q10 (all_cons q11 (all_cons q12 (all_cons q13 (all_cons q14 (all_cons q15 all_nil))))))))))))))) nd7
  clear ltL
  refine take_led c0 F11 N11 (updF_nd [(lL, _), (L + 1, _), (L + 1 + 1, _), (DK, _), (D5, _), (d2, _), (d1, _), (lD, _), (lO, _), (lC, _), (aA, _), (aN, _), (x, _), (dx, _), (dF, _)] ndL) (rm.deep (by decide)) ios (list_keep hlg F11.keep) hspl sl (by omega) ?_
  intro h12 tk12 v12 tv12 o12 F12 N12 io12 hv12
  dsimp only [List.cons_append, List.nil_append] at N12
  clear F11 N11 ndL
  (try dsimp only)
  walk1
  (try dsimp only)
  walk1
  (try dsimp only)
  have f0 := Int.fmod_nonneg_of_pos v12 (b := 4) (by omega)
  have f1 := Int.fmod_lt_of_pos v12 (b := 4) (by omega)
  obtain ⟨line, hline, hlv⟩ := line_pick (v := v12) (t1 := tk) (t2 := tk + 1) (t3 := tk + 1 + 1) f0 f1
  rename News _ _ _ _ => N12'
  refine list_item ⟨_, (N12' _ (.head _)).1, rfl, _, rfl⟩ f0 (by omega) hline ?_
  have N13 := news_sub N12' fun p hp => .tail _ hp
  clear N12' hline f0 f1 hv12
  (try dsimp only)
  (repeat' (first | (k_unfold; (try dsimp only)) | ((fail_if_success (with_reducible show wpAny _ _ (setItem _ _ _) _ _ _)); (((with_reducible show wpAny _ _ _ _ _ _); (fail_if_success (with_reducible show wpAny _ _ (exec (Stmt.While _ _ _ _) _) _ _ _)); (fail_if_success (with_reducible show wpAny _ _ (exec (Stmt.Raise _ _ _) _) _ _ _)); (fail_if_success (with_reducible show wpAny _ _ (exec (Stmt.Try _ _ _ _ _) _) _ _ _)); (fail_if_success (with_reducible show wpAny _ _ (exec (Stmt.For _ _ _ _ _) _) _ _ _)); (fail_if_success (with_reducible show wpAny _ _ (call (Value.ref _) _) _ _ _)); (fail_if_success (with_reducible show wpAny _ _ (call (Value.builtin "dict.pop") _) _ _ _)); (fail_if_success (with_reducible show wpAny _ _ (eval (Expr.ListComp _ _ _ _) _) _ _ _)); (fail_if_success (with_reducible show wpAny _ _ (exec (Stmt.Assign _ (Expr.ListComp _ _ _ _) _) _) _ _ _)); (fail_if_success (with_reducible show wpAny _ _ (call (Value.builtin "sorted") _) _ _ _)); (fail_if_success (with_reducible show wpAny _ _ (call (Value.type "list") [Value.ref _]) _ _ _)); (fail_if_success (with_reducible show wpAny _ _ (call (Value.type "dict") [Value.ref _]) _ _ _)); (try dsimp only); walk1))) | (first | ((with_reducible show ite _ _ _); walk1) | ((with_reducible show _ ∧ _); walk1) | (leave1; (try dsimp only)) | (dsimp only [InvPostN]) | fail "no step")))
  rename Fr _ _ _ _ => F14
  rename News _ _ _ _ => N14
  subst hA
  have hlt : ∀ b ∈ outer.filterMap (·.frame), b < (holes g (outer.filterMap (·.frame))).objs.size := fun b hb => by
    obtain ⟨_, ob, e, _⟩ := Heap.FunFrames.mem hff hb
    rw [holes_size]; exact Heap.lt_size e
  have wa14 : WAt _ x dx f := ⟨es, n2, (N14 (x, _) (by k_mem)).1, (N14 (dx, _) (by k_mem)).1, fa⟩
  refine wpAny_Try_except ?_
  (repeat' (first | (k_unfold; (try dsimp only)) | ((fail_if_success (with_reducible show wpAny _ _ (setItem _ _ _) _ _ _)); (((with_reducible show wpAny _ _ _ _ _ _); (fail_if_success (with_reducible show wpAny _ _ (exec (Stmt.While _ _ _ _) _) _ _ _)); (fail_if_success (with_reducible show wpAny _ _ (exec (Stmt.Raise _ _ _) _) _ _ _)); (fail_if_success (with_reducible show wpAny _ _ (exec (Stmt.Try _ _ _ _ _) _) _ _ _)); (fail_if_success (with_reducible show wpAny _ _ (exec (Stmt.For _ _ _ _ _) _) _ _ _)); (fail_if_success (with_reducible show wpAny _ _ (call (Value.ref _) _) _ _ _)); (fail_if_success (with_reducible show wpAny _ _ (call (Value.builtin "dict.pop") _) _ _ _)); (fail_if_success (with_reducible show wpAny _ _ (eval (Expr.ListComp _ _ _ _) _) _ _ _)); (fail_if_success (with_reducible show wpAny _ _ (exec (Stmt.Assign _ (Expr.ListComp _ _ _ _) _) _) _ _ _)); (fail_if_success (with_reducible show wpAny _ _ (call (Value.builtin "sorted") _) _ _ _)); (fail_if_success (with_reducible show wpAny _ _ (call (Value.type "list") [Value.ref _]) _ _ _)); (fail_if_success (with_reducible show wpAny _ _ (call (Value.type "dict") [Value.ref _]) _ _ _)); (try dsimp only); walk1))) | (first | ((with_reducible show ite _ _ _); walk1) | ((with_reducible show _ ∧ _); walk1) | (leave1; (try dsimp only)) | (dsimp only [InvPostN]) | fail "no step")))
  refine chained_ff px (c0.keeps F14.keep) (rm.deep (by decide)) rfl (FF.push F14 hff (by show ScopeKind.function ≠ ScopeKind.module; decide) rfl) wa14 lw.fF (Heap.dictOf_iff.mpr ⟨oF, (N14 (dF, _) (by k_mem)).1, lw.iF⟩) lw.loF rfl ?_
  intro h15 tk15 e t15 R15
  (try dsimp only)
  have XB := cB.X
  have TB := cB.T
  have hgf : ∀ b ∈ outer.filterMap (·.frame), (holes g (outer.filterMap (·.frame))).get? b = none := fun b hb => holes_none hb
  have hnf14 := off_frames hff N14
  have hLf : ∀ b ∈ outer.filterMap (·.frame), b ≠ L := fun b hb => Nat.ne_of_lt (Nat.lt_of_lt_of_le (hlt b hb) (by rw [holes_size]; exact F14.above))
  refine catchX rfl rfl rfl rfl rfl cB (Fr.holes F14 (outer.filterMap (·.frame))) (News.holes N14 (outer.filterMap (·.frame))) hgf hnf14 R15 ?_ ?_
  · intro s1 Q' E' Fs hQ
    (repeat' (first | (k_unfold; (try dsimp only)) | ((fail_if_success (with_reducible show wpAny _ _ (setItem _ _ _) _ _ _)); (((with_reducible show wpAny _ _ _ _ _ _); (fail_if_success (with_reducible show wpAny _ _ (exec (Stmt.While _ _ _ _) _) _ _ _)); (fail_if_success (with_reducible show wpAny _ _ (exec (Stmt.Raise _ _ _) _) _ _ _)); (fail_if_success (with_reducible show wpAny _ _ (exec (Stmt.Try _ _ _ _ _) _) _ _ _)); (fail_if_success (with_reducible show wpAny _ _ (exec (Stmt.For _ _ _ _ _) _) _ _ _)); (fail_if_success (with_reducible show wpAny _ _ (call (Value.ref _) _) _ _ _)); (fail_if_success (with_reducible show wpAny _ _ (call (Value.builtin "dict.pop") _) _ _ _)); (fail_if_success (with_reducible show wpAny _ _ (eval (Expr.ListComp _ _ _ _) _) _ _ _)); (fail_if_success (with_reducible show wpAny _ _ (exec (Stmt.Assign _ (Expr.ListComp _ _ _ _) _) _) _ _ _)); (fail_if_success (with_reducible show wpAny _ _ (call (Value.builtin "sorted") _) _ _ _)); (fail_if_success (with_reducible show wpAny _ _ (call (Value.type "list") [Value.ref _]) _ _ _)); (fail_if_success (with_reducible show wpAny _ _ (call (Value.type "dict") [Value.ref _]) _ _ _)); (try dsimp only); walk1))) | (first | ((with_reducible show ite _ _ _); walk1) | ((with_reducible show _ ∧ _); walk1) | (leave1; (try dsimp only)) | (dsimp only [InvPostN]) | fail "no step")))
    exact hQ
  intro h16 tk16 oe dxe ode F16 N16 ge16 ne16 ff16
  clear F14 N14 wa14 R15
  (repeat' (first | (k_unfold; (try dsimp only)) | ((fail_if_success (with_reducible show wpAny _ _ (setItem _ _ _) _ _ _)); (((with_reducible show wpAny _ _ _ _ _ _); (fail_if_success (with_reducible show wpAny _ _ (exec (Stmt.While _ _ _ _) _) _ _ _)); (fail_if_success (with_reducible show wpAny _ _ (exec (Stmt.Raise _ _ _) _) _ _ _)); (fail_if_success (with_reducible show wpAny _ _ (exec (Stmt.Try _ _ _ _ _) _) _ _ _)); (fail_if_success (with_reducible show wpAny _ _ (exec (Stmt.For _ _ _ _ _) _) _ _ _)); (fail_if_success (with_reducible show wpAny _ _ (call (Value.ref _) _) _ _ _)); (fail_if_success (with_reducible show wpAny _ _ (call (Value.builtin "dict.pop") _) _ _ _)); (fail_if_success (with_reducible show wpAny _ _ (eval (Expr.ListComp _ _ _ _) _) _ _ _)); (fail_if_success (with_reducible show wpAny _ _ (exec (Stmt.Assign _ (Expr.ListComp _ _ _ _) _) _) _ _ _)); (fail_if_success (with_reducible show wpAny _ _ (call (Value.builtin "sorted") _) _ _ _)); (fail_if_success (with_reducible show wpAny _ _ (call (Value.type "list") [Value.ref _]) _ _ _)); (fail_if_success (with_reducible show wpAny _ _ (call (Value.type "dict") [Value.ref _]) _ _ _)); (try dsimp only); walk1))) | (first | ((with_reducible show ite _ _ _); walk1) | ((with_reducible show _ ∧ _); walk1) | (leave1; (try dsimp only)) | (dsimp only [InvPostN]) | fail "no step")))
  refine got_code cB F16 N16 (.head _) (.tail _ (.head _)) ge16 ?_
  (try dsimp only)
  (repeat' (first | (k_unfold; (try dsimp only)) | ((fail_if_success (with_reducible show wpAny _ _ (setItem _ _ _) _ _ _)); (((with_reducible show wpAny _ _ _ _ _ _); (fail_if_success (with_reducible show wpAny _ _ (exec (Stmt.While _ _ _ _) _) _ _ _)); (fail_if_success (with_reducible show wpAny _ _ (exec (Stmt.Raise _ _ _) _) _ _ _)); (fail_if_success (with_reducible show wpAny _ _ (exec (Stmt.Try _ _ _ _ _) _) _ _ _)); (fail_if_success (with_reducible show wpAny _ _ (exec (Stmt.For _ _ _ _ _) _) _ _ _)); (fail_if_success (with_reducible show wpAny _ _ (call (Value.ref _) _) _ _ _)); (fail_if_success (with_reducible show wpAny _ _ (call (Value.builtin "dict.pop") _) _ _ _)); (fail_if_success (with_reducible show wpAny _ _ (eval (Expr.ListComp _ _ _ _) _) _ _ _)); (fail_if_success (with_reducible show wpAny _ _ (exec (Stmt.Assign _ (Expr.ListComp _ _ _ _) _) _) _ _ _)); (fail_if_success (with_reducible show wpAny _ _ (call (Value.builtin "sorted") _) _ _ _)); (fail_if_success (with_reducible show wpAny _ _ (call (Value.type "list") [Value.ref _]) _ _ _)); (fail_if_success (with_reducible show wpAny _ _ (call (Value.type "dict") [Value.ref _]) _ _ _)); (try dsimp only); walk1))) | (first | ((with_reducible show ite _ _ _); walk1) | ((with_reducible show _ ∧ _); walk1) | (leave1; (try dsimp only)) | (dsimp only [InvPostN]) | fail "no step")))
  refine held_spec (cB.keeps F16.keep) (rm.hd (by decide)) (rm.hu (by decide)) ⟨es, n2, (N16 (x, _) (by k_mem)).1, (N16 (dx, _) (by k_mem)).1, fa⟩ lw.fN lw.fA lw.fD hfS hfH lw.fO hfR lw.fC ?_
  intro h17 tk17 DG k17 nH17 hH17
  obtain ⟨F17, N17, ne17⟩ := news_add F16 N16 k17 nH17 hH17
  have ff17 : FF h17 outer := funFrames_on (fun b hb o e => k17 b o e) ff16 (fun b hb => holes_none hb)
  clear F16 N16 k17 nH17 hH17 ff16
  (try dsimp only)
  walk1
  (try dsimp only)
  have q17 : HeldEq prog w h17 aN aA d1 d2 kvN kvA := ⟨Heap.dictOf_iff.mpr ⟨oN, (N17 (aN, _) (by k_mem)).1, lw.iN⟩, Heap.dictOf_iff.mpr ⟨oA, (N17 (aA, _) (by k_mem)).1, lw.iA⟩, Heap.dictOf_iff.mpr ⟨od1, (N17 (d1, _) (by k_mem)).1, i1⟩, Heap.dictOf_iff.mpr ⟨od2, (N17 (d2, _) (by k_mem)).1, i2⟩, lw.loN, lw.loA, lo1, lo2⟩
  refine new_lists (items := #[.ref aN, .ref aA, .ref lD, .int 1 tS, .int 40 tH, .ref lO, .str (Str.ofString "two") tR, .ref lC]) (items2 := #[.ref d1, .ref d2, .ref lD, .int 1 tS, .int 40 tH, .ref lO, .str (Str.ofString "two") tR, .ref lC])
    ⟨_, (N17 (DG, _) (.head _)).1, rfl, _, rfl⟩ ⟨_, (N17 (D5, _) (by k_mem)).1, rfl, _, rfl⟩ rfl ?_ (q17.each ?_) ?_
  · show au + 3 < _; omega
  · show au + 3 + 1 < _; omega
  clear q17
  (try dsimp only)
  (repeat' (first | (k_unfold; (try dsimp only)) | ((fail_if_success (with_reducible show wpAny _ _ (setItem _ _ _) _ _ _)); (((with_reducible show wpAny _ _ _ _ _ _); (fail_if_success (with_reducible show wpAny _ _ (exec (Stmt.While _ _ _ _) _) _ _ _)); (fail_if_success (with_reducible show wpAny _ _ (exec (Stmt.Raise _ _ _) _) _ _ _)); (fail_if_success (with_reducible show wpAny _ _ (exec (Stmt.Try _ _ _ _ _) _) _ _ _)); (fail_if_success (with_reducible show wpAny _ _ (exec (Stmt.For _ _ _ _ _) _) _ _ _)); (fail_if_success (with_reducible show wpAny _ _ (call (Value.ref _) _) _ _ _)); (fail_if_success (with_reducible show wpAny _ _ (call (Value.builtin "dict.pop") _) _ _ _)); (fail_if_success (with_reducible show wpAny _ _ (eval (Expr.ListComp _ _ _ _) _) _ _ _)); (fail_if_success (with_reducible show wpAny _ _ (exec (Stmt.Assign _ (Expr.ListComp _ _ _ _) _) _) _ _ _)); (fail_if_success (with_reducible show wpAny _ _ (call (Value.builtin "sorted") _) _ _ _)); (fail_if_success (with_reducible show wpAny _ _ (call (Value.type "list") [Value.ref _]) _ _ _)); (fail_if_success (with_reducible show wpAny _ _ (call (Value.type "dict") [Value.ref _]) _ _ _)); (try dsimp only); walk1))) | (first | ((with_reducible show ite _ _ _); walk1) | ((with_reducible show _ ∧ _); walk1) | (leave1; (try dsimp only)) | (dsimp only [InvPostN]) | fail "no step")))
  refine wpAny_nameGoes_keeps rfl F17.ns rfl ?_
  intro h18 v18 hn18 hs18
  have F18 := Fr.set F17 hn18 hs18
  have N18 := news_sub (News.set N17 hs18) (l' := [(L + 1, o9), (L + 1 + 1, o10), (DK, W.listOf vC.toArray cK), (D5, LCg.lst [.ref d1, .ref d2, .ref lD, .int 1 tS, .int 40 tH, .ref lO, .str (Str.ofString "two") tR, .ref lC]), (d2, od2), (d1, od1), (lD, oD), (lO, oO), (lC, oC), (aA, oA), (aN, oN), (x, instObj 133 dx), (dx, W.dictOf es n2), (dF, oF), (sp, o12)]) (fun p hp => .tail _ (.tail _ (.tail _ hp)))
  have ff18 : FF h18 outer := funFrames_on (fun b hb o e => (hs18.2 b (hLf b hb)).trans e) ff17 (fun b hb => holes_none hb)
  obtain ⟨gC, FC, NC, ffC, kC⟩ := refill F18 N18 ff18 hlt hgf hnf14
  clear F17 N17 F18 N18 ff17 ff18 hs18 hn18
  have cC : Cx w mean mg mb gC := cB.keeps fun b o e => (holes_some.mp (kC b o e)).1
  have cE : Cx w mean mg mb (holes gC (outer.filterMap (·.frame))) := cB.keeps kC
  have pdC : ProgAt prog w (holes gC (outer.filterMap (·.frame))) d P := pd.keep kC
  clear cB pd XB TB X T c0 hl hlg on hff
  have XC := cC.X
  have TC := cC.T
  (try dsimp only)
  (repeat' (first | (k_unfold; (try dsimp only)) | ((fail_if_success (with_reducible show wpAny _ _ (setItem _ _ _) _ _ _)); (((with_reducible show wpAny _ _ _ _ _ _); (fail_if_success (with_reducible show wpAny _ _ (exec (Stmt.While _ _ _ _) _) _ _ _)); (fail_if_success (with_reducible show wpAny _ _ (exec (Stmt.Raise _ _ _) _) _ _ _)); (fail_if_success (with_reducible show wpAny _ _ (exec (Stmt.Try _ _ _ _ _) _) _ _ _)); (fail_if_success (with_reducible show wpAny _ _ (exec (Stmt.For _ _ _ _ _) _) _ _ _)); (fail_if_success (with_reducible show wpAny _ _ (call (Value.ref _) _) _ _ _)); (fail_if_success (with_reducible show wpAny _ _ (call (Value.builtin "dict.pop") _) _ _ _)); (fail_if_success (with_reducible show wpAny _ _ (eval (Expr.ListComp _ _ _ _) _) _ _ _)); (fail_if_success (with_reducible show wpAny _ _ (exec (Stmt.Assign _ (Expr.ListComp _ _ _ _) _) _) _ _ _)); (fail_if_success (with_reducible show wpAny _ _ (call (Value.builtin "sorted") _) _ _ _)); (fail_if_success (with_reducible show wpAny _ _ (call (Value.type "list") [Value.ref _]) _ _ _)); (fail_if_success (with_reducible show wpAny _ _ (call (Value.type "dict") [Value.ref _]) _ _ _)); (try dsimp only); walk1))) | (first | ((with_reducible show ite _ _ _); walk1) | ((with_reducible show _ ∧ _); walk1) | (leave1; (try dsimp only)) | (dsimp only [InvPostN]) | fail "no step")))
  refine wgetW (cC.keeps FC.keep) ⟨es, n2, (NC (x, _) (by k_mem)).1, (NC (dx, _) (by k_mem)).1, fa⟩ (by decide +kernel) lw.fF rfl ?_
  (try dsimp only)
  walk1
  (try dsimp only)
  refine kda_set (knd := PySem.strKind prog w) FC NC (updF_nd [(L + 1, _), (L + 1 + 1, _), (DK, _), (D5, _), (d2, _), (d1, _), (lD, _), (lO, _), (lC, _), (aA, _), (aN, _), (x, _), (dx, _)] nd7) lw.iF (strKind_is _ _ _ _) (by rw [sizeLine_eq]; decide) ?_
  intro h20 oG F20 N20 iG
  dsimp only [List.cons_append, List.nil_append] at N20
  clear FC NC
  have iG' : oG.IsDictOf (PySem.strKind prog w) [(Str.ofString "P", .str tx tt)] := iG
  clear iG
  have pd20 : ProgAt prog w h20 d P := pdC.keep fun b o e => F20.keep b o (holes_some.mp e).1
  (try dsimp only)
  walk1
  (try dsimp only)
  refine' If_join (LineIn P line) ?main0 ?rest0
  case main0 =>
    intro hrest
    rcases hlv with e0 | ⟨k, tl, e0, hk3⟩
    · have F21 := e0 ▸ F20
      (repeat' ((fail_if_success (with_reducible show wpAny _ _ (execs _ _) _ _ _)); first | (k_unfold; (try dsimp only)) | ((fail_if_success (with_reducible show wpAny _ _ (setItem _ _ _) _ _ _)); (((with_reducible show wpAny _ _ _ _ _ _); (fail_if_success (with_reducible show wpAny _ _ (exec (Stmt.While _ _ _ _) _) _ _ _)); (fail_if_success (with_reducible show wpAny _ _ (exec (Stmt.Raise _ _ _) _) _ _ _)); (fail_if_success (with_reducible show wpAny _ _ (exec (Stmt.Try _ _ _ _ _) _) _ _ _)); (fail_if_success (with_reducible show wpAny _ _ (exec (Stmt.For _ _ _ _ _) _) _ _ _)); (fail_if_success (with_reducible show wpAny _ _ (call (Value.ref _) _) _ _ _)); (fail_if_success (with_reducible show wpAny _ _ (call (Value.builtin "dict.pop") _) _ _ _)); (fail_if_success (with_reducible show wpAny _ _ (eval (Expr.ListComp _ _ _ _) _) _ _ _)); (fail_if_success (with_reducible show wpAny _ _ (exec (Stmt.Assign _ (Expr.ListComp _ _ _ _) _) _) _ _ _)); (fail_if_success (with_reducible show wpAny _ _ (call (Value.builtin "sorted") _) _ _ _)); (fail_if_success (with_reducible show wpAny _ _ (call (Value.type "list") [Value.ref _]) _ _ _)); (fail_if_success (with_reducible show wpAny _ _ (call (Value.type "dict") [Value.ref _]) _ _ _)); (try dsimp only); walk1))) | (first | ((with_reducible show ite _ _ _); walk1) | ((with_reducible show _ ∧ _); walk1) | (leave1; (try dsimp only)) | (dsimp only [InvPostN]) | fail "no step")))
      exact wpAny_execs_nil (hrest _ (.inl e0))
    · have F21 := e0 ▸ F20
      (repeat' ((fail_if_success (with_reducible show wpAny _ _ (execs _ _) _ _ _)); first | (k_unfold; (try dsimp only)) | ((fail_if_success (with_reducible show wpAny _ _ (setItem _ _ _) _ _ _)); (((with_reducible show wpAny _ _ _ _ _ _); (fail_if_success (with_reducible show wpAny _ _ (exec (Stmt.While _ _ _ _) _) _ _ _)); (fail_if_success (with_reducible show wpAny _ _ (exec (Stmt.Raise _ _ _) _) _ _ _)); (fail_if_success (with_reducible show wpAny _ _ (exec (Stmt.Try _ _ _ _ _) _) _ _ _)); (fail_if_success (with_reducible show wpAny _ _ (exec (Stmt.For _ _ _ _ _) _) _ _ _)); (fail_if_success (with_reducible show wpAny _ _ (call (Value.ref _) _) _ _ _)); (fail_if_success (with_reducible show wpAny _ _ (call (Value.builtin "dict.pop") _) _ _ _)); (fail_if_success (with_reducible show wpAny _ _ (eval (Expr.ListComp _ _ _ _) _) _ _ _)); (fail_if_success (with_reducible show wpAny _ _ (exec (Stmt.Assign _ (Expr.ListComp _ _ _ _) _) _) _ _ _)); (fail_if_success (with_reducible show wpAny _ _ (call (Value.builtin "sorted") _) _ _ _)); (fail_if_success (with_reducible show wpAny _ _ (call (Value.type "list") [Value.ref _]) _ _ _)); (fail_if_success (with_reducible show wpAny _ _ (call (Value.type "dict") [Value.ref _]) _ _ _)); (try dsimp only); walk1))) | (first | ((with_reducible show ite _ _ _); walk1) | ((with_reducible show _ ∧ _); walk1) | (leave1; (try dsimp only)) | (dsimp only [InvPostN]) | fail "no step")))
      refine prog_notin pd20 rfl ?_
      by_cases hk : k ∈ P.map (·.1)
      · rw [decide_eq_true hk]
        (try dsimp only)
        (repeat' ((fail_if_success (with_reducible show wpAny _ _ (execs _ _) _ _ _)); first | (k_unfold; (try dsimp only)) | ((fail_if_success (with_reducible show wpAny _ _ (setItem _ _ _) _ _ _)); (((with_reducible show wpAny _ _ _ _ _ _); (fail_if_success (with_reducible show wpAny _ _ (exec (Stmt.While _ _ _ _) _) _ _ _)); (fail_if_success (with_reducible show wpAny _ _ (exec (Stmt.Raise _ _ _) _) _ _ _)); (fail_if_success (with_reducible show wpAny _ _ (exec (Stmt.Try _ _ _ _ _) _) _ _ _)); (fail_if_success (with_reducible show wpAny _ _ (exec (Stmt.For _ _ _ _ _) _) _ _ _)); (fail_if_success (with_reducible show wpAny _ _ (call (Value.ref _) _) _ _ _)); (fail_if_success (with_reducible show wpAny _ _ (call (Value.builtin "dict.pop") _) _ _ _)); (fail_if_success (with_reducible show wpAny _ _ (eval (Expr.ListComp _ _ _ _) _) _ _ _)); (fail_if_success (with_reducible show wpAny _ _ (exec (Stmt.Assign _ (Expr.ListComp _ _ _ _) _) _) _ _ _)); (fail_if_success (with_reducible show wpAny _ _ (call (Value.builtin "sorted") _) _ _ _)); (fail_if_success (with_reducible show wpAny _ _ (call (Value.type "list") [Value.ref _]) _ _ _)); (fail_if_success (with_reducible show wpAny _ _ (call (Value.type "dict") [Value.ref _]) _ _ _)); (try dsimp only); walk1))) | (first | ((with_reducible show ite _ _ _); walk1) | ((with_reducible show _ ∧ _); walk1) | (leave1; (try dsimp only)) | (dsimp only [InvPostN]) | fail "no step")))
        exact wpAny_execs_nil (hrest _ (.inr ⟨k, tl, e0, hk⟩))
      · rw [decide_eq_false hk]
        (try dsimp only)
        (repeat' (first | (k_unfold; (try dsimp only)) | ((fail_if_success (with_reducible show wpAny _ _ (setItem _ _ _) _ _ _)); (((with_reducible show wpAny _ _ _ _ _ _); (fail_if_success (with_reducible show wpAny _ _ (exec (Stmt.While _ _ _ _) _) _ _ _)); (fail_if_success (with_reducible show wpAny _ _ (exec (Stmt.Raise _ _ _) _) _ _ _)); (fail_if_success (with_reducible show wpAny _ _ (exec (Stmt.Try _ _ _ _ _) _) _ _ _)); (fail_if_success (with_reducible show wpAny _ _ (exec (Stmt.For _ _ _ _ _) _) _ _ _)); (fail_if_success (with_reducible show wpAny _ _ (call (Value.ref _) _) _ _ _)); (fail_if_success (with_reducible show wpAny _ _ (call (Value.builtin "dict.pop") _) _ _ _)); (fail_if_success (with_reducible show wpAny _ _ (eval (Expr.ListComp _ _ _ _) _) _ _ _)); (fail_if_success (with_reducible show wpAny _ _ (exec (Stmt.Assign _ (Expr.ListComp _ _ _ _) _) _) _ _ _)); (fail_if_success (with_reducible show wpAny _ _ (call (Value.builtin "sorted") _) _ _ _)); (fail_if_success (with_reducible show wpAny _ _ (call (Value.type "list") [Value.ref _]) _ _ _)); (fail_if_success (with_reducible show wpAny _ _ (call (Value.type "dict") [Value.ref _]) _ _ _)); (try dsimp only); walk1))) | (first | ((with_reducible show ite _ _ _); walk1) | ((with_reducible show _ ∧ _); walk1) | (leave1; (try dsimp only)) | (dsimp only [InvPostN]) | fail "no step")))
        refine wpAny_Try_except ?_
        (repeat' (first | (k_unfold; (try dsimp only)) | ((fail_if_success (with_reducible show wpAny _ _ (setItem _ _ _) _ _ _)); (((with_reducible show wpAny _ _ _ _ _ _); (fail_if_success (with_reducible show wpAny _ _ (exec (Stmt.While _ _ _ _) _) _ _ _)); (fail_if_success (with_reducible show wpAny _ _ (exec (Stmt.Raise _ _ _) _) _ _ _)); (fail_if_success (with_reducible show wpAny _ _ (exec (Stmt.Try _ _ _ _ _) _) _ _ _)); (fail_if_success (with_reducible show wpAny _ _ (exec (Stmt.For _ _ _ _ _) _) _ _ _)); (fail_if_success (with_reducible show wpAny _ _ (call (Value.ref _) _) _ _ _)); (fail_if_success (with_reducible show wpAny _ _ (call (Value.builtin "dict.pop") _) _ _ _)); (fail_if_success (with_reducible show wpAny _ _ (eval (Expr.ListComp _ _ _ _) _) _ _ _)); (fail_if_success (with_reducible show wpAny _ _ (exec (Stmt.Assign _ (Expr.ListComp _ _ _ _) _) _) _ _ _)); (fail_if_success (with_reducible show wpAny _ _ (call (Value.builtin "sorted") _) _ _ _)); (fail_if_success (with_reducible show wpAny _ _ (call (Value.type "list") [Value.ref _]) _ _ _)); (fail_if_success (with_reducible show wpAny _ _ (call (Value.type "dict") [Value.ref _]) _ _ _)); (try dsimp only); walk1))) | (first | ((with_reducible show ite _ _ _); walk1) | ((with_reducible show _ ∧ _); walk1) | (leave1; (try dsimp only)) | (dsimp only [InvPostN]) | fail "no step")))
        have hlt3 : ∀ b ∈ outer.filterMap (·.frame), b < gC.objs.size := fun b hb => by
          obtain ⟨_, ob, e, _⟩ := Heap.FunFrames.mem ffC hb
          exact Heap.lt_size e
        have wa20 : WAt h20 x dx f := ⟨es, n2, (N20 (x, _) (by k_mem)).1, (N20 (dx, _) (by k_mem)).1, fa⟩
        refine chained_ul px (cC.keeps F20.keep) (rm.deep (by decide)) rfl (FF.push F21 ffC (by show ScopeKind.function ≠ ScopeKind.module; decide) rfl) wa20 lw.fF (Heap.dictOf_iff.mpr ⟨oG, (N20 (dF, _) (by k_mem)).1, iG'⟩) lw.loF (by rfl) htx hsp hok hrl (by rw [hP]; exact hk) ?_ ?_ ?_
        · rcases hk3 with e | e | e <;> rw [e] <;> decide
        · rcases hk3 with e | e | e <;> rw [e] <;> decide +kernel
        intro h25 tk25 e25 t25 R25
        (try dsimp only)
        have XE := cE.X
        have TE := cE.T
        have hgf3 : ∀ b ∈ outer.filterMap (·.frame), (holes gC (outer.filterMap (·.frame))).get? b = none := fun b hb => holes_none hb
        have hnf20 := off_frames ffC N20
        refine catchX rfl rfl rfl rfl rfl cE (Fr.holes F21 (outer.filterMap (·.frame))) (News.holes N20 (outer.filterMap (·.frame))) hgf3 hnf20 R25 ?_ ?_
        · intro s1 Q' E' Fs hQ
          (repeat' (first | (k_unfold; (try dsimp only)) | ((fail_if_success (with_reducible show wpAny _ _ (setItem _ _ _) _ _ _)); (((with_reducible show wpAny _ _ _ _ _ _); (fail_if_success (with_reducible show wpAny _ _ (exec (Stmt.While _ _ _ _) _) _ _ _)); (fail_if_success (with_reducible show wpAny _ _ (exec (Stmt.Raise _ _ _) _) _ _ _)); (fail_if_success (with_reducible show wpAny _ _ (exec (Stmt.Try _ _ _ _ _) _) _ _ _)); (fail_if_success (with_reducible show wpAny _ _ (exec (Stmt.For _ _ _ _ _) _) _ _ _)); (fail_if_success (with_reducible show wpAny _ _ (call (Value.ref _) _) _ _ _)); (fail_if_success (with_reducible show wpAny _ _ (call (Value.builtin "dict.pop") _) _ _ _)); (fail_if_success (with_reducible show wpAny _ _ (eval (Expr.ListComp _ _ _ _) _) _ _ _)); (fail_if_success (with_reducible show wpAny _ _ (exec (Stmt.Assign _ (Expr.ListComp _ _ _ _) _) _) _ _ _)); (fail_if_success (with_reducible show wpAny _ _ (call (Value.builtin "sorted") _) _ _ _)); (fail_if_success (with_reducible show wpAny _ _ (call (Value.type "list") [Value.ref _]) _ _ _)); (fail_if_success (with_reducible show wpAny _ _ (call (Value.type "dict") [Value.ref _]) _ _ _)); (try dsimp only); walk1))) | (first | ((with_reducible show ite _ _ _); walk1) | ((with_reducible show _ ∧ _); walk1) | (leave1; (try dsimp only)) | (dsimp only [InvPostN]) | fail "no step")))
          exact hQ
        intro h26 tk26 oe2 dxe2 ode2 F26 N26 ge26 ne26 ff26
        (repeat' (first | (k_unfold; (try dsimp only)) | ((fail_if_success (with_reducible show wpAny _ _ (setItem _ _ _) _ _ _)); (((with_reducible show wpAny _ _ _ _ _ _); (fail_if_success (with_reducible show wpAny _ _ (exec (Stmt.While _ _ _ _) _) _ _ _)); (fail_if_success (with_reducible show wpAny _ _ (exec (Stmt.Raise _ _ _) _) _ _ _)); (fail_if_success (with_reducible show wpAny _ _ (exec (Stmt.Try _ _ _ _ _) _) _ _ _)); (fail_if_success (with_reducible show wpAny _ _ (exec (Stmt.For _ _ _ _ _) _) _ _ _)); (fail_if_success (with_reducible show wpAny _ _ (call (Value.ref _) _) _ _ _)); (fail_if_success (with_reducible show wpAny _ _ (call (Value.builtin "dict.pop") _) _ _ _)); (fail_if_success (with_reducible show wpAny _ _ (eval (Expr.ListComp _ _ _ _) _) _ _ _)); (fail_if_success (with_reducible show wpAny _ _ (exec (Stmt.Assign _ (Expr.ListComp _ _ _ _) _) _) _ _ _)); (fail_if_success (with_reducible show wpAny _ _ (call (Value.builtin "sorted") _) _ _ _)); (fail_if_success (with_reducible show wpAny _ _ (call (Value.type "list") [Value.ref _]) _ _ _)); (fail_if_success (with_reducible show wpAny _ _ (call (Value.type "dict") [Value.ref _]) _ _ _)); (try dsimp only); walk1))) | (first | ((with_reducible show ite _ _ _); walk1) | ((with_reducible show _ ∧ _); walk1) | (leave1; (try dsimp only)) | (dsimp only [InvPostN]) | fail "no step")))
        refine got_code cE F26 N26 (.head _) (.tail _ (.head _)) ge26 ?_
        (try dsimp only)
        (repeat' (first | (k_unfold; (try dsimp only)) | ((fail_if_success (with_reducible show wpAny _ _ (setItem _ _ _) _ _ _)); (((with_reducible show wpAny _ _ _ _ _ _); (fail_if_success (with_reducible show wpAny _ _ (exec (Stmt.While _ _ _ _) _) _ _ _)); (fail_if_success (with_reducible show wpAny _ _ (exec (Stmt.Raise _ _ _) _) _ _ _)); (fail_if_success (with_reducible show wpAny _ _ (exec (Stmt.Try _ _ _ _ _) _) _ _ _)); (fail_if_success (with_reducible show wpAny _ _ (exec (Stmt.For _ _ _ _ _) _) _ _ _)); (fail_if_success (with_reducible show wpAny _ _ (call (Value.ref _) _) _ _ _)); (fail_if_success (with_reducible show wpAny _ _ (call (Value.builtin "dict.pop") _) _ _ _)); (fail_if_success (with_reducible show wpAny _ _ (eval (Expr.ListComp _ _ _ _) _) _ _ _)); (fail_if_success (with_reducible show wpAny _ _ (exec (Stmt.Assign _ (Expr.ListComp _ _ _ _) _) _) _ _ _)); (fail_if_success (with_reducible show wpAny _ _ (call (Value.builtin "sorted") _) _ _ _)); (fail_if_success (with_reducible show wpAny _ _ (call (Value.type "list") [Value.ref _]) _ _ _)); (fail_if_success (with_reducible show wpAny _ _ (call (Value.type "dict") [Value.ref _]) _ _ _)); (try dsimp only); walk1))) | (first | ((with_reducible show ite _ _ _); walk1) | ((with_reducible show _ ∧ _); walk1) | (leave1; (try dsimp only)) | (dsimp only [InvPostN]) | fail "no step")))
        refine held_spec (cE.keeps F26.keep) (rm.hd (by decide)) (rm.hu (by decide)) ⟨es, n2, (N26 (x, _) (by k_mem)).1, (N26 (dx, _) (by k_mem)).1, fa⟩ lw.fN lw.fA lw.fD hfS hfH lw.fO hfR lw.fC ?_
        intro h27 tk27 DG2 k27 nH27 hH27
        obtain ⟨F27, N27, ne27⟩ := news_add F26 N26 k27 nH27 hH27
        (try dsimp only)
        walk1
        (try dsimp only)
        have q27 : HeldEq prog w h27 aN aA d1 d2 kvN kvA := ⟨Heap.dictOf_iff.mpr ⟨oN, (N27 (aN, _) (by k_mem)).1, lw.iN⟩, Heap.dictOf_iff.mpr ⟨oA, (N27 (aA, _) (by k_mem)).1, lw.iA⟩, Heap.dictOf_iff.mpr ⟨od1, (N27 (d1, _) (by k_mem)).1, i1⟩, Heap.dictOf_iff.mpr ⟨od2, (N27 (d2, _) (by k_mem)).1, i2⟩, lw.loN, lw.loA, lo1, lo2⟩
        refine eqw_lists (items := #[.ref aN, .ref aA, .ref lD, .int 1 tS, .int 40 tH, .ref lO, .str (Str.ofString "two") tR, .ref lC]) (items2 := #[.ref d1, .ref d2, .ref lD, .int 1 tS, .int 40 tH, .ref lO, .str (Str.ofString "two") tR, .ref lC])
          ⟨_, (N27 (DG2, _) (.head _)).1, rfl, _, rfl⟩ ⟨_, (N27 (D5, _) (by k_mem)).1, rfl, _, rfl⟩ rfl ?_ (q27.each ?_) ?_
        · show au + 3 < _; omega
        · show au + 3 + 1 < _; omega
        clear q27
        (try dsimp only)
        (repeat' (first | (k_unfold; (try dsimp only)) | ((fail_if_success (with_reducible show wpAny _ _ (setItem _ _ _) _ _ _)); (((with_reducible show wpAny _ _ _ _ _ _); (fail_if_success (with_reducible show wpAny _ _ (exec (Stmt.While _ _ _ _) _) _ _ _)); (fail_if_success (with_reducible show wpAny _ _ (exec (Stmt.Raise _ _ _) _) _ _ _)); (fail_if_success (with_reducible show wpAny _ _ (exec (Stmt.Try _ _ _ _ _) _) _ _ _)); (fail_if_success (with_reducible show wpAny _ _ (exec (Stmt.For _ _ _ _ _) _) _ _ _)); (fail_if_success (with_reducible show wpAny _ _ (call (Value.ref _) _) _ _ _)); (fail_if_success (with_reducible show wpAny _ _ (call (Value.builtin "dict.pop") _) _ _ _)); (fail_if_success (with_reducible show wpAny _ _ (eval (Expr.ListComp _ _ _ _) _) _ _ _)); (fail_if_success (with_reducible show wpAny _ _ (exec (Stmt.Assign _ (Expr.ListComp _ _ _ _) _) _) _ _ _)); (fail_if_success (with_reducible show wpAny _ _ (call (Value.builtin "sorted") _) _ _ _)); (fail_if_success (with_reducible show wpAny _ _ (call (Value.type "list") [Value.ref _]) _ _ _)); (fail_if_success (with_reducible show wpAny _ _ (call (Value.type "dict") [Value.ref _]) _ _ _)); (try dsimp only); walk1))) | (first | ((with_reducible show ite _ _ _); walk1) | ((with_reducible show _ ∧ _); walk1) | (leave1; (try dsimp only)) | (dsimp only [InvPostN]) | fail "no step")))
        refine wpAny_nameGoes_keeps rfl F27.ns rfl ?_
        intro h28 v28 hn28 hs28
        (try dsimp only)
        exact h _ _ fun b o e => (Fr.set F27 hn28 hs28).keep b o (kC b o e)
  case rest0 =>
    intro tk30 hin
    (try dsimp only)
    (repeat' (first | (k_unfold; (try dsimp only)) | ((fail_if_success (with_reducible show wpAny _ _ (setItem _ _ _) _ _ _)); (fail_if_success (with_reducible show wpAny _ _ (eval (Expr.IfExp _ _ _ _) _) _ _ _)); (((with_reducible show wpAny _ _ _ _ _ _); (fail_if_success (with_reducible show wpAny _ _ (exec (Stmt.While _ _ _ _) _) _ _ _)); (fail_if_success (with_reducible show wpAny _ _ (exec (Stmt.Raise _ _ _) _) _ _ _)); (fail_if_success (with_reducible show wpAny _ _ (exec (Stmt.Try _ _ _ _ _) _) _ _ _)); (fail_if_success (with_reducible show wpAny _ _ (exec (Stmt.For _ _ _ _ _) _) _ _ _)); (fail_if_success (with_reducible show wpAny _ _ (call (Value.ref _) _) _ _ _)); (fail_if_success (with_reducible show wpAny _ _ (call (Value.builtin "dict.pop") _) _ _ _)); (fail_if_success (with_reducible show wpAny _ _ (eval (Expr.ListComp _ _ _ _) _) _ _ _)); (fail_if_success (with_reducible show wpAny _ _ (exec (Stmt.Assign _ (Expr.ListComp _ _ _ _) _) _) _ _ _)); (fail_if_success (with_reducible show wpAny _ _ (call (Value.builtin "sorted") _) _ _ _)); (fail_if_success (with_reducible show wpAny _ _ (call (Value.type "list") [Value.ref _]) _ _ _)); (fail_if_success (with_reducible show wpAny _ _ (call (Value.type "dict") [Value.ref _]) _ _ _)); (try dsimp only); walk1))) | (first | ((with_reducible show ite _ _ _); walk1) | ((with_reducible show _ ∧ _); walk1) | (leave1; (try dsimp only)) | (dsimp only [InvPostN]) | fail "no step")))
    refine Eval_join F20 N20 (LeastV P) ?_ ?_
    · intro hj
      (repeat' (first | (k_unfold; (try dsimp only)) | ((fail_if_success (with_reducible show wpAny _ _ (setItem _ _ _) _ _ _)); (((with_reducible show wpAny _ _ _ _ _ _); (fail_if_success (with_reducible show wpAny _ _ (exec (Stmt.While _ _ _ _) _) _ _ _)); (fail_if_success (with_reducible show wpAny _ _ (exec (Stmt.Raise _ _ _) _) _ _ _)); (fail_if_success (with_reducible show wpAny _ _ (exec (Stmt.Try _ _ _ _ _) _) _ _ _)); (fail_if_success (with_reducible show wpAny _ _ (exec (Stmt.For _ _ _ _ _) _) _ _ _)); (fail_if_success (with_reducible show wpAny _ _ (call (Value.ref _) _) _ _ _)); (fail_if_success (with_reducible show wpAny _ _ (call (Value.builtin "dict.pop") _) _ _ _)); (fail_if_success (with_reducible show wpAny _ _ (eval (Expr.ListComp _ _ _ _) _) _ _ _)); (fail_if_success (with_reducible show wpAny _ _ (exec (Stmt.Assign _ (Expr.ListComp _ _ _ _) _) _) _ _ _)); (fail_if_success (with_reducible show wpAny _ _ (call (Value.builtin "sorted") _) _ _ _)); (fail_if_success (with_reducible show wpAny _ _ (call (Value.type "list") [Value.ref _]) _ _ _)); (fail_if_success (with_reducible show wpAny _ _ (call (Value.type "dict") [Value.ref _]) _ _ _)); (try dsimp only); walk1))) | (first | ((with_reducible show ite _ _ _); walk1) | ((with_reducible show _ ∧ _); walk1) | (leave1; (try dsimp only)) | (dsimp only [InvPostN]) | fail "no step")))
      rename Fr _ _ _ _ => F31
      rename News _ _ _ _ => N31
      refine prog_ne_nil (pdC.keep fun b o e => F31.keep b o (holes_some.mp e).1) (N31 _ (.head _)).1 (by assumption) (by assumption) ?_ ?_
      · show au + 3 < _; omega
      by_cases hP0 : P = []
      · rw [decide_eq_false (not_not_intro hP0)]
        (try dsimp only)
        (repeat' (first | (k_unfold; (try dsimp only)) | ((fail_if_success (with_reducible show wpAny _ _ (setItem _ _ _) _ _ _)); (fail_if_success (with_reducible show wpAny _ _ (storeName _ _ _) _ _ _)); (fail_if_success (with_reducible show wpAny _ _ (spliced _) _ _ _)); (((with_reducible show wpAny _ _ _ _ _ _); (fail_if_success (with_reducible show wpAny _ _ (exec (Stmt.While _ _ _ _) _) _ _ _)); (fail_if_success (with_reducible show wpAny _ _ (exec (Stmt.Raise _ _ _) _) _ _ _)); (fail_if_success (with_reducible show wpAny _ _ (exec (Stmt.Try _ _ _ _ _) _) _ _ _)); (fail_if_success (with_reducible show wpAny _ _ (exec (Stmt.For _ _ _ _ _) _) _ _ _)); (fail_if_success (with_reducible show wpAny _ _ (call (Value.ref _) _) _ _ _)); (fail_if_success (with_reducible show wpAny _ _ (call (Value.builtin "dict.pop") _) _ _ _)); (fail_if_success (with_reducible show wpAny _ _ (eval (Expr.ListComp _ _ _ _) _) _ _ _)); (fail_if_success (with_reducible show wpAny _ _ (exec (Stmt.Assign _ (Expr.ListComp _ _ _ _) _) _) _ _ _)); (fail_if_success (with_reducible show wpAny _ _ (call (Value.builtin "sorted") _) _ _ _)); (fail_if_success (with_reducible show wpAny _ _ (call (Value.type "list") [Value.ref _]) _ _ _)); (fail_if_success (with_reducible show wpAny _ _ (call (Value.type "dict") [Value.ref _]) _ _ _)); (try dsimp only); walk1))) | (first | ((with_reducible show ite _ _ _); walk1) | ((with_reducible show _ ∧ _); walk1) | (leave1; (try dsimp only)) | (dsimp only [InvPostN]) | fail "no step")))
        rename Fr _ _ _ _ => F32
        rename News _ _ _ _ => N32
        exact hj _ _ _ F32 (fun p hp => N32 p (.tail _ hp)) (.inl ⟨hP0, rfl⟩)
      · rw [decide_eq_true hP0]
        (try dsimp only)
        (repeat' (first | (k_unfold; (try dsimp only)) | ((fail_if_success (with_reducible show wpAny _ _ (setItem _ _ _) _ _ _)); (((with_reducible show wpAny _ _ _ _ _ _); (fail_if_success (with_reducible show wpAny _ _ (exec (Stmt.While _ _ _ _) _) _ _ _)); (fail_if_success (with_reducible show wpAny _ _ (exec (Stmt.Raise _ _ _) _) _ _ _)); (fail_if_success (with_reducible show wpAny _ _ (exec (Stmt.Try _ _ _ _ _) _) _ _ _)); (fail_if_success (with_reducible show wpAny _ _ (exec (Stmt.For _ _ _ _ _) _) _ _ _)); (fail_if_success (with_reducible show wpAny _ _ (call (Value.ref _) _) _ _ _)); (fail_if_success (with_reducible show wpAny _ _ (call (Value.builtin "dict.pop") _) _ _ _)); (fail_if_success (with_reducible show wpAny _ _ (eval (Expr.ListComp _ _ _ _) _) _ _ _)); (fail_if_success (with_reducible show wpAny _ _ (exec (Stmt.Assign _ (Expr.ListComp _ _ _ _) _) _) _ _ _)); (fail_if_success (with_reducible show wpAny _ _ (call (Value.builtin "sorted") _) _ _ _)); (fail_if_success (with_reducible show wpAny _ _ (call (Value.type "list") [Value.ref _]) _ _ _)); (fail_if_success (with_reducible show wpAny _ _ (call (Value.type "dict") [Value.ref _]) _ _ _)); (try dsimp only); walk1))) | (first | ((with_reducible show ite _ _ _); walk1) | ((with_reducible show _ ∧ _); walk1) | (leave1; (try dsimp only)) | (dsimp only [InvPostN]) | fail "no step")))
        rename Fr _ _ _ _ => F32
        rename News _ _ _ _ => N32
        refine prog_min rfl (pdC.keep fun b o e => F32.keep b o (holes_some.mp e).1) hP0 ?_
        intro h33 M tM tk33 k33 hM1 hM2
        exact hj _ _ _ (F32.keeps k33) (fun p hp => N32.grown k33 p (.tail _ hp)) (.inr ⟨M, tM, rfl, hM1, hM2⟩)
    · intro h30 tk31 v30 F30 N30 hv30
      clear F20 N20
      (try dsimp only)
      (repeat' (first | (k_unfold; (try dsimp only)) | ((fail_if_success (with_reducible show wpAny _ _ (setItem _ _ _) _ _ _)); (fail_if_success (with_reducible show wpAny _ _ (eval (Expr.IfExp _ _ _ _) _) _ _ _)); (((with_reducible show wpAny _ _ _ _ _ _); (fail_if_success (with_reducible show wpAny _ _ (exec (Stmt.While _ _ _ _) _) _ _ _)); (fail_if_success (with_reducible show wpAny _ _ (exec (Stmt.Raise _ _ _) _) _ _ _)); (fail_if_success (with_reducible show wpAny _ _ (exec (Stmt.Try _ _ _ _ _) _) _ _ _)); (fail_if_success (with_reducible show wpAny _ _ (exec (Stmt.For _ _ _ _ _) _) _ _ _)); (fail_if_success (with_reducible show wpAny _ _ (call (Value.ref _) _) _ _ _)); (fail_if_success (with_reducible show wpAny _ _ (call (Value.builtin "dict.pop") _) _ _ _)); (fail_if_success (with_reducible show wpAny _ _ (eval (Expr.ListComp _ _ _ _) _) _ _ _)); (fail_if_success (with_reducible show wpAny _ _ (exec (Stmt.Assign _ (Expr.ListComp _ _ _ _) _) _) _ _ _)); (fail_if_success (with_reducible show wpAny _ _ (call (Value.builtin "sorted") _) _ _ _)); (fail_if_success (with_reducible show wpAny _ _ (call (Value.type "list") [Value.ref _]) _ _ _)); (fail_if_success (with_reducible show wpAny _ _ (call (Value.type "dict") [Value.ref _]) _ _ _)); (try dsimp only); walk1))) | (first | ((with_reducible show ite _ _ _); walk1) | ((with_reducible show _ ∧ _); walk1) | (leave1; (try dsimp only)) | (dsimp only [InvPostN]) | fail "no step")))
      rename Fr _ _ _ _ => F34
      rename News _ _ _ _ => N34
      have U34 := updF_nd (d := dx) (o := W.dictOf es n2) (post := [(dF, oG), (sp, o12)]) [(L + 1, o9), (L + 1 + 1, o10), (DK, W.listOf vC.toArray cK), (D5, LCg.lst [.ref d1, .ref d2, .ref lD, .int 1 tS, .int 40 tH, .ref lO, .str (Str.ofString "two") tR, .ref lC]), (d2, od2), (d1, od1), (lD, oD), (lO, oO), (lC, oC), (aA, oA), (aN, oN), (x, instObj 133 dx)] nd7
      have own34 := nd_own (c := dx) (own := [(L + 1, o9), (L + 1 + 1, o10), (DK, W.listOf vC.toArray cK), (D5, LCg.lst [.ref d1, .ref d2, .ref lD, .int 1 tS, .int 40 tH, .ref lO, .str (Str.ofString "two") tR, .ref lC]), (d2, od2), (d1, od1), (lD, oD), (lO, oO), (lC, oC), (aA, oA), (aN, oN), (x, instObj 133 dx)]) (rest := [(dF, oG), (sp, o12)]) nd7
      have rest34 := nd_rest (c := dx) (own := [(L + 1, o9), (L + 1 + 1, o10), (DK, W.listOf vC.toArray cK), (D5, LCg.lst [.ref d1, .ref d2, .ref lD, .int 1 tS, .int 40 tH, .ref lO, .str (Str.ofString "two") tR, .ref lC]), (d2, od2), (d1, od1), (lD, oD), (lO, oO), (lC, oC), (aA, oA), (aN, oN), (x, instObj 133 dx)]) (rest := [(dF, oG), (sp, o12)]) nd7
      have hm34 : (dx, W.dictOf es n2) ∈ [(L + 1, o9), (L + 1 + 1, o10), (DK, W.listOf vC.toArray cK), (D5, LCg.lst [.ref d1, .ref d2, .ref lD, .int 1 tS, .int 40 tH, .ref lO, .str (Str.ofString "two") tR, .ref lC]), (d2, od2), (d1, od1), (lD, oD), (lO, oO), (lC, oC), (aA, oA), (aN, oN), (x, instObj 133 dx), (dx, W.dictOf es n2), (dF, oG), (sp, o12)] := by k_mem
      have hov := News.over F34 N34 (as := [dx]) fun a ha => ⟨W.dictOf es n2, List.mem_singleton.mp ha ▸ hm34⟩
      have hat := fun (p : Addr × Obj) (hp : p ∈ [(L + 1, o9), (L + 1 + 1, o10), (DK, W.listOf vC.toArray cK), (D5, LCg.lst [.ref d1, .ref d2, .ref lD, .int 1 tS, .int 40 tH, .ref lO, .str (Str.ofString "two") tR, .ref lC]), (d2, od2), (d1, od1), (lD, oD), (lO, oO), (lC, oC), (aA, oA), (aN, oN), (x, instObj 133 dx), (dx, W.dictOf es n2), (dF, oG), (sp, o12)]) (ne : p.1 ≠ dx) => (holes_some (as := [dx])).mpr ⟨(N34 p hp).1, fun q => ne (List.mem_singleton.mp q)⟩
      refine chained_ok (cC.keeps hov) (rm.deep (by decide)) (On.hole1 N34 hm34) (hat (x, _) (by k_mem) (own34 (x, _) (by k_mem))) fa all lw.fN lw.fA lw.fF lw.fC (Heap.dictOf_iff.mpr ⟨oN, hat (aN, _) (by k_mem) (own34 (aN, _) (by k_mem)), lw.iN⟩) lw.loN (Heap.dictOf_iff.mpr ⟨oA, hat (aA, _) (by k_mem) (own34 (aA, _) (by k_mem)), lw.iA⟩) lw.loA
        (vs := vC) ⟨oC, hat (lC, _) (by k_mem) (own34 (lC, _) (by k_mem)), by rw [lw.iC], vC.length, by rw [lw.iC]⟩ lw.sC (Nat.le_trans lw.lC (by decide)) (fun y hy => words5_len y (lw.mC y hy)) (Heap.dictOf_iff.mpr ⟨oG, hat (dF, _) (by k_mem) (rest34 (dF, _) (by k_mem)), iG'⟩) lw.loF (by rfl) htx hsp hok hrl few (by rw [hP]; exact hin) ?_
      rw [hP]
      intro h35 tk35 es35 n35 f35 aT aP oP aN2 oN2 aA2 oA2 lD2 lC2 v35 on35 fa35 all35 fN35 fA35 fD35 fS35 fH35 fC35 fO35 fR35 fF35 iN35 iA35 loN35 loA35 pP hb35 nes
      obtain ⟨F35, N35⟩ := On.back1x (led := [(aT, { cls := .type "tuple", data := .seq #[.ref aP, v35] }), (aP, oP), (aN2, oN2), (aA2, oA2), (lD2, W.listOf #[] 0), (lC2, W.listOf #[] 0)]) F34 N34 U34 on35 (by
        intro p hp
        refine nes p.1 ?_
        have := List.mem_map_of_mem (f := fun q : Addr × Obj => q.1) hp
        exact this)
      dsimp only [List.cons_append, List.nil_append] at N35
      obtain ⟨loP, kvP, hdP, asP, prP⟩ := pP
      obtain ⟨oP', eP1, iP⟩ := Heap.dictOf_iff.mp hdP
      obtain rfl : oP' = oP := by
        have q := (N35 (aP, oP) (by k_mem)).1
        rw [eP1] at q
        exact Option.some.inj q
      clear F34 N34 U34 own34 rest34 hm34 hov hat on35 nes hdP eP1
      (try dsimp only)
      (repeat' (first | (k_unfold; (try dsimp only)) | ((fail_if_success (with_reducible show wpAny _ _ (setItem _ _ _) _ _ _)); (fail_if_success (with_reducible show wpAny _ _ (eval (Expr.IfExp _ _ _ _) _) _ _ _)); (((with_reducible show wpAny _ _ _ _ _ _); (fail_if_success (with_reducible show wpAny _ _ (exec (Stmt.While _ _ _ _) _) _ _ _)); (fail_if_success (with_reducible show wpAny _ _ (exec (Stmt.Raise _ _ _) _) _ _ _)); (fail_if_success (with_reducible show wpAny _ _ (exec (Stmt.Try _ _ _ _ _) _) _ _ _)); (fail_if_success (with_reducible show wpAny _ _ (exec (Stmt.For _ _ _ _ _) _) _ _ _)); (fail_if_success (with_reducible show wpAny _ _ (call (Value.ref _) _) _ _ _)); (fail_if_success (with_reducible show wpAny _ _ (call (Value.builtin "dict.pop") _) _ _ _)); (fail_if_success (with_reducible show wpAny _ _ (eval (Expr.ListComp _ _ _ _) _) _ _ _)); (fail_if_success (with_reducible show wpAny _ _ (exec (Stmt.Assign _ (Expr.ListComp _ _ _ _) _) _) _ _ _)); (fail_if_success (with_reducible show wpAny _ _ (call (Value.builtin "sorted") _) _ _ _)); (fail_if_success (with_reducible show wpAny _ _ (call (Value.type "list") [Value.ref _]) _ _ _)); (fail_if_success (with_reducible show wpAny _ _ (call (Value.type "dict") [Value.ref _]) _ _ _)); (try dsimp only); walk1))) | (first | ((with_reducible show ite _ _ _); walk1) | ((with_reducible show _ ∧ _); walk1) | (leave1; (try dsimp only)) | (dsimp only [InvPostN]) | fail "no step")))
      rename Fr _ _ _ _ => F36
      rename News _ _ _ _ => N36
      refine Eval_join F36 N36 (VEq v35) ?_ ?_
      · intro hj
        rcases hin with e0 | ⟨k, tl, e0, hk⟩
        · have F37 := e0 ▸ F36
          rw [e0] at hb35
          (repeat' (first | (k_unfold; (try dsimp only)) | ((fail_if_success (with_reducible show wpAny _ _ (setItem _ _ _) _ _ _)); (fail_if_success (with_reducible show wpAny _ _ (storeName _ _ _) _ _ _)); (fail_if_success (with_reducible show wpAny _ _ (spliced _) _ _ _)); (((with_reducible show wpAny _ _ _ _ _ _); (fail_if_success (with_reducible show wpAny _ _ (exec (Stmt.While _ _ _ _) _) _ _ _)); (fail_if_success (with_reducible show wpAny _ _ (exec (Stmt.Raise _ _ _) _) _ _ _)); (fail_if_success (with_reducible show wpAny _ _ (exec (Stmt.Try _ _ _ _ _) _) _ _ _)); (fail_if_success (with_reducible show wpAny _ _ (exec (Stmt.For _ _ _ _ _) _) _ _ _)); (fail_if_success (with_reducible show wpAny _ _ (call (Value.ref _) _) _ _ _)); (fail_if_success (with_reducible show wpAny _ _ (call (Value.builtin "dict.pop") _) _ _ _)); (fail_if_success (with_reducible show wpAny _ _ (eval (Expr.ListComp _ _ _ _) _) _ _ _)); (fail_if_success (with_reducible show wpAny _ _ (exec (Stmt.Assign _ (Expr.ListComp _ _ _ _) _) _) _ _ _)); (fail_if_success (with_reducible show wpAny _ _ (call (Value.builtin "sorted") _) _ _ _)); (fail_if_success (with_reducible show wpAny _ _ (call (Value.type "list") [Value.ref _]) _ _ _)); (fail_if_success (with_reducible show wpAny _ _ (call (Value.type "dict") [Value.ref _]) _ _ _)); (try dsimp only); walk1))) | (first | ((with_reducible show ite _ _ _); walk1) | ((with_reducible show _ ∧ _); walk1) | (leave1; (try dsimp only)) | (dsimp only [InvPostN]) | fail "no step")))
          exact hj _ _ _ F36 N36 (begins_none hb35 hv30)
        · have F37 := e0 ▸ F36
          have ev := begins_int hb35 e0
          (repeat' (first | (k_unfold; (try dsimp only)) | ((fail_if_success (with_reducible show wpAny _ _ (setItem _ _ _) _ _ _)); (fail_if_success (with_reducible show wpAny _ _ (storeName _ _ _) _ _ _)); (fail_if_success (with_reducible show wpAny _ _ (spliced _) _ _ _)); (((with_reducible show wpAny _ _ _ _ _ _); (fail_if_success (with_reducible show wpAny _ _ (exec (Stmt.While _ _ _ _) _) _ _ _)); (fail_if_success (with_reducible show wpAny _ _ (exec (Stmt.Raise _ _ _) _) _ _ _)); (fail_if_success (with_reducible show wpAny _ _ (exec (Stmt.Try _ _ _ _ _) _) _ _ _)); (fail_if_success (with_reducible show wpAny _ _ (exec (Stmt.For _ _ _ _ _) _) _ _ _)); (fail_if_success (with_reducible show wpAny _ _ (call (Value.ref _) _) _ _ _)); (fail_if_success (with_reducible show wpAny _ _ (call (Value.builtin "dict.pop") _) _ _ _)); (fail_if_success (with_reducible show wpAny _ _ (eval (Expr.ListComp _ _ _ _) _) _ _ _)); (fail_if_success (with_reducible show wpAny _ _ (exec (Stmt.Assign _ (Expr.ListComp _ _ _ _) _) _) _ _ _)); (fail_if_success (with_reducible show wpAny _ _ (call (Value.builtin "sorted") _) _ _ _)); (fail_if_success (with_reducible show wpAny _ _ (call (Value.type "list") [Value.ref _]) _ _ _)); (fail_if_success (with_reducible show wpAny _ _ (call (Value.type "dict") [Value.ref _]) _ _ _)); (try dsimp only); walk1))) | (first | ((with_reducible show ite _ _ _); walk1) | ((with_reducible show _ ∧ _); walk1) | (leave1; (try dsimp only)) | (dsimp only [InvPostN]) | fail "no step")))
          exact hj _ _ _ F36 N36 (.inl ev)
      · intro h37 tk37 v37 F37 N37 hv37
        clear F36 N36
        (try dsimp only)
        (repeat' (first | (k_unfold; (try dsimp only)) | ((fail_if_success (with_reducible show wpAny _ _ (setItem _ _ _) _ _ _)); (((with_reducible show wpAny _ _ _ _ _ _); (fail_if_success (with_reducible show wpAny _ _ (exec (Stmt.While _ _ _ _) _) _ _ _)); (fail_if_success (with_reducible show wpAny _ _ (exec (Stmt.Raise _ _ _) _) _ _ _)); (fail_if_success (with_reducible show wpAny _ _ (exec (Stmt.Try _ _ _ _ _) _) _ _ _)); (fail_if_success (with_reducible show wpAny _ _ (exec (Stmt.For _ _ _ _ _) _) _ _ _)); (fail_if_success (with_reducible show wpAny _ _ (call (Value.ref _) _) _ _ _)); (fail_if_success (with_reducible show wpAny _ _ (call (Value.builtin "dict.pop") _) _ _ _)); (fail_if_success (with_reducible show wpAny _ _ (eval (Expr.ListComp _ _ _ _) _) _ _ _)); (fail_if_success (with_reducible show wpAny _ _ (exec (Stmt.Assign _ (Expr.ListComp _ _ _ _) _) _) _ _ _)); (fail_if_success (with_reducible show wpAny _ _ (call (Value.builtin "sorted") _) _ _ _)); (fail_if_success (with_reducible show wpAny _ _ (call (Value.type "list") [Value.ref _]) _ _ _)); (fail_if_success (with_reducible show wpAny _ _ (call (Value.type "dict") [Value.ref _]) _ _ _)); (try dsimp only); walk1))) | (first | ((with_reducible show ite _ _ _); walk1) | ((with_reducible show _ ∧ _); walk1) | (leave1; (try dsimp only)) | (dsimp only [InvPostN]) | fail "no step")))
        rename Fr _ _ _ _ => F38
        rename News _ _ _ _ => N38
        have p38 : ProgAt prog w _ aP P := ⟨loP, kvP, Heap.dictOf_iff.mpr ⟨oP', (N38 (aP, oP') (by k_mem)).1, iP⟩, asP, prP⟩
        have d38 : ProgAt prog w _ d P := pdC.keep fun b o e => F38.keep b o (holes_some.mp e).1
        refine new_pairs (l := aT) ⟨_, (N38 (aT, _) (by k_mem)).1, rfl, _, rfl⟩ ⟨_, (N38 (_, _) (.head _)).1, rfl, _, rfl⟩ ?_ (progs_eqW p38 d38 ?_ fun _ => rfl) (VEq.eqW hv37) ?_
        · show au + 3 < _; omega
        · show au + 3 + 1 < _; omega
        clear p38 d38
        have N39 := news_sub (l' := [(L + 1, o9), (L + 1 + 1, o10), (DK, W.listOf vC.toArray cK), (D5, LCg.lst [.ref d1, .ref d2, .ref lD, .int 1 tS, .int 40 tH, .ref lO, .str (Str.ofString "two") tR, .ref lC]), (d1, od1), (d2, od2), (aN2, oN2), (aA2, oA2), (lD2, W.listOf #[] 0), (lC2, W.listOf #[] 0), (lO, oO), (x, instObj 133 dx), (dx, W.dictOf es35 n35), (dF, oG)]) N38 (by (((repeat' (first | exact all_nil | refine all_cons ?_ ?_)) <;> first | k_mem | (exact fun p hp => by repeat (first | exact hp | exact List.mem_append_left _ hp | apply List.Mem.tail)))))
        clear N38
        (try dsimp only)
        (repeat' (first | (k_unfold; (try dsimp only)) | ((fail_if_success (with_reducible show wpAny _ _ (setItem _ _ _) _ _ _)); (((with_reducible show wpAny _ _ _ _ _ _); (fail_if_success (with_reducible show wpAny _ _ (exec (Stmt.While _ _ _ _) _) _ _ _)); (fail_if_success (with_reducible show wpAny _ _ (exec (Stmt.Raise _ _ _) _) _ _ _)); (fail_if_success (with_reducible show wpAny _ _ (exec (Stmt.Try _ _ _ _ _) _) _ _ _)); (fail_if_success (with_reducible show wpAny _ _ (exec (Stmt.For _ _ _ _ _) _) _ _ _)); (fail_if_success (with_reducible show wpAny _ _ (call (Value.ref _) _) _ _ _)); (fail_if_success (with_reducible show wpAny _ _ (call (Value.builtin "dict.pop") _) _ _ _)); (fail_if_success (with_reducible show wpAny _ _ (eval (Expr.ListComp _ _ _ _) _) _ _ _)); (fail_if_success (with_reducible show wpAny _ _ (exec (Stmt.Assign _ (Expr.ListComp _ _ _ _) _) _) _ _ _)); (fail_if_success (with_reducible show wpAny _ _ (call (Value.builtin "sorted") _) _ _ _)); (fail_if_success (with_reducible show wpAny _ _ (call (Value.type "list") [Value.ref _]) _ _ _)); (fail_if_success (with_reducible show wpAny _ _ (call (Value.type "dict") [Value.ref _]) _ _ _)); (try dsimp only); walk1))) | (first | ((with_reducible show ite _ _ _); walk1) | ((with_reducible show _ ∧ _); walk1) | (leave1; (try dsimp only)) | (dsimp only [InvPostN]) | fail "no step")))
        have l1N : kvN.length ≤ 4 := lw.lN
        have l1A : kvA.length ≤ 2 := lw.lA
        generalize hrest : [(aN2, oN2), (aA2, oA2), (lD2, W.listOf #[] 0), (lC2, W.listOf #[] 0), (lO, oO), (x, instObj 133 dx), (dx, W.dictOf es35 n35), (dF, oG)] = rest at N39
        refine ListComp_J gC L (fun y => if y = Str.ofString "least" then some v30 else if y = Str.ofString "wrong" then v18 else if y = Str.ofString "wrong" then some (.ref e) else if y = Str.ofString "line" then some line else if y = Str.ofString "world" then some (.ref x) else if y = Str.ofString "program" then some (.ref d) else if y = Str.ofString "text" then some (.str tx tt) else if y = Str.ofString "spool" then some (.ref sp) else none) (by with_unfolding_all rfl) (by decide) (by rfl) (by decide) (by rfl) ?_
        (repeat' (first | (k_unfold; (try dsimp only)) | ((fail_if_success (with_reducible show wpAny _ _ (setItem _ _ _) _ _ _)); (fail_if_success (with_reducible show wpAny _ _ (subscriptTail _ _ _ _) _ _ _)); (fail_if_success (with_reducible show wpAny _ _ (compareOp _ _ _) _ _ _)); (((with_reducible show wpAny _ _ _ _ _ _); (fail_if_success (with_reducible show wpAny _ _ (exec (Stmt.While _ _ _ _) _) _ _ _)); (fail_if_success (with_reducible show wpAny _ _ (exec (Stmt.Raise _ _ _) _) _ _ _)); (fail_if_success (with_reducible show wpAny _ _ (exec (Stmt.Try _ _ _ _ _) _) _ _ _)); (fail_if_success (with_reducible show wpAny _ _ (exec (Stmt.For _ _ _ _ _) _) _ _ _)); (fail_if_success (with_reducible show wpAny _ _ (call (Value.ref _) _) _ _ _)); (fail_if_success (with_reducible show wpAny _ _ (call (Value.builtin "dict.pop") _) _ _ _)); (fail_if_success (with_reducible show wpAny _ _ (eval (Expr.ListComp _ _ _ _) _) _ _ _)); (fail_if_success (with_reducible show wpAny _ _ (exec (Stmt.Assign _ (Expr.ListComp _ _ _ _) _) _) _ _ _)); (fail_if_success (with_reducible show wpAny _ _ (call (Value.builtin "sorted") _) _ _ _)); (fail_if_success (with_reducible show wpAny _ _ (call (Value.type "list") [Value.ref _]) _ _ _)); (fail_if_success (with_reducible show wpAny _ _ (call (Value.type "dict") [Value.ref _]) _ _ _)); (try dsimp only); walk1))) | (first | ((with_reducible show ite _ _ _); walk1) | ((with_reducible show _ ∧ _); walk1) | (leave1; (try dsimp only)) | (dsimp only [InvPostN]) | fail "no step")))
        rename Fr _ _ _ _ => F40a
        rename News _ _ _ _ => N40a
        refine list_item (k := 0) ⟨_, (N40a (D5, _) (by k_mem)).1, rfl, _, rfl⟩ (by decide) (by decide) rfl ?_
        (repeat' (first | (k_unfold; (try dsimp only)) | ((fail_if_success (with_reducible show wpAny _ _ (setItem _ _ _) _ _ _)); (fail_if_success (with_reducible show wpAny _ _ (subscriptTail _ _ _ _) _ _ _)); (fail_if_success (with_reducible show wpAny _ _ (compareOp _ _ _) _ _ _)); (((with_reducible show wpAny _ _ _ _ _ _); (fail_if_success (with_reducible show wpAny _ _ (exec (Stmt.While _ _ _ _) _) _ _ _)); (fail_if_success (with_reducible show wpAny _ _ (exec (Stmt.Raise _ _ _) _) _ _ _)); (fail_if_success (with_reducible show wpAny _ _ (exec (Stmt.Try _ _ _ _ _) _) _ _ _)); (fail_if_success (with_reducible show wpAny _ _ (exec (Stmt.For _ _ _ _ _) _) _ _ _)); (fail_if_success (with_reducible show wpAny _ _ (call (Value.ref _) _) _ _ _)); (fail_if_success (with_reducible show wpAny _ _ (call (Value.builtin "dict.pop") _) _ _ _)); (fail_if_success (with_reducible show wpAny _ _ (eval (Expr.ListComp _ _ _ _) _) _ _ _)); (fail_if_success (with_reducible show wpAny _ _ (exec (Stmt.Assign _ (Expr.ListComp _ _ _ _) _) _) _ _ _)); (fail_if_success (with_reducible show wpAny _ _ (call (Value.builtin "sorted") _) _ _ _)); (fail_if_success (with_reducible show wpAny _ _ (call (Value.type "list") [Value.ref _]) _ _ _)); (fail_if_success (with_reducible show wpAny _ _ (call (Value.type "dict") [Value.ref _]) _ _ _)); (try dsimp only); walk1))) | (first | ((with_reducible show ite _ _ _); walk1) | ((with_reducible show _ ∧ _); walk1) | (leave1; (try dsimp only)) | (dsimp only [InvPostN]) | fail "no step")))
        rename Fr _ _ _ _ => F40
        rename News _ _ _ _ => N40
        refine SrcJ.keys (knd := PySem.strKind prog w) (od := od1) (kvs := kvN) (fun i zs nw => ∃ ts : List (Addr × (Str × Tok × Value)), nw = (L + 1, o9) :: (L + 1 + 1, o10) :: (DK, W.listOf vC.toArray cK) :: (D5, LCg.lst [.ref d1, .ref d2, .ref lD, .int 1 tS, .int 40 tH, .ref lO, .str (Str.ofString "two") tR, .ref lC]) :: (d1, od1) :: (d2, od2) :: (rest ++ ts.map tupOf) ∧ zs = ts.map (fun p => Value.ref p.1) ∧ ts.map (fun p => (p.2.1, p.2.2.2)) = (kvN.take i).filter fun p => ws.any (· == p.1)) rfl i1 lo1 (N40 (d1, od1) (by k_mem)).1 (by rw [sizeLine_eq]; omega) F40 N40 ⟨[], by simp, rfl, rfl⟩ (.inr ?_) ?_ ?_
        · rintro i zs nw ⟨ts, rfl, _, _⟩; k_mem
        · rintro g1 i v zs nw I oI C oC Dl m2' h41 tk41 E' hi41 ⟨y, u, hiv, hvy⟩ ⟨ts, rfl, rfl, hts⟩ hC hx F41 N41 off41 ne41
          obtain ⟨ty, rfl⟩ := Value.isStrOf_shape hvy
          have hvu : valueAt kvN y = some u := valueAt_of_get (isdict_nodup i1) hiv
          have e1 : List.take (i + 1) kvN = List.take i kvN ++ [(y, u)] := by rw [List.take_add_one, hiv]; rfl

          refine wpAny_tests_one ?_
          (repeat' (first | (k_unfold; (try dsimp only)) | ((fail_if_success (with_reducible show wpAny _ _ (setItem _ _ _) _ _ _)); (fail_if_success (with_reducible show wpAny _ _ (subscriptTail _ _ _ _) _ _ _)); (fail_if_success (with_reducible show wpAny _ _ (compareOp _ _ _) _ _ _)); (((with_reducible show wpAny _ _ _ _ _ _); (fail_if_success (with_reducible show wpAny _ _ (exec (Stmt.While _ _ _ _) _) _ _ _)); (fail_if_success (with_reducible show wpAny _ _ (exec (Stmt.Raise _ _ _) _) _ _ _)); (fail_if_success (with_reducible show wpAny _ _ (exec (Stmt.Try _ _ _ _ _) _) _ _ _)); (fail_if_success (with_reducible show wpAny _ _ (exec (Stmt.For _ _ _ _ _) _) _ _ _)); (fail_if_success (with_reducible show wpAny _ _ (call (Value.ref _) _) _ _ _)); (fail_if_success (with_reducible show wpAny _ _ (call (Value.builtin "dict.pop") _) _ _ _)); (fail_if_success (with_reducible show wpAny _ _ (eval (Expr.ListComp _ _ _ _) _) _ _ _)); (fail_if_success (with_reducible show wpAny _ _ (exec (Stmt.Assign _ (Expr.ListComp _ _ _ _) _) _) _ _ _)); (fail_if_success (with_reducible show wpAny _ _ (call (Value.builtin "sorted") _) _ _ _)); (fail_if_success (with_reducible show wpAny _ _ (call (Value.type "list") [Value.ref _]) _ _ _)); (fail_if_success (with_reducible show wpAny _ _ (call (Value.type "dict") [Value.ref _]) _ _ _)); (try dsimp only); walk1))) | (first | ((with_reducible show ite _ _ _); walk1) | ((with_reducible show _ ∧ _); walk1) | (leave1; (try dsimp only)) | (dsimp only [InvPostN]) | fail "no step")))
          rename Fr _ _ _ _ => F42
          rename News _ _ _ _ => N42
          refine in_list_strs ⟨_, (N42 (DK, _) (by k_mem)).1, rfl, _, rfl⟩ lw.sC ?_
          cases hb : ws.any (· == y) with
          | false =>
            (repeat' (first | (k_unfold; (try dsimp only)) | ((fail_if_success (with_reducible show wpAny _ _ (setItem _ _ _) _ _ _)); (fail_if_success (with_reducible show wpAny _ _ (subscriptTail _ _ _ _) _ _ _)); (fail_if_success (with_reducible show wpAny _ _ (compareOp _ _ _) _ _ _)); (((with_reducible show wpAny _ _ _ _ _ _); (fail_if_success (with_reducible show wpAny _ _ (exec (Stmt.While _ _ _ _) _) _ _ _)); (fail_if_success (with_reducible show wpAny _ _ (exec (Stmt.Raise _ _ _) _) _ _ _)); (fail_if_success (with_reducible show wpAny _ _ (exec (Stmt.Try _ _ _ _ _) _) _ _ _)); (fail_if_success (with_reducible show wpAny _ _ (exec (Stmt.For _ _ _ _ _) _) _ _ _)); (fail_if_success (with_reducible show wpAny _ _ (call (Value.ref _) _) _ _ _)); (fail_if_success (with_reducible show wpAny _ _ (call (Value.builtin "dict.pop") _) _ _ _)); (fail_if_success (with_reducible show wpAny _ _ (eval (Expr.ListComp _ _ _ _) _) _ _ _)); (fail_if_success (with_reducible show wpAny _ _ (exec (Stmt.Assign _ (Expr.ListComp _ _ _ _) _) _) _ _ _)); (fail_if_success (with_reducible show wpAny _ _ (call (Value.builtin "sorted") _) _ _ _)); (fail_if_success (with_reducible show wpAny _ _ (call (Value.type "list") [Value.ref _]) _ _ _)); (fail_if_success (with_reducible show wpAny _ _ (call (Value.type "dict") [Value.ref _]) _ _ _)); (try dsimp only); walk1))) | (first | ((with_reducible show ite _ _ _); walk1) | ((with_reducible show _ ∧ _); walk1) | (leave1; (try dsimp only)) | (dsimp only [InvPostN]) | fail "no step")))
            rename Fr _ _ _ _ => F43
            rename News _ _ _ _ => N43
            refine TurnEnd.intro F43 N43 _ (fun _ h => h) off41 ⟨ts, rfl, rfl, ?_⟩
            rw [e1, List.filter_append, hts]
            simp [hb]
          | true =>
            (repeat' (first | (k_unfold; (try dsimp only)) | ((fail_if_success (with_reducible show wpAny _ _ (setItem _ _ _) _ _ _)); (fail_if_success (with_reducible show wpAny _ _ (subscriptTail _ _ _ _) _ _ _)); (fail_if_success (with_reducible show wpAny _ _ (compareOp _ _ _) _ _ _)); (((with_reducible show wpAny _ _ _ _ _ _); (fail_if_success (with_reducible show wpAny _ _ (exec (Stmt.While _ _ _ _) _) _ _ _)); (fail_if_success (with_reducible show wpAny _ _ (exec (Stmt.Raise _ _ _) _) _ _ _)); (fail_if_success (with_reducible show wpAny _ _ (exec (Stmt.Try _ _ _ _ _) _) _ _ _)); (fail_if_success (with_reducible show wpAny _ _ (exec (Stmt.For _ _ _ _ _) _) _ _ _)); (fail_if_success (with_reducible show wpAny _ _ (call (Value.ref _) _) _ _ _)); (fail_if_success (with_reducible show wpAny _ _ (call (Value.builtin "dict.pop") _) _ _ _)); (fail_if_success (with_reducible show wpAny _ _ (eval (Expr.ListComp _ _ _ _) _) _ _ _)); (fail_if_success (with_reducible show wpAny _ _ (exec (Stmt.Assign _ (Expr.ListComp _ _ _ _) _) _) _ _ _)); (fail_if_success (with_reducible show wpAny _ _ (call (Value.builtin "sorted") _) _ _ _)); (fail_if_success (with_reducible show wpAny _ _ (call (Value.type "list") [Value.ref _]) _ _ _)); (fail_if_success (with_reducible show wpAny _ _ (call (Value.type "dict") [Value.ref _]) _ _ _)); (try dsimp only); walk1))) | (first | ((with_reducible show ite _ _ _); walk1) | ((with_reducible show _ ∧ _); walk1) | (leave1; (try dsimp only)) | (dsimp only [InvPostN]) | fail "no step")))
            rename Fr _ _ _ _ => F43
            rename News _ _ _ _ => N43
            refine list_item (k := 0) ⟨_, (N43 (D5, _) (by k_mem)).1, rfl, _, rfl⟩ (by decide) (by decide) rfl ?_
            (repeat' (first | (k_unfold; (try dsimp only)) | ((fail_if_success (with_reducible show wpAny _ _ (setItem _ _ _) _ _ _)); (fail_if_success (with_reducible show wpAny _ _ (subscriptTail _ _ _ _) _ _ _)); (fail_if_success (with_reducible show wpAny _ _ (compareOp _ _ _) _ _ _)); (((with_reducible show wpAny _ _ _ _ _ _); (fail_if_success (with_reducible show wpAny _ _ (exec (Stmt.While _ _ _ _) _) _ _ _)); (fail_if_success (with_reducible show wpAny _ _ (exec (Stmt.Raise _ _ _) _) _ _ _)); (fail_if_success (with_reducible show wpAny _ _ (exec (Stmt.Try _ _ _ _ _) _) _ _ _)); (fail_if_success (with_reducible show wpAny _ _ (exec (Stmt.For _ _ _ _ _) _) _ _ _)); (fail_if_success (with_reducible show wpAny _ _ (call (Value.ref _) _) _ _ _)); (fail_if_success (with_reducible show wpAny _ _ (call (Value.builtin "dict.pop") _) _ _ _)); (fail_if_success (with_reducible show wpAny _ _ (eval (Expr.ListComp _ _ _ _) _) _ _ _)); (fail_if_success (with_reducible show wpAny _ _ (exec (Stmt.Assign _ (Expr.ListComp _ _ _ _) _) _) _ _ _)); (fail_if_success (with_reducible show wpAny _ _ (call (Value.builtin "sorted") _) _ _ _)); (fail_if_success (with_reducible show wpAny _ _ (call (Value.type "list") [Value.ref _]) _ _ _)); (fail_if_success (with_reducible show wpAny _ _ (call (Value.type "dict") [Value.ref _]) _ _ _)); (try dsimp only); walk1))) | (first | ((with_reducible show ite _ _ _); walk1) | ((with_reducible show _ ∧ _); walk1) | (leave1; (try dsimp only)) | (dsimp only [InvPostN]) | fail "no step")))
            rename Fr _ _ _ _ => F44
            rename News _ _ _ _ => N44
            refine dict_itemT (knd := PySem.strKind prog w) (Heap.dictOf_iff.mpr ⟨od1, (N44 (d1, od1) (by k_mem)).1, i1⟩) (strKind_is _ _ _ _) hvu ?_
            (try dsimp only)
            (repeat' (first | (k_unfold; (try dsimp only)) | ((fail_if_success (with_reducible show wpAny _ _ (setItem _ _ _) _ _ _)); (fail_if_success (with_reducible show wpAny _ _ (subscriptTail _ _ _ _) _ _ _)); (fail_if_success (with_reducible show wpAny _ _ (compareOp _ _ _) _ _ _)); (((with_reducible show wpAny _ _ _ _ _ _); (fail_if_success (with_reducible show wpAny _ _ (exec (Stmt.While _ _ _ _) _) _ _ _)); (fail_if_success (with_reducible show wpAny _ _ (exec (Stmt.Raise _ _ _) _) _ _ _)); (fail_if_success (with_reducible show wpAny _ _ (exec (Stmt.Try _ _ _ _ _) _) _ _ _)); (fail_if_success (with_reducible show wpAny _ _ (exec (Stmt.For _ _ _ _ _) _) _ _ _)); (fail_if_success (with_reducible show wpAny _ _ (call (Value.ref _) _) _ _ _)); (fail_if_success (with_reducible show wpAny _ _ (call (Value.builtin "dict.pop") _) _ _ _)); (fail_if_success (with_reducible show wpAny _ _ (eval (Expr.ListComp _ _ _ _) _) _ _ _)); (fail_if_success (with_reducible show wpAny _ _ (exec (Stmt.Assign _ (Expr.ListComp _ _ _ _) _) _) _ _ _)); (fail_if_success (with_reducible show wpAny _ _ (call (Value.builtin "sorted") _) _ _ _)); (fail_if_success (with_reducible show wpAny _ _ (call (Value.type "list") [Value.ref _]) _ _ _)); (fail_if_success (with_reducible show wpAny _ _ (call (Value.type "dict") [Value.ref _]) _ _ _)); (try dsimp only); walk1))) | (first | ((with_reducible show ite _ _ _); walk1) | ((with_reducible show _ ∧ _); walk1) | (leave1; (try dsimp only)) | (dsimp only [InvPostN]) | fail "no step")))
            rename_i D2 h49 F49 N49 lt49
            refine TurnEnd.intro F49 N49 ((L + 1, o9) :: (L + 1 + 1, o10) :: (DK, W.listOf vC.toArray cK) :: (D5, LCg.lst [.ref d1, .ref d2, .ref lD, .int 1 tS, .int 40 tH, .ref lO, .str (Str.ofString "two") tR, .ref lC]) :: (d1, od1) :: (d2, od2) :: (rest ++ (ts ++ [(D2, y, ty, u)]).map tupOf)) (fun p hp => sub_mapH (fx := (L + 1, o9) :: (L + 1 + 1, o10) :: (DK, W.listOf vC.toArray cK) :: (D5, LCg.lst [.ref d1, .ref d2, .ref lD, .int 1 tS, .int 40 tH, .ref lO, .str (Str.ofString "two") tR, .ref lC]) :: (d1, od1) :: (d2, od2) :: rest) hp) (off_mapG (fx := (L + 1, o9) :: (L + 1 + 1, o10) :: (DK, W.listOf vC.toArray cK) :: (D5, LCg.lst [.ref d1, .ref d2, .ref lD, .int 1 tS, .int 40 tH, .ref lO, .str (Str.ofString "two") tR, .ref lC]) :: (d1, od1) :: (d2, od2) :: rest) off41 lt49.1 lt49.2.1 lt49.2.2.1) ⟨ts ++ [(D2, y, ty, u)], rfl, by simp, ?_⟩
            rw [e1, List.map_append, List.filter_append, hts]
            simp [hb]
        · rintro zs nw ⟨ts, rfl, rfl, hts⟩ D45 h45 tk45 F45 N45 ne45
          rw [List.take_length] at hts
          have htl : ts.length ≤ 4 := by
            have q := congrArg List.length hts
            have q2 := List.length_filter_le (fun p : Str × Value => ws.any (· == p.1)) kvN
            simp only [List.length_map] at q
            omega
          (try dsimp only)
          (repeat' (first | (k_unfold; (try dsimp only)) | ((fail_if_success (with_reducible show wpAny _ _ (setItem _ _ _) _ _ _)); (((with_reducible show wpAny _ _ _ _ _ _); (fail_if_success (with_reducible show wpAny _ _ (exec (Stmt.While _ _ _ _) _) _ _ _)); (fail_if_success (with_reducible show wpAny _ _ (exec (Stmt.Raise _ _ _) _) _ _ _)); (fail_if_success (with_reducible show wpAny _ _ (exec (Stmt.Try _ _ _ _ _) _) _ _ _)); (fail_if_success (with_reducible show wpAny _ _ (exec (Stmt.For _ _ _ _ _) _) _ _ _)); (fail_if_success (with_reducible show wpAny _ _ (call (Value.ref _) _) _ _ _)); (fail_if_success (with_reducible show wpAny _ _ (call (Value.builtin "dict.pop") _) _ _ _)); (fail_if_success (with_reducible show wpAny _ _ (eval (Expr.ListComp _ _ _ _) _) _ _ _)); (fail_if_success (with_reducible show wpAny _ _ (exec (Stmt.Assign _ (Expr.ListComp _ _ _ _) _) _) _ _ _)); (fail_if_success (with_reducible show wpAny _ _ (call (Value.builtin "sorted") _) _ _ _)); (fail_if_success (with_reducible show wpAny _ _ (call (Value.type "list") [Value.ref _]) _ _ _)); (fail_if_success (with_reducible show wpAny _ _ (call (Value.type "dict") [Value.ref _]) _ _ _)); (try dsimp only); walk1))) | (first | ((with_reducible show ite _ _ _); walk1) | ((with_reducible show _ ∧ _); walk1) | (leave1; (try dsimp only)) | (dsimp only [InvPostN]) | fail "no step")))
          rename Fr _ _ _ _ => F46
          rename News _ _ _ _ => N46
          refine dict_pairs (knd := PySem.strKind prog w) rfl F46 N46 TC.nolimit (N46 _ (.head _)).1 (kvN.filter fun p => ws.any (· == p.1)) (by rw [← hts]; simp) (by rw [List.length_map]; omega) (fun i v hv => ?_) ?_
          · exact tup_at (N10 := fun p hp => (N46 p (.tail _ (.tail _ (.tail _ (.tail _ (.tail _ (.tail _ (.tail _ (List.mem_append_right _ hp))))))))).1) hts hv
          · intro h47 tk47 oM40 DM40 F47 N47 loM40 hM40 neM40
            (try dsimp only)
            (repeat' (first | (k_unfold; (try dsimp only)) | ((fail_if_success (with_reducible show wpAny _ _ (setItem _ _ _) _ _ _)); (((with_reducible show wpAny _ _ _ _ _ _); (fail_if_success (with_reducible show wpAny _ _ (exec (Stmt.While _ _ _ _) _) _ _ _)); (fail_if_success (with_reducible show wpAny _ _ (exec (Stmt.Raise _ _ _) _) _ _ _)); (fail_if_success (with_reducible show wpAny _ _ (exec (Stmt.Try _ _ _ _ _) _) _ _ _)); (fail_if_success (with_reducible show wpAny _ _ (exec (Stmt.For _ _ _ _ _) _) _ _ _)); (fail_if_success (with_reducible show wpAny _ _ (call (Value.ref _) _) _ _ _)); (fail_if_success (with_reducible show wpAny _ _ (call (Value.builtin "dict.pop") _) _ _ _)); (fail_if_success (with_reducible show wpAny _ _ (eval (Expr.ListComp _ _ _ _) _) _ _ _)); (fail_if_success (with_reducible show wpAny _ _ (exec (Stmt.Assign _ (Expr.ListComp _ _ _ _) _) _) _ _ _)); (fail_if_success (with_reducible show wpAny _ _ (call (Value.builtin "sorted") _) _ _ _)); (fail_if_success (with_reducible show wpAny _ _ (call (Value.type "list") [Value.ref _]) _ _ _)); (fail_if_success (with_reducible show wpAny _ _ (call (Value.type "dict") [Value.ref _]) _ _ _)); (try dsimp only); walk1))) | (first | ((with_reducible show ite _ _ _); walk1) | ((with_reducible show _ ∧ _); walk1) | (leave1; (try dsimp only)) | (dsimp only [InvPostN]) | fail "no step")))
            rename Fr _ _ _ _ => F58
            rename News _ _ _ _ => N57
            have N58 := news_sub (l' := (L + 1, o9) :: (L + 1 + 1, o10) :: (DK, W.listOf vC.toArray cK) :: (D5, LCg.lst [.ref d1, .ref d2, .ref lD, .int 1 tS, .int 40 tH, .ref lO, .str (Str.ofString "two") tR, .ref lC]) :: (d1, od1) :: (d2, od2) :: ((DM40, oM40) :: rest)) N57 (by (((repeat' (first | exact all_nil | refine all_cons ?_ ?_)) <;> first | k_mem | (exact fun p hp => by repeat (first | exact hp | exact List.mem_append_left _ hp | apply List.Mem.tail)))))
            clear N57
            generalize hrest2 : (DM40, oM40) :: rest = rest2 at N58
            refine ListComp_J gC L (fun y => if y = Str.ofString "names" then some (.ref DM40) else if y = Str.ofString "least" then some v30 else if y = Str.ofString "wrong" then v18 else if y = Str.ofString "wrong" then some (.ref e) else if y = Str.ofString "line" then some line else if y = Str.ofString "world" then some (.ref x) else if y = Str.ofString "program" then some (.ref d) else if y = Str.ofString "text" then some (.str tx tt) else if y = Str.ofString "spool" then some (.ref sp) else none) (by with_unfolding_all rfl) (by decide) (by rfl) (by decide) (by rfl) ?_
            (repeat' (first | (k_unfold; (try dsimp only)) | ((fail_if_success (with_reducible show wpAny _ _ (setItem _ _ _) _ _ _)); (fail_if_success (with_reducible show wpAny _ _ (subscriptTail _ _ _ _) _ _ _)); (fail_if_success (with_reducible show wpAny _ _ (compareOp _ _ _) _ _ _)); (((with_reducible show wpAny _ _ _ _ _ _); (fail_if_success (with_reducible show wpAny _ _ (exec (Stmt.While _ _ _ _) _) _ _ _)); (fail_if_success (with_reducible show wpAny _ _ (exec (Stmt.Raise _ _ _) _) _ _ _)); (fail_if_success (with_reducible show wpAny _ _ (exec (Stmt.Try _ _ _ _ _) _) _ _ _)); (fail_if_success (with_reducible show wpAny _ _ (exec (Stmt.For _ _ _ _ _) _) _ _ _)); (fail_if_success (with_reducible show wpAny _ _ (call (Value.ref _) _) _ _ _)); (fail_if_success (with_reducible show wpAny _ _ (call (Value.builtin "dict.pop") _) _ _ _)); (fail_if_success (with_reducible show wpAny _ _ (eval (Expr.ListComp _ _ _ _) _) _ _ _)); (fail_if_success (with_reducible show wpAny _ _ (exec (Stmt.Assign _ (Expr.ListComp _ _ _ _) _) _) _ _ _)); (fail_if_success (with_reducible show wpAny _ _ (call (Value.builtin "sorted") _) _ _ _)); (fail_if_success (with_reducible show wpAny _ _ (call (Value.type "list") [Value.ref _]) _ _ _)); (fail_if_success (with_reducible show wpAny _ _ (call (Value.type "dict") [Value.ref _]) _ _ _)); (try dsimp only); walk1))) | (first | ((with_reducible show ite _ _ _); walk1) | ((with_reducible show _ ∧ _); walk1) | (leave1; (try dsimp only)) | (dsimp only [InvPostN]) | fail "no step")))
            rename Fr _ _ _ _ => F60a
            rename News _ _ _ _ => N60a
            refine list_item (k := 1) ⟨_, (N60a (D5, _) (by k_mem)).1, rfl, _, rfl⟩ (by decide) (by decide) rfl ?_
            (repeat' (first | (k_unfold; (try dsimp only)) | ((fail_if_success (with_reducible show wpAny _ _ (setItem _ _ _) _ _ _)); (fail_if_success (with_reducible show wpAny _ _ (subscriptTail _ _ _ _) _ _ _)); (fail_if_success (with_reducible show wpAny _ _ (compareOp _ _ _) _ _ _)); (((with_reducible show wpAny _ _ _ _ _ _); (fail_if_success (with_reducible show wpAny _ _ (exec (Stmt.While _ _ _ _) _) _ _ _)); (fail_if_success (with_reducible show wpAny _ _ (exec (Stmt.Raise _ _ _) _) _ _ _)); (fail_if_success (with_reducible show wpAny _ _ (exec (Stmt.Try _ _ _ _ _) _) _ _ _)); (fail_if_success (with_reducible show wpAny _ _ (exec (Stmt.For _ _ _ _ _) _) _ _ _)); (fail_if_success (with_reducible show wpAny _ _ (call (Value.ref _) _) _ _ _)); (fail_if_success (with_reducible show wpAny _ _ (call (Value.builtin "dict.pop") _) _ _ _)); (fail_if_success (with_reducible show wpAny _ _ (eval (Expr.ListComp _ _ _ _) _) _ _ _)); (fail_if_success (with_reducible show wpAny _ _ (exec (Stmt.Assign _ (Expr.ListComp _ _ _ _) _) _) _ _ _)); (fail_if_success (with_reducible show wpAny _ _ (call (Value.builtin "sorted") _) _ _ _)); (fail_if_success (with_reducible show wpAny _ _ (call (Value.type "list") [Value.ref _]) _ _ _)); (fail_if_success (with_reducible show wpAny _ _ (call (Value.type "dict") [Value.ref _]) _ _ _)); (try dsimp only); walk1))) | (first | ((with_reducible show ite _ _ _); walk1) | ((with_reducible show _ ∧ _); walk1) | (leave1; (try dsimp only)) | (dsimp only [InvPostN]) | fail "no step")))
            rename Fr _ _ _ _ => F60
            rename News _ _ _ _ => N60
            refine SrcJ.keys (knd := PySem.strKind prog w) (od := od2) (kvs := kvA) (fun i zs nw => ∃ ts : List (Addr × (Str × Tok × Value)), nw = (L + 1, o9) :: (L + 1 + 1, o10) :: (DK, W.listOf vC.toArray cK) :: (D5, LCg.lst [.ref d1, .ref d2, .ref lD, .int 1 tS, .int 40 tH, .ref lO, .str (Str.ofString "two") tR, .ref lC]) :: (d1, od1) :: (d2, od2) :: (rest2 ++ ts.map tupOf) ∧ zs = ts.map (fun p => Value.ref p.1) ∧ ts.map (fun p => (p.2.1, p.2.2.2)) = (kvA.take i).filter fun p => ws.any (· == p.1 ++ Str.ofString "()")) rfl i2 lo2 (N60 (d2, od2) (by k_mem)).1 (by rw [sizeLine_eq]; omega) F60 N60 ⟨[], by simp, rfl, rfl⟩ (.inr ?_) ?_ ?_
            · rintro i zs nw ⟨ts, rfl, _, _⟩; k_mem
            · rintro g1 i v zs nw I oI C oC Dl m2' h41 tk41 E' hi41 ⟨y, u, hiv, hvy⟩ ⟨ts, rfl, rfl, hts⟩ hC hx F41 N41 off41 ne41
              obtain ⟨ty, rfl⟩ := Value.isStrOf_shape hvy
              have hvu : valueAt kvA y = some u := valueAt_of_get (isdict_nodup i2) hiv
              have e1 : List.take (i + 1) kvA = List.take i kvA ++ [(y, u)] := by rw [List.take_add_one, hiv]; rfl
              have hyl : y.length ≤ 100 := names2_len y (lw.mA (y, u) (List.mem_of_getElem? hiv)).1
              refine wpAny_tests_one ?_
              (repeat' (first | (k_unfold; (try dsimp only)) | ((fail_if_success (with_reducible show wpAny _ _ (setItem _ _ _) _ _ _)); (fail_if_success (with_reducible show wpAny _ _ (subscriptTail _ _ _ _) _ _ _)); (fail_if_success (with_reducible show wpAny _ _ (compareOp _ _ _) _ _ _)); (((with_reducible show wpAny _ _ _ _ _ _); (fail_if_success (with_reducible show wpAny _ _ (exec (Stmt.While _ _ _ _) _) _ _ _)); (fail_if_success (with_reducible show wpAny _ _ (exec (Stmt.Raise _ _ _) _) _ _ _)); (fail_if_success (with_reducible show wpAny _ _ (exec (Stmt.Try _ _ _ _ _) _) _ _ _)); (fail_if_success (with_reducible show wpAny _ _ (exec (Stmt.For _ _ _ _ _) _) _ _ _)); (fail_if_success (with_reducible show wpAny _ _ (call (Value.ref _) _) _ _ _)); (fail_if_success (with_reducible show wpAny _ _ (call (Value.builtin "dict.pop") _) _ _ _)); (fail_if_success (with_reducible show wpAny _ _ (eval (Expr.ListComp _ _ _ _) _) _ _ _)); (fail_if_success (with_reducible show wpAny _ _ (exec (Stmt.Assign _ (Expr.ListComp _ _ _ _) _) _) _ _ _)); (fail_if_success (with_reducible show wpAny _ _ (call (Value.builtin "sorted") _) _ _ _)); (fail_if_success (with_reducible show wpAny _ _ (call (Value.type "list") [Value.ref _]) _ _ _)); (fail_if_success (with_reducible show wpAny _ _ (call (Value.type "dict") [Value.ref _]) _ _ _)); (try dsimp only); walk1))) | (first | ((with_reducible show ite _ _ _); walk1) | ((with_reducible show _ ∧ _); walk1) | (leave1; (try dsimp only)) | (dsimp only [InvPostN]) | fail "no step")))
              rename Fr _ _ _ _ => F42
              rename News _ _ _ _ => N42
              refine in_list_strs ⟨_, (N42 (DK, _) (by k_mem)).1, rfl, _, rfl⟩ lw.sC ?_
              cases hb : ws.any (· == y ++ Str.ofString "()") with
              | false =>
                (repeat' (first | (k_unfold; (try dsimp only)) | ((fail_if_success (with_reducible show wpAny _ _ (setItem _ _ _) _ _ _)); (fail_if_success (with_reducible show wpAny _ _ (subscriptTail _ _ _ _) _ _ _)); (fail_if_success (with_reducible show wpAny _ _ (compareOp _ _ _) _ _ _)); (((with_reducible show wpAny _ _ _ _ _ _); (fail_if_success (with_reducible show wpAny _ _ (exec (Stmt.While _ _ _ _) _) _ _ _)); (fail_if_success (with_reducible show wpAny _ _ (exec (Stmt.Raise _ _ _) _) _ _ _)); (fail_if_success (with_reducible show wpAny _ _ (exec (Stmt.Try _ _ _ _ _) _) _ _ _)); (fail_if_success (with_reducible show wpAny _ _ (exec (Stmt.For _ _ _ _ _) _) _ _ _)); (fail_if_success (with_reducible show wpAny _ _ (call (Value.ref _) _) _ _ _)); (fail_if_success (with_reducible show wpAny _ _ (call (Value.builtin "dict.pop") _) _ _ _)); (fail_if_success (with_reducible show wpAny _ _ (eval (Expr.ListComp _ _ _ _) _) _ _ _)); (fail_if_success (with_reducible show wpAny _ _ (exec (Stmt.Assign _ (Expr.ListComp _ _ _ _) _) _) _ _ _)); (fail_if_success (with_reducible show wpAny _ _ (call (Value.builtin "sorted") _) _ _ _)); (fail_if_success (with_reducible show wpAny _ _ (call (Value.type "list") [Value.ref _]) _ _ _)); (fail_if_success (with_reducible show wpAny _ _ (call (Value.type "dict") [Value.ref _]) _ _ _)); (try dsimp only); walk1))) | (first | ((with_reducible show ite _ _ _); walk1) | ((with_reducible show _ ∧ _); walk1) | (leave1; (try dsimp only)) | (dsimp only [InvPostN]) | fail "no step")))
                rename Fr _ _ _ _ => F43
                rename News _ _ _ _ => N43
                refine TurnEnd.intro F43 N43 _ (fun _ h => h) off41 ⟨ts, rfl, rfl, ?_⟩
                rw [e1, List.filter_append, hts]
                simp [hb]
              | true =>
                (repeat' (first | (k_unfold; (try dsimp only)) | ((fail_if_success (with_reducible show wpAny _ _ (setItem _ _ _) _ _ _)); (fail_if_success (with_reducible show wpAny _ _ (subscriptTail _ _ _ _) _ _ _)); (fail_if_success (with_reducible show wpAny _ _ (compareOp _ _ _) _ _ _)); (((with_reducible show wpAny _ _ _ _ _ _); (fail_if_success (with_reducible show wpAny _ _ (exec (Stmt.While _ _ _ _) _) _ _ _)); (fail_if_success (with_reducible show wpAny _ _ (exec (Stmt.Raise _ _ _) _) _ _ _)); (fail_if_success (with_reducible show wpAny _ _ (exec (Stmt.Try _ _ _ _ _) _) _ _ _)); (fail_if_success (with_reducible show wpAny _ _ (exec (Stmt.For _ _ _ _ _) _) _ _ _)); (fail_if_success (with_reducible show wpAny _ _ (call (Value.ref _) _) _ _ _)); (fail_if_success (with_reducible show wpAny _ _ (call (Value.builtin "dict.pop") _) _ _ _)); (fail_if_success (with_reducible show wpAny _ _ (eval (Expr.ListComp _ _ _ _) _) _ _ _)); (fail_if_success (with_reducible show wpAny _ _ (exec (Stmt.Assign _ (Expr.ListComp _ _ _ _) _) _) _ _ _)); (fail_if_success (with_reducible show wpAny _ _ (call (Value.builtin "sorted") _) _ _ _)); (fail_if_success (with_reducible show wpAny _ _ (call (Value.type "list") [Value.ref _]) _ _ _)); (fail_if_success (with_reducible show wpAny _ _ (call (Value.type "dict") [Value.ref _]) _ _ _)); (try dsimp only); walk1))) | (first | ((with_reducible show ite _ _ _); walk1) | ((with_reducible show _ ∧ _); walk1) | (leave1; (try dsimp only)) | (dsimp only [InvPostN]) | fail "no step")))
                rename Fr _ _ _ _ => F43
                rename News _ _ _ _ => N43
                refine list_item (k := 1) ⟨_, (N43 (D5, _) (by k_mem)).1, rfl, _, rfl⟩ (by decide) (by decide) rfl ?_
                (repeat' (first | (k_unfold; (try dsimp only)) | ((fail_if_success (with_reducible show wpAny _ _ (setItem _ _ _) _ _ _)); (fail_if_success (with_reducible show wpAny _ _ (subscriptTail _ _ _ _) _ _ _)); (fail_if_success (with_reducible show wpAny _ _ (compareOp _ _ _) _ _ _)); (((with_reducible show wpAny _ _ _ _ _ _); (fail_if_success (with_reducible show wpAny _ _ (exec (Stmt.While _ _ _ _) _) _ _ _)); (fail_if_success (with_reducible show wpAny _ _ (exec (Stmt.Raise _ _ _) _) _ _ _)); (fail_if_success (with_reducible show wpAny _ _ (exec (Stmt.Try _ _ _ _ _) _) _ _ _)); (fail_if_success (with_reducible show wpAny _ _ (exec (Stmt.For _ _ _ _ _) _) _ _ _)); (fail_if_success (with_reducible show wpAny _ _ (call (Value.ref _) _) _ _ _)); (fail_if_success (with_reducible show wpAny _ _ (call (Value.builtin "dict.pop") _) _ _ _)); (fail_if_success (with_reducible show wpAny _ _ (eval (Expr.ListComp _ _ _ _) _) _ _ _)); (fail_if_success (with_reducible show wpAny _ _ (exec (Stmt.Assign _ (Expr.ListComp _ _ _ _) _) _) _ _ _)); (fail_if_success (with_reducible show wpAny _ _ (call (Value.builtin "sorted") _) _ _ _)); (fail_if_success (with_reducible show wpAny _ _ (call (Value.type "list") [Value.ref _]) _ _ _)); (fail_if_success (with_reducible show wpAny _ _ (call (Value.type "dict") [Value.ref _]) _ _ _)); (try dsimp only); walk1))) | (first | ((with_reducible show ite _ _ _); walk1) | ((with_reducible show _ ∧ _); walk1) | (leave1; (try dsimp only)) | (dsimp only [InvPostN]) | fail "no step")))
                rename Fr _ _ _ _ => F44
                rename News _ _ _ _ => N44
                refine dict_itemT (knd := PySem.strKind prog w) (Heap.dictOf_iff.mpr ⟨od2, (N44 (d2, od2) (by k_mem)).1, i2⟩) (strKind_is _ _ _ _) hvu ?_
                (try dsimp only)
                (repeat' (first | (k_unfold; (try dsimp only)) | ((fail_if_success (with_reducible show wpAny _ _ (setItem _ _ _) _ _ _)); (fail_if_success (with_reducible show wpAny _ _ (subscriptTail _ _ _ _) _ _ _)); (fail_if_success (with_reducible show wpAny _ _ (compareOp _ _ _) _ _ _)); (((with_reducible show wpAny _ _ _ _ _ _); (fail_if_success (with_reducible show wpAny _ _ (exec (Stmt.While _ _ _ _) _) _ _ _)); (fail_if_success (with_reducible show wpAny _ _ (exec (Stmt.Raise _ _ _) _) _ _ _)); (fail_if_success (with_reducible show wpAny _ _ (exec (Stmt.Try _ _ _ _ _) _) _ _ _)); (fail_if_success (with_reducible show wpAny _ _ (exec (Stmt.For _ _ _ _ _) _) _ _ _)); (fail_if_success (with_reducible show wpAny _ _ (call (Value.ref _) _) _ _ _)); (fail_if_success (with_reducible show wpAny _ _ (call (Value.builtin "dict.pop") _) _ _ _)); (fail_if_success (with_reducible show wpAny _ _ (eval (Expr.ListComp _ _ _ _) _) _ _ _)); (fail_if_success (with_reducible show wpAny _ _ (exec (Stmt.Assign _ (Expr.ListComp _ _ _ _) _) _) _ _ _)); (fail_if_success (with_reducible show wpAny _ _ (call (Value.builtin "sorted") _) _ _ _)); (fail_if_success (with_reducible show wpAny _ _ (call (Value.type "list") [Value.ref _]) _ _ _)); (fail_if_success (with_reducible show wpAny _ _ (call (Value.type "dict") [Value.ref _]) _ _ _)); (try dsimp only); walk1))) | (first | ((with_reducible show ite _ _ _); walk1) | ((with_reducible show _ ∧ _); walk1) | (leave1; (try dsimp only)) | (dsimp only [InvPostN]) | fail "no step")))
                rename_i D2 h49 F49 N49 lt49
                refine TurnEnd.intro F49 N49 ((L + 1, o9) :: (L + 1 + 1, o10) :: (DK, W.listOf vC.toArray cK) :: (D5, LCg.lst [.ref d1, .ref d2, .ref lD, .int 1 tS, .int 40 tH, .ref lO, .str (Str.ofString "two") tR, .ref lC]) :: (d1, od1) :: (d2, od2) :: (rest2 ++ (ts ++ [(D2, y, ty, u)]).map tupOf)) (fun p hp => sub_mapH (fx := (L + 1, o9) :: (L + 1 + 1, o10) :: (DK, W.listOf vC.toArray cK) :: (D5, LCg.lst [.ref d1, .ref d2, .ref lD, .int 1 tS, .int 40 tH, .ref lO, .str (Str.ofString "two") tR, .ref lC]) :: (d1, od1) :: (d2, od2) :: rest2) hp) (off_mapG (fx := (L + 1, o9) :: (L + 1 + 1, o10) :: (DK, W.listOf vC.toArray cK) :: (D5, LCg.lst [.ref d1, .ref d2, .ref lD, .int 1 tS, .int 40 tH, .ref lO, .str (Str.ofString "two") tR, .ref lC]) :: (d1, od1) :: (d2, od2) :: rest2) off41 lt49.1 lt49.2.1 lt49.2.2.1) ⟨ts ++ [(D2, y, ty, u)], rfl, by simp, ?_⟩
                rw [e1, List.map_append, List.filter_append, hts]
                simp [hb]
            · rintro zs nw ⟨ts, rfl, rfl, hts⟩ D65 h45 tk45 F45 N45 ne45
              rw [List.take_length] at hts
              have htl : ts.length ≤ 2 := by
                have q := congrArg List.length hts
                have q2 := List.length_filter_le (fun p : Str × Value => ws.any (· == p.1 ++ Str.ofString "()")) kvA
                simp only [List.length_map] at q
                omega
              (try dsimp only)
              (repeat' (first | (k_unfold; (try dsimp only)) | ((fail_if_success (with_reducible show wpAny _ _ (setItem _ _ _) _ _ _)); (((with_reducible show wpAny _ _ _ _ _ _); (fail_if_success (with_reducible show wpAny _ _ (exec (Stmt.While _ _ _ _) _) _ _ _)); (fail_if_success (with_reducible show wpAny _ _ (exec (Stmt.Raise _ _ _) _) _ _ _)); (fail_if_success (with_reducible show wpAny _ _ (exec (Stmt.Try _ _ _ _ _) _) _ _ _)); (fail_if_success (with_reducible show wpAny _ _ (exec (Stmt.For _ _ _ _ _) _) _ _ _)); (fail_if_success (with_reducible show wpAny _ _ (call (Value.ref _) _) _ _ _)); (fail_if_success (with_reducible show wpAny _ _ (call (Value.builtin "dict.pop") _) _ _ _)); (fail_if_success (with_reducible show wpAny _ _ (eval (Expr.ListComp _ _ _ _) _) _ _ _)); (fail_if_success (with_reducible show wpAny _ _ (exec (Stmt.Assign _ (Expr.ListComp _ _ _ _) _) _) _ _ _)); (fail_if_success (with_reducible show wpAny _ _ (call (Value.builtin "sorted") _) _ _ _)); (fail_if_success (with_reducible show wpAny _ _ (call (Value.type "list") [Value.ref _]) _ _ _)); (fail_if_success (with_reducible show wpAny _ _ (call (Value.type "dict") [Value.ref _]) _ _ _)); (try dsimp only); walk1))) | (first | ((with_reducible show ite _ _ _); walk1) | ((with_reducible show _ ∧ _); walk1) | (leave1; (try dsimp only)) | (dsimp only [InvPostN]) | fail "no step")))
              rename Fr _ _ _ _ => F46
              rename News _ _ _ _ => N46
              refine dict_pairs (knd := PySem.strKind prog w) rfl F46 N46 TC.nolimit (N46 _ (.head _)).1 (kvA.filter fun p => ws.any (· == p.1 ++ Str.ofString "()")) (by rw [← hts]; simp) (by rw [List.length_map]; omega) (fun i v hv => ?_) ?_
              · exact tup_at (N10 := fun p hp => (N46 p (.tail _ (.tail _ (.tail _ (.tail _ (.tail _ (.tail _ (.tail _ (List.mem_append_right _ hp))))))))).1) hts hv
              · intro h47 tk47 oM60 DM60 F47 N47 loM60 hM60 neM60
                (try dsimp only)
                (repeat' (first | (k_unfold; (try dsimp only)) | ((fail_if_success (with_reducible show wpAny _ _ (setItem _ _ _) _ _ _)); (((with_reducible show wpAny _ _ _ _ _ _); (fail_if_success (with_reducible show wpAny _ _ (exec (Stmt.While _ _ _ _) _) _ _ _)); (fail_if_success (with_reducible show wpAny _ _ (exec (Stmt.Raise _ _ _) _) _ _ _)); (fail_if_success (with_reducible show wpAny _ _ (exec (Stmt.Try _ _ _ _ _) _) _ _ _)); (fail_if_success (with_reducible show wpAny _ _ (exec (Stmt.For _ _ _ _ _) _) _ _ _)); (fail_if_success (with_reducible show wpAny _ _ (call (Value.ref _) _) _ _ _)); (fail_if_success (with_reducible show wpAny _ _ (call (Value.builtin "dict.pop") _) _ _ _)); (fail_if_success (with_reducible show wpAny _ _ (eval (Expr.ListComp _ _ _ _) _) _ _ _)); (fail_if_success (with_reducible show wpAny _ _ (exec (Stmt.Assign _ (Expr.ListComp _ _ _ _) _) _) _ _ _)); (fail_if_success (with_reducible show wpAny _ _ (call (Value.builtin "sorted") _) _ _ _)); (fail_if_success (with_reducible show wpAny _ _ (call (Value.type "list") [Value.ref _]) _ _ _)); (fail_if_success (with_reducible show wpAny _ _ (call (Value.type "dict") [Value.ref _]) _ _ _)); (try dsimp only); walk1))) | (first | ((with_reducible show ite _ _ _); walk1) | ((with_reducible show _ ∧ _); walk1) | (leave1; (try dsimp only)) | (dsimp only [InvPostN]) | fail "no step")))
                rename Fr _ _ _ _ => F78
                rename News _ _ _ _ => N77
                subst hrest2
                subst hrest
                have N78 := news_sub (l' := [(DM60, oM60), (DM40, oM40), (aN2, oN2), (aA2, oA2), (lD2, W.listOf #[] 0), (lC2, W.listOf #[] 0), (lO, oO), (x, instObj 133 dx), (dx, W.dictOf es35 n35), (dF, oG)]) N77 (by (((repeat' (first | exact all_nil | refine all_cons ?_ ?_)) <;> first | k_mem | (exact fun p hp => by repeat (first | exact hp | exact List.mem_append_left _ hp | apply List.Mem.tail)))))
                clear N77
                obtain ⟨tS2, hfS2⟩ := fS35
                obtain ⟨tH2, hfH2⟩ := fH35
                refine held_spec (cC.keeps F78.keep) (rm.hd (by decide)) (rm.hu (by decide)) ⟨es35, n35, (N78 (x, _) (by k_mem)).1, (N78 (dx, _) (by k_mem)).1, fa35⟩ fN35 fA35 fD35 hfS2 hfH2 (fO35.trans lw.fO) (fR35.trans hfR) fC35 ?_
                intro h80 tk80 DG3 k80 nH80 hH80
                obtain ⟨F80, N80, ne80⟩ := news_add F78 N78 k80 nH80 hH80
                clear F78 N78 k80 nH80 hH80
                (try dsimp only)
                (repeat' (first | (k_unfold; (try dsimp only)) | ((fail_if_success (with_reducible show wpAny _ _ (setItem _ _ _) _ _ _)); (fail_if_success (with_reducible show wpAny _ _ (subscriptTail _ _ _ _) _ _ _)); (fail_if_success (with_reducible show wpAny _ _ (compareOp _ _ _) _ _ _)); (((with_reducible show wpAny _ _ _ _ _ _); (fail_if_success (with_reducible show wpAny _ _ (exec (Stmt.While _ _ _ _) _) _ _ _)); (fail_if_success (with_reducible show wpAny _ _ (exec (Stmt.Raise _ _ _) _) _ _ _)); (fail_if_success (with_reducible show wpAny _ _ (exec (Stmt.Try _ _ _ _ _) _) _ _ _)); (fail_if_success (with_reducible show wpAny _ _ (exec (Stmt.For _ _ _ _ _) _) _ _ _)); (fail_if_success (with_reducible show wpAny _ _ (call (Value.ref _) _) _ _ _)); (fail_if_success (with_reducible show wpAny _ _ (call (Value.builtin "dict.pop") _) _ _ _)); (fail_if_success (with_reducible show wpAny _ _ (eval (Expr.ListComp _ _ _ _) _) _ _ _)); (fail_if_success (with_reducible show wpAny _ _ (exec (Stmt.Assign _ (Expr.ListComp _ _ _ _) _) _) _ _ _)); (fail_if_success (with_reducible show wpAny _ _ (call (Value.builtin "sorted") _) _ _ _)); (fail_if_success (with_reducible show wpAny _ _ (call (Value.type "list") [Value.ref _]) _ _ _)); (fail_if_success (with_reducible show wpAny _ _ (call (Value.type "dict") [Value.ref _]) _ _ _)); (try dsimp only); walk1))) | (first | ((with_reducible show ite _ _ _); walk1) | ((with_reducible show _ ∧ _); walk1) | (leave1; (try dsimp only)) | (dsimp only [InvPostN]) | fail "no step")))
                rename Fr _ _ _ _ => F82
                rename News _ _ _ _ => N82
                obtain ⟨tO, eO⟩ := lw.iO
                refine eqw_lists (items := #[.ref aN2, .ref aA2, .ref lD2, .int 0 tS2, .int 0 tH2, .ref lO, .str (Str.ofString "two") tR, .ref lC2]) ⟨_, (N82 (DG3, _) (by k_mem)).1, rfl, _, rfl⟩ ⟨_, (N82 _ (.head _)).1, rfl, _, rfl⟩ rfl ?_ ?each ?_
                case each =>
                  have hu : au + 3 + 1 < cLine := by omega
                  exact eight (dict_eqW loN35 loM40 (Heap.dictOf_iff.mpr ⟨oN2, (N82 (aN2, _) (by k_mem)).1, iN35⟩) (Heap.dictOf_iff.mpr ⟨oM40, (N82 (DM40, _) (by k_mem)).1, hM40⟩) hu (names_same (isdict_nodup lw.iN) fun p hp => (lw.mN p hp).1))
                    (dict_eqW loA35 loM60 (Heap.dictOf_iff.mpr ⟨oA2, (N82 (aA2, _) (by k_mem)).1, iA35⟩) (Heap.dictOf_iff.mpr ⟨oM60, (N82 (DM60, _) (by k_mem)).1, hM60⟩) hu (arrays_same (isdict_nodup lw.iA) (fun p hp => (lw.mA p hp).1) lw.mC))
                    (nil_eqW ⟨_, (N82 (lD2, _) (by k_mem)).1, rfl, _, rfl⟩ ⟨_, (N82 _ (.tail _ (.tail _ (.tail _ (.head _))))).1, rfl, _, rfl⟩ hu)
                    (VEq.eqW (.inr (.inl ⟨_, _, _, rfl, rfl⟩))) (VEq.eqW (.inr (.inl ⟨_, _, _, rfl, rfl⟩)))
                    (one_eqW ⟨_, eO ▸ (N82 (lO, oO) (by k_mem)).1, rfl, _, rfl⟩ ⟨_, (N82 _ (.tail _ (.tail _ (.head _)))).1, rfl, _, rfl⟩ hu)
                    (VEq.eqW (.inr (.inr ⟨_, _, _, rfl, rfl⟩)))
                    (nil_eqW ⟨_, (N82 (lC2, _) (by k_mem)).1, rfl, _, rfl⟩ ⟨_, (N82 _ (.tail _ (.head _))).1, rfl, _, rfl⟩ hu)
                · show au + 3 < _; omega
                (try dsimp only)
                (repeat' (first | (k_unfold; (try dsimp only)) | ((fail_if_success (with_reducible show wpAny _ _ (setItem _ _ _) _ _ _)); (fail_if_success (with_reducible show wpAny _ _ (subscriptTail _ _ _ _) _ _ _)); (fail_if_success (with_reducible show wpAny _ _ (compareOp _ _ _) _ _ _)); (((with_reducible show wpAny _ _ _ _ _ _); (fail_if_success (with_reducible show wpAny _ _ (exec (Stmt.While _ _ _ _) _) _ _ _)); (fail_if_success (with_reducible show wpAny _ _ (exec (Stmt.Raise _ _ _) _) _ _ _)); (fail_if_success (with_reducible show wpAny _ _ (exec (Stmt.Try _ _ _ _ _) _) _ _ _)); (fail_if_success (with_reducible show wpAny _ _ (exec (Stmt.For _ _ _ _ _) _) _ _ _)); (fail_if_success (with_reducible show wpAny _ _ (call (Value.ref _) _) _ _ _)); (fail_if_success (with_reducible show wpAny _ _ (call (Value.builtin "dict.pop") _) _ _ _)); (fail_if_success (with_reducible show wpAny _ _ (eval (Expr.ListComp _ _ _ _) _) _ _ _)); (fail_if_success (with_reducible show wpAny _ _ (exec (Stmt.Assign _ (Expr.ListComp _ _ _ _) _) _) _ _ _)); (fail_if_success (with_reducible show wpAny _ _ (call (Value.builtin "sorted") _) _ _ _)); (fail_if_success (with_reducible show wpAny _ _ (call (Value.type "list") [Value.ref _]) _ _ _)); (fail_if_success (with_reducible show wpAny _ _ (call (Value.type "dict") [Value.ref _]) _ _ _)); (try dsimp only); walk1))) | (first | ((with_reducible show ite _ _ _); walk1) | ((with_reducible show _ ∧ _); walk1) | (leave1; (try dsimp only)) | (dsimp only [InvPostN]) | fail "no step")))
                refine wgetW (cC.keeps F82.keep) ⟨es35, n35, (N82 (x, _) (by k_mem)).1, (N82 (dx, _) (by k_mem)).1, fa35⟩ (by decide +kernel) (fF35.trans lw.fF) rfl ?_
                (try dsimp only)
                (repeat' (first | (k_unfold; (try dsimp only)) | ((fail_if_success (with_reducible show wpAny _ _ (setItem _ _ _) _ _ _)); (fail_if_success (with_reducible show wpAny _ _ (subscriptTail _ _ _ _) _ _ _)); (fail_if_success (with_reducible show wpAny _ _ (compareOp _ _ _) _ _ _)); (((with_reducible show wpAny _ _ _ _ _ _); (fail_if_success (with_reducible show wpAny _ _ (exec (Stmt.While _ _ _ _) _) _ _ _)); (fail_if_success (with_reducible show wpAny _ _ (exec (Stmt.Raise _ _ _) _) _ _ _)); (fail_if_success (with_reducible show wpAny _ _ (exec (Stmt.Try _ _ _ _ _) _) _ _ _)); (fail_if_success (with_reducible show wpAny _ _ (exec (Stmt.For _ _ _ _ _) _) _ _ _)); (fail_if_success (with_reducible show wpAny _ _ (call (Value.ref _) _) _ _ _)); (fail_if_success (with_reducible show wpAny _ _ (call (Value.builtin "dict.pop") _) _ _ _)); (fail_if_success (with_reducible show wpAny _ _ (eval (Expr.ListComp _ _ _ _) _) _ _ _)); (fail_if_success (with_reducible show wpAny _ _ (exec (Stmt.Assign _ (Expr.ListComp _ _ _ _) _) _) _ _ _)); (fail_if_success (with_reducible show wpAny _ _ (call (Value.builtin "sorted") _) _ _ _)); (fail_if_success (with_reducible show wpAny _ _ (call (Value.type "list") [Value.ref _]) _ _ _)); (fail_if_success (with_reducible show wpAny _ _ (call (Value.type "dict") [Value.ref _]) _ _ _)); (try dsimp only); walk1))) | (first | ((with_reducible show ite _ _ _); walk1) | ((with_reducible show _ ∧ _); walk1) | (leave1; (try dsimp only)) | (dsimp only [InvPostN]) | fail "no step")))
                refine ⟨[(Str.ofString "P", .str tx tt)], ⟨strKind_is _ _ _ _, rfl, trivial⟩, Heap.DictOf.new (knd := PySem.strKind prog w) _, ?_⟩
                intro h83 hd83 hs83
                refine dict_eq (knd := PySem.strKind prog w) lw.loF (F82.notModules (modules_low TC.nolimit)) (Heap.dictOf_iff.mpr ⟨oG, hs83.extBut _ _ (Nat.ne_of_lt (Heap.lt_size (N82 (dF, oG) (by k_mem)).1)) (Heap.get?_push_of_some _ (N82 (dF, oG) (by k_mem)).1), iG'⟩) hd83 ?_ (SameD.refl _) ?_
                · show au + 3 < _; omega
                (try dsimp only)
                refine h _ _ fun b o e => ?_
                have q := F82.keep b o (holes_some.mp (kC b o e)).1
                exact hs83.extBut b o (Nat.ne_of_lt (Heap.lt_size q)) (Heap.get?_push_of_some _ q)

def valM (kvP kvO : List (Int × Value)) (k : Int) : Value := (valueAt kvO k).getD ((valueAt kvP k).getD .none)
def bothL (kvP kvO : List (Int × Value)) (ks : List Int) : List (Int × Value) := ks.map fun k => (k, valM kvP kvO k)
section
variable {kvP kvO : List (Int × Value)} {k : Int}
theorem valM_str (sP : AllStr kvP) (sO : AllStr kvO) (nd : (kvO.map (·.1)).Nodup) (hk : k ∈ kvP.map (·.1) ++ kvO.map (·.1)) : ∃ x t, valM kvP kvO k = .str x t ∧ at' (mergeP (proj kvP) (proj kvO)) k = some x := by
  rw [at_merge (by rw [keys_proj]; exact nd), at_proj, at_proj]
  unfold valM
  cases ho : valueAt kvO k with
  | some v =>
    obtain ⟨t, e⟩ := sO.at ho
    exact ⟨strOf v, t, e, rfl⟩
  | none =>
    have hk' : k ∈ kvP.map (·.1) := by
      rcases List.mem_append.mp hk with h | h
      · exact h
      · have := valueAt_keys.mpr h
        rw [ho] at this; cases this
    obtain ⟨v, hv⟩ := Option.isSome_iff_exists.mp (valueAt_keys.mpr hk')
    obtain ⟨t, e⟩ := sP.at hv
    rw [hv]
    exact ⟨strOf v, t, e, rfl⟩
theorem bothL_vals (ks : List Int) : ∀ p ∈ bothL kvP kvO ks, (some (valM kvP kvO p.1)) = some p.2 := by
  intro p hp
  obtain ⟨k, _, rfl⟩ := List.mem_map.mp hp
  rfl
theorem bothL_keys (ks : List Int) : (bothL kvP kvO ks).map (·.1) = ks := by
  unfold bothL
  rw [List.map_map]
  exact List.map_id _
theorem both_all (sP : AllStr kvP) (sO : AllStr kvO) (nd : (kvO.map (·.1)).Nodup) : AllStr (fillD (bothL kvP kvO (kvP.map (·.1) ++ kvO.map (·.1)))) := by
  intro p hp
  obtain ⟨k, hk, rfl⟩ := List.mem_map.mp (fillD_mem hp)
  obtain ⟨x, t, e, _⟩ := valM_str sP sO nd hk
  exact ⟨x, t, e⟩
theorem both_at (sP : AllStr kvP) (sO : AllStr kvO) (nd : (kvO.map (·.1)).Nodup) (k : Int) : at' (mergeP (proj kvP) (proj kvO)) k = at' (proj (fillD (bothL kvP kvO (kvP.map (·.1) ++ kvO.map (·.1))))) k := by
  rw [at_proj, fillD_at (g := fun k => some (valM kvP kvO k)) (bothL_vals _), bothL_keys]
  by_cases hk : k ∈ kvP.map (·.1) ++ kvO.map (·.1)
  · rw [if_pos hk]
    obtain ⟨x, t, e, h⟩ := valM_str sP sO nd hk
    rw [h, e]; rfl
  · rw [if_neg hk]
    rw [List.mem_append] at hk
    rw [at_merge (by rw [keys_proj]; exact nd), at_none.mpr (by rw [keys_proj]; exact fun h => hk (.inr h)), at_none.mpr (by rw [keys_proj]; exact fun h => hk (.inl h))]
    rfl
end
section
variable {prog : Program} {w : World} {A : Around} {E : Value → Shared → Prop} {s : Shared} {K : Type} [DecidableEq K] {knd : KeyKind prog w K} {d : Addr} {kvs : List (K × Value)} {k : K} {key dflt : Value} {Q : Value → Shared → Prop}
theorem dget1 (hkey : knd.is k key = true) (hd : s.heap.DictOf knd d kvs) (lo : (d == sysModules) = false) (h : Q ((valueAt kvs k).getD .none) { s with toks := s.toks + 1 }) : wpAny (model prog w) A (call (.builtin "dict.get") [.ref d, key]) Q E s :=
  call_meetsIn PySem.F.slot_dict_get hd.typeIs PySem.F.entry_dict_get (PySem.F.args_dict_get_2 _ _) (meets_dict_get knd d hkey lo) ⟨_, hd.mapOf, h⟩
theorem dget2 (hkey : knd.is k key = true) (hd : s.heap.DictOf knd d kvs) (lo : (d == sysModules) = false) (h : Q ((valueAt kvs k).getD dflt) { s with toks := s.toks + 1 }) : wpAny (model prog w) A (call (.builtin "dict.get") [.ref d, key, dflt]) Q E s :=
  call_meetsIn PySem.F.slot_dict_get hd.typeIs PySem.F.entry_dict_get (PySem.F.args_dict_get_3 _ _ _) (meets_dict_get_default knd d hkey lo dflt) ⟨_, hd.mapOf, h⟩
end
section
variable {prog : Program} {w : World} {A : Around} {E : Value → Shared → Prop} {s : Shared} {K : Type} [DecidableEq K] {knd : KeyKind prog w K} {d : Addr} {kvs : List (K × Value)} {pl : Sem Bool} {Q : Value × List Value → Shared → Prop}
theorem dmeth_get (hd : s.heap.DictOf knd d kvs) (h : Q (.builtin "dict.get", [.ref d]) s) : wpAny (model prog w) A (getMethod (.ref d) (Str.ofString "get") pl) Q E s :=
  getMethod_builtin hd.typeIs PySem.F.plainAttrs_dict PySem.F.slot_dict_get PySem.F.type_dict_get hd.mapOf.noDict h
end
theorem off_snoc {I C Dl : Addr} {l : List (Addr × Obj)} {q : Addr × Obj} (off : LCg.Off3 I C Dl l) (h1 : I < q.1) (h2 : C < q.1) (h3 : Dl < q.1) : LCg.Off3 I C Dl (l ++ [q]) := by
  have m := off.mem
  refine LCg.Off3.of fun p hp => ?_
  rcases List.mem_append.mp hp with hp | hp
  · exact m _ hp
  · rw [List.mem_singleton.mp hp]
    exact ⟨Nat.ne_of_gt h1, Nat.ne_of_gt h2, Nat.ne_of_gt h3⟩
theorem sub_snoc {a b c q : Addr × Obj} {l : List (Addr × Obj)} {p : Addr × Obj} (hp : p ∈ a :: b :: c :: (l ++ [q])) : p ∈ q :: a :: b :: c :: l := by
  simp only [List.mem_cons, List.mem_append, List.not_mem_nil, or_false] at hp ⊢
  rcases hp with h | h | h | h | h <;> simp [h]
theorem one_same {K : Type} [DecidableEq K] {k : K} {x : Str} {t u : Tok} : SameD [(k, Value.str x t)] [(k, Value.str x u)] := by
  refine ⟨fun j v h => ?_, fun _ h => h⟩
  have hm := valueAt_some h
  rw [List.mem_singleton] at hm
  injection hm with e1 e2
  subst e1 e2
  exact ⟨.str x u, valueAt_mem (List.nodup_cons.mpr ⟨List.not_mem_nil, List.nodup_nil⟩) (.head _), .inr (.inr ⟨_, _, _, rfl, rfl⟩)⟩

theorem good_true {c : ClaimW} {cl : Str → Option Addr} {mean : ExcName → Option Value} {args : List WData} {s s' : Shared} (hr : ∀ cls, c.raises args cls = false) (hp : c.post args (.bool true) args = true) (hk : ∀ b o, s.heap.get? b = some o → s'.heap.get? b = some o) (ho : s'.os = s.os) (hg : s'.gens = #[]) :
    GoodW c cl mean args s (.ok (.ret (.bool true))) s' :=
  ⟨.inl ⟨_, _, [], rfl, hr, ReadsW.bool true, hp, fun _ => ⟨List.nodup_nil, fun _ hm => (nomatch hm)⟩⟩, hk, ho, hg⟩
theorem ints_take {vs : List Value} {ns : List Int} (h : IntsAre vs ns) : ∀ n, IntsAre (vs.take n) (ns.take n) := by
  induction h with
  | nil => intro n; rw [List.take_nil, List.take_nil]; exact .nil
  | cons k t r ih =>
    intro n
    cases n with
    | zero => exact .nil
    | succ n => exact .cons k t (ih n)
theorem strs_each {prog : Program} {w : World} {A : Around} {s : Shared} {v v' : List Value} {ss : List Str} (h : StrsAre v ss) (h' : StrsAre v' ss) :
    ∀ j (h1 : j < v.toArray.size) (h2 : j < v'.toArray.size), EqW prog w A s v.toArray[j] v'.toArray[j] := fun j h1 h2 => by
  have h1' : j < v.length := by simpa using h1
  have h2' : j < v'.length := by simpa using h2
  obtain ⟨y, t, e, hy⟩ := h.item j _ (List.getElem?_eq_getElem h1')
  obtain ⟨y', t', e', hy'⟩ := h'.item j _ (List.getElem?_eq_getElem h2')
  rw [hy] at hy'
  obtain rfl := Option.some.inj hy'
  have q1 : v.toArray[j] = .str y t := by simpa using e
  have q2 : v'.toArray[j] = .str y t' := by simpa using e'
  rw [q1, q2]
  exact VEq.eqW (.inr (.inr ⟨_, _, _, rfl, rfl⟩))
def tupIOf (p : Addr × (Int × Tok × Value)) : Addr × Obj := (p.1, { cls := .type "tuple", data := .seq #[.int p.2.1 p.2.2.1, p.2.2.2] })
theorem tupI_at {prog : Program} {w : World} {hh : Heap} {ts : List (Addr × (Int × Tok × Value))} {P : List (Int × Value)} (N10 : ∀ p ∈ ts.map tupIOf, hh.get? p.1 = some p.2) (hts : ts.map (fun p => (p.2.1, p.2.2.2)) = P) {i : Nat} {v : Value} (hv : (ts.map fun p => Value.ref p.1)[i]? = some v) :
    ∃ a key k x, v = .ref a ∧ hh.get? a = some { cls := .type "tuple", data := .seq #[key, x] } ∧ P[i]? = some (k, x) ∧ (intKind prog w).is k key = true := by
  rw [List.getElem?_map] at hv
  obtain ⟨p, hp, rfl⟩ := Option.map_eq_some_iff.mp hv
  refine ⟨p.1, _, p.2.1, p.2.2.2, rfl, N10 _ (List.mem_map_of_mem (List.mem_of_getElem? hp)), ?_, intKind_is _ _ _ _⟩
  rw [← hts, List.getElem?_map, hp]
  rfl
theorem law_rm (env : Env) : Rm (callerA.deeper env) 25 := ⟨by show 1 + claimMargin + 1 + 25 < recursionLimit; decide, by show 4 + 3 + 40 * 25 + 40 < cLine; decide, rfl⟩
theorem law_u (env : Env) : (callerA.deeper env).units < cLine := by show 4 + 3 < cLine; decide
theorem Rm.le {A : Around} {n m : Nat} (r : Rm A n) (h : m ≤ n) : Rm A m := ⟨Nat.lt_of_le_of_lt (Nat.add_le_add_left h _) r.d, Nat.lt_of_le_of_lt (by omega) r.u, r.h⟩
theorem law_holds : PySem.Challenge.rw_pc0005_01.Holds := Mine.hd (by
  k_go0
  all_goals try k_fold
  (try dsimp only)
  rename_i w s0 s mg mb G Y fa of pm doc ho hgens KX XM V GL T B TE TW w11 w10 M w9 w8 hcd ns hs hlay0 hL1 hr1 hl2 as6 as5 la vs as2 hL ra w1 r0 hI hr hc63 hcT K0 hD h1 tk1 F0 o2 o1 hc2 hc1 N0 X0
  have F1 : Fr s.heap s.heap.objs.size h1 (fun y => if y = Str.ofString "script" then some (.ref la) else none) := F0
  have hc2' : o2.data = .cell none := hc2
  have hc1' : o1.data = .cell none := hc1
  have c0 : Cx w _ mg mb s.heap := ⟨KX, T⟩
  have hq : ∀ h' tk, (∀ b o, s.heap.get? b = some o → h'.get? b = some o) → qk (.ret (.bool true)) { s with heap := h', toks := tk } := fun h' tk hk => good_true (fun _ => rfl) (by wrow_post) hk rfl hgens
  clear_value qk ek
  clear F0 hc2 hc1 X0 G Y ho hgens XM V GL B TE TW M hcd hs hlay0 hL1 hr1 hl2 ra w1 r0 hr hD K0
  generalize hLe : s.heap.objs.size = L at F1 N0 ⊢
  (repeat' (first | (k_unfold; (try dsimp only)) | ((fail_if_success (with_reducible show wpAny _ _ (setItem _ _ _) _ _ _)); (((with_reducible show wpAny _ _ _ _ _ _); (fail_if_success (with_reducible show wpAny _ _ (exec (Stmt.While _ _ _ _) _) _ _ _)); (fail_if_success (with_reducible show wpAny _ _ (exec (Stmt.Raise _ _ _) _) _ _ _)); (fail_if_success (with_reducible show wpAny _ _ (exec (Stmt.Try _ _ _ _ _) _) _ _ _)); (fail_if_success (with_reducible show wpAny _ _ (exec (Stmt.For _ _ _ _ _) _) _ _ _)); (fail_if_success (with_reducible show wpAny _ _ (call (Value.ref _) _) _ _ _)); (fail_if_success (with_reducible show wpAny _ _ (call (Value.builtin "dict.pop") _) _ _ _)); (fail_if_success (with_reducible show wpAny _ _ (eval (Expr.ListComp _ _ _ _) _) _ _ _)); (fail_if_success (with_reducible show wpAny _ _ (exec (Stmt.Assign _ (Expr.ListComp _ _ _ _) _) _) _ _ _)); (fail_if_success (with_reducible show wpAny _ _ (call (Value.builtin "sorted") _) _ _ _)); (fail_if_success (with_reducible show wpAny _ _ (call (Value.type "list") [Value.ref _]) _ _ _)); (fail_if_success (with_reducible show wpAny _ _ (call (Value.type "dict") [Value.ref _]) _ _ _)); (try dsimp only); walk1))) | (first | ((with_reducible show ite _ _ _); walk1) | ((with_reducible show _ ∧ _); walk1) | (leave1; (try dsimp only)) | (dsimp only [InvPostN]) | fail "no step")))
  refine ListComp_J s.heap L (fun y => if y = Str.ofString "script" then some (.ref la) else none) (by with_unfolding_all rfl) (by decide) (by rfl) (by decide) (by rfl) ?_
  (repeat' (first | (k_unfold; (try dsimp only)) | ((fail_if_success (with_reducible show wpAny _ _ (setItem _ _ _) _ _ _)); (fail_if_success (with_reducible show wpAny _ _ (subscriptTail _ _ _ _) _ _ _)); (fail_if_success (with_reducible show wpAny _ _ (compareOp _ _ _) _ _ _)); (((with_reducible show wpAny _ _ _ _ _ _); (fail_if_success (with_reducible show wpAny _ _ (exec (Stmt.While _ _ _ _) _) _ _ _)); (fail_if_success (with_reducible show wpAny _ _ (exec (Stmt.Raise _ _ _) _) _ _ _)); (fail_if_success (with_reducible show wpAny _ _ (exec (Stmt.Try _ _ _ _ _) _) _ _ _)); (fail_if_success (with_reducible show wpAny _ _ (exec (Stmt.For _ _ _ _ _) _) _ _ _)); (fail_if_success (with_reducible show wpAny _ _ (call (Value.ref _) _) _ _ _)); (fail_if_success (with_reducible show wpAny _ _ (call (Value.builtin "dict.pop") _) _ _ _)); (fail_if_success (with_reducible show wpAny _ _ (eval (Expr.ListComp _ _ _ _) _) _ _ _)); (fail_if_success (with_reducible show wpAny _ _ (exec (Stmt.Assign _ (Expr.ListComp _ _ _ _) _) _) _ _ _)); (fail_if_success (with_reducible show wpAny _ _ (call (Value.builtin "sorted") _) _ _ _)); (fail_if_success (with_reducible show wpAny _ _ (call (Value.type "list") [Value.ref _]) _ _ _)); (fail_if_success (with_reducible show wpAny _ _ (call (Value.type "dict") [Value.ref _]) _ _ _)); (try dsimp only); walk1))) | (first | ((with_reducible show ite _ _ _); walk1) | ((with_reducible show _ ∧ _); walk1) | (leave1; (try dsimp only)) | (dsimp only [InvPostN]) | fail "no step")))
  have hvl : vs.length = ns.length := hI.length
  have hz : IntsAre (kms_pick vs.toArray.toList none (some 30)) (ns.take 30) := by
    have e : kms_pick vs.toArray.toList none (some 30) = vs.take 30 := by
      show (vs.drop 0).take (min 30 vs.length - 0) = _
      rw [List.drop_zero, Nat.sub_zero]
      by_cases h : 30 ≤ vs.length
      · rw [Nat.min_eq_left h]
      · rw [Nat.min_eq_right (by omega), List.take_length, List.take_of_length_le (by omega)]
    rw [e]
    exact ints_take hI 30
  k_dflt (refine' kms_slice_lit (s := ⟨h1, s.gens, s.drawn, _, s.os⟩) ?jF ?jN ?jl ?jp ?jq ?je ?_ ?js ?jt ?jz; (case jF => exact F1); (case jN => exact N0); (case jl => exact list_keep hL F1.keep); (case jp => exact .none); (case jq => exact .int _ _); (case je => exact rfl); (case js => with_unfolding_all rfl); (case jt => kmk_pure); (case jz => (rw [sizeLine_eq, List.size_toArray]; omega)))
  intro D3 h3 F3 N3 lt3
  generalize kms_pick vs.toArray.toList none (some 30) = zs at N3 hz
  have hzl : zs.length ≤ 30 := by rw [hz.length, List.length_take]; exact Nat.min_le_left _ _
  (try dsimp only)
  refine SrcJ.list (vs := zs) (ol := W.listOf zs.toArray 0) (fun i ys nw => nw = [(D3, W.listOf zs.toArray 0), (L + 1 + 1, o2), (L + 1, o1)] ∧ ∃ ms, IntsAre ys ms ∧ (∀ k ∈ ms, 0 ≤ k) ∧ ms.length = i) rfl ⟨_, (N3 _ (.head _)).1, rfl, _, rfl⟩ (N3 _ (.head _)).1 (by rw [sizeLine_eq]; omega) F3 N3 ⟨rfl, [], .nil, all_nil, rfl⟩ (.inr ?_) ?_ ?_
  · rintro i ys nw ⟨rfl, _⟩; exact .head _
  · rintro g1 i v ys nw I oI C oC Dl m2 h4 tk4 E' hi4 hv ⟨rfl, ms, hys, hms, hml⟩ hC hx F4 N4 off4 ne4
    obtain ⟨k, tk, rfl, hk⟩ := ints_at hz hv
    refine wpAny_tests_nil ?_
    rw [if_pos rfl]
    (repeat' (first | (k_unfold; (try dsimp only)) | ((fail_if_success (with_reducible show wpAny _ _ (setItem _ _ _) _ _ _)); (fail_if_success (with_reducible show wpAny _ _ (subscriptTail _ _ _ _) _ _ _)); (fail_if_success (with_reducible show wpAny _ _ (compareOp _ _ _) _ _ _)); (((with_reducible show wpAny _ _ _ _ _ _); (fail_if_success (with_reducible show wpAny _ _ (exec (Stmt.While _ _ _ _) _) _ _ _)); (fail_if_success (with_reducible show wpAny _ _ (exec (Stmt.Raise _ _ _) _) _ _ _)); (fail_if_success (with_reducible show wpAny _ _ (exec (Stmt.Try _ _ _ _ _) _) _ _ _)); (fail_if_success (with_reducible show wpAny _ _ (exec (Stmt.For _ _ _ _ _) _) _ _ _)); (fail_if_success (with_reducible show wpAny _ _ (call (Value.ref _) _) _ _ _)); (fail_if_success (with_reducible show wpAny _ _ (call (Value.builtin "dict.pop") _) _ _ _)); (fail_if_success (with_reducible show wpAny _ _ (eval (Expr.ListComp _ _ _ _) _) _ _ _)); (fail_if_success (with_reducible show wpAny _ _ (exec (Stmt.Assign _ (Expr.ListComp _ _ _ _) _) _) _ _ _)); (fail_if_success (with_reducible show wpAny _ _ (call (Value.builtin "sorted") _) _ _ _)); (fail_if_success (with_reducible show wpAny _ _ (call (Value.type "list") [Value.ref _]) _ _ _)); (fail_if_success (with_reducible show wpAny _ _ (call (Value.type "dict") [Value.ref _]) _ _ _)); (try dsimp only); walk1))) | (first | ((with_reducible show ite _ _ _); walk1) | ((with_reducible show _ ∧ _); walk1) | (leave1; (try dsimp only)) | (dsimp only [InvPostN]) | fail "no step")))
    rename Fr _ _ _ _ => F4b
    rename News _ _ _ _ => N4b
    refine TurnEnd.intro F4b N4b _ (fun _ h => h) off4 ⟨rfl, ms ++ [if k < 0 then -k else k], IntsAre.append hys (.cons _ _ .nil), ?_, by rw [List.length_append, hml]; rfl⟩
    intro q hq
    rcases List.mem_append.mp hq with hq | hq
    · exact hms q hq
    · rw [List.mem_singleton.mp hq]
      split <;> omega
  · rintro ys nw ⟨rfl, ms, hys, hms, hml⟩ D5 h5 tk5 F5 N5 ne5
    (try dsimp only)
    (repeat' (first | (k_unfold; (try dsimp only)) | ((fail_if_success (with_reducible show wpAny _ _ (setItem _ _ _) _ _ _)); (fail_if_success (with_reducible show wpAny _ _ (subscriptTail _ _ _ _) _ _ _)); (fail_if_success (with_reducible show wpAny _ _ (compareOp _ _ _) _ _ _)); (((with_reducible show wpAny _ _ _ _ _ _); (fail_if_success (with_reducible show wpAny _ _ (exec (Stmt.While _ _ _ _) _) _ _ _)); (fail_if_success (with_reducible show wpAny _ _ (exec (Stmt.Raise _ _ _) _) _ _ _)); (fail_if_success (with_reducible show wpAny _ _ (exec (Stmt.Try _ _ _ _ _) _) _ _ _)); (fail_if_success (with_reducible show wpAny _ _ (exec (Stmt.For _ _ _ _ _) _) _ _ _)); (fail_if_success (with_reducible show wpAny _ _ (call (Value.ref _) _) _ _ _)); (fail_if_success (with_reducible show wpAny _ _ (call (Value.builtin "dict.pop") _) _ _ _)); (fail_if_success (with_reducible show wpAny _ _ (eval (Expr.ListComp _ _ _ _) _) _ _ _)); (fail_if_success (with_reducible show wpAny _ _ (exec (Stmt.Assign _ (Expr.ListComp _ _ _ _) _) _) _ _ _)); (fail_if_success (with_reducible show wpAny _ _ (call (Value.builtin "sorted") _) _ _ _)); (fail_if_success (with_reducible show wpAny _ _ (call (Value.type "list") [Value.ref _]) _ _ _)); (fail_if_success (with_reducible show wpAny _ _ (call (Value.type "dict") [Value.ref _]) _ _ _)); (try dsimp only); walk1))) | (first | ((with_reducible show ite _ _ _); walk1) | ((with_reducible show _ ∧ _); walk1) | (leave1; (try dsimp only)) | (dsimp only [InvPostN]) | fail "no step")))
    rename_i sp h6a lt6 h6 F6 N6'
    have sl : Spl ys ms := ⟨hys, hms, by omega⟩
    have hyl : ys.length = ms.length := hys.length
    have N6 := news_sub (l' := [(sp, W.listOf #[.int 0 tk1, .ref D5] 0), (D5, LCg.lst ys), (L + 1 + 1, o2), (L + 1, o1)]) N6' (by (((repeat' (first | exact all_nil | refine all_cons ?_ ?_)) <;> first | k_mem | (exact fun p hp => by repeat (first | exact hp | exact List.mem_append_left _ hp | apply List.Mem.tail)))))
    have d5 : @Ne Nat D5 sp := Nat.ne_of_lt lt6.1
    have nd6 : ([sp, D5, L + 1 + 1, L + 1] : List Addr).Nodup := by
      have q1 : @Ne Nat (L + 1 + 1) sp := Nat.ne_of_lt lt6.2.2.1
      have q2 : @Ne Nat (L + 1) sp := Nat.ne_of_lt lt6.2.2.2
      have q3 : @Ne Nat (L + 1 + 1) D5 := ne5 (L + 1 + 1, o2) (.tail _ (.head _))
      have q4 : @Ne Nat (L + 1) D5 := ne5 (L + 1, o1) (.tail _ (.tail _ (.head _)))
      have q5 : @Ne Nat (L + 1 + 1) (L + 1) := by omega
      simp only [List.nodup_cons, List.mem_cons, List.not_mem_nil, or_false, not_or, List.nodup_nil, not_false_eq_true, and_true]
      exact ⟨⟨Ne.symm d5, Ne.symm q1, Ne.symm q2⟩, ⟨Ne.symm q3, Ne.symm q4⟩, q5⟩
    clear N6' lt6 ne5
    refine ltext_spec (c0.over F6 N6 (as := [sp]) fun b hb => ⟨W.listOf #[.int 0 tk1, .ref D5] 0, by rw [List.mem_singleton.mp hb]; exact .head _⟩) ((law_rm _).le (by decide)) (On.hole1 N6 (.head _)) ⟨tk1, 0, rfl⟩ (holes_list (l := D5) ⟨_, (N6 (D5, _) (by k_mem)).1, rfl, _, rfl⟩ (by simpa using d5)) sl (n := 0) (by omega) ?_
    intro h7 tk7 a7 d7 ot7 od7 tx tt o7 n7 P on7 nea7 ned7 io7 hn7 hot7 pp7 lt7
    subst hot7
    obtain ⟨F7, N7⟩ := On.back1x (led := [(a7, { cls := .type "tuple", data := .seq #[.str tx tt, .ref d7] }), (d7, od7)]) (o' := o7) F6 N6 (updF_nd [] nd6) (on7.sub (by (((repeat' (first | exact all_nil | refine all_cons ?_ ?_)) <;> first | k_mem | (exact fun p hp => by repeat (first | exact hp | exact List.mem_append_left _ hp | apply List.Mem.tail)))))) (all_cons nea7 (all_cons ned7 all_nil))
    dsimp only [List.cons_append, List.nil_append] at N7
    obtain ⟨loP, kvP, hdP, asP, prP⟩ := pp7
    obtain ⟨od7', e7, iP⟩ := Heap.dictOf_iff.mp hdP
    obtain rfl : od7' = od7 := by
      have q := (N7 (d7, od7) (by k_mem)).1
      rw [e7] at q
      exact Option.some.inj q
    have ndA : ([a7, d7, sp, D5, L + 1 + 1, L + 1] : List Addr).Nodup := On.nd (led := [(a7, { cls := .type "tuple", data := .seq #[.str tx tt, .ref d7] }), (d7, od7')]) (news := [(sp, W.listOf #[.int 0 tk1, .ref D5] 0), (D5, LCg.lst ys), (L + 1 + 1, o2), (L + 1, o1)]) (on7.sub (by (((repeat' (first | exact all_nil | refine all_cons ?_ ?_)) <;> first | k_mem | (exact fun p hp => by repeat (first | exact hp | exact List.mem_append_left _ hp | apply List.Mem.tail)))))) (by
      have q : @Ne Nat a7 d7 := fun q => by
        have q1 := (N7 (a7, _) (.head _)).1
        have q2 := (N7 (d7, od7') (.tail _ (.head _))).1
        dsimp only at q1 q2
        rw [q, q2] at q1
        have q3 := isdict_cls iP
        rw [Option.some.inj q1] at q3
        simp at q3
      simp only [List.map_cons, List.map_nil, List.nodup_cons, List.mem_cons, List.not_mem_nil, or_false, not_false_eq_true, List.nodup_nil, and_true]
      exact q) nd6 (fun p hp => ⟨p.2, (N6 p hp).1⟩) (all_cons (by simpa using nea7) (all_cons (by simpa using ned7) all_nil))
    clear hdP e7 F6 N6 on7 nd6
    (try dsimp only)
    (repeat' (first | (k_unfold; (try dsimp only)) | ((fail_if_success (with_reducible show wpAny _ _ (setItem _ _ _) _ _ _)); (fail_if_success (with_reducible show wpAny _ _ (subscriptTail _ _ _ _) _ _ _)); (fail_if_success (with_reducible show wpAny _ _ (compareOp _ _ _) _ _ _)); (((with_reducible show wpAny _ _ _ _ _ _); (fail_if_success (with_reducible show wpAny _ _ (exec (Stmt.While _ _ _ _) _) _ _ _)); (fail_if_success (with_reducible show wpAny _ _ (exec (Stmt.Raise _ _ _) _) _ _ _)); (fail_if_success (with_reducible show wpAny _ _ (exec (Stmt.Try _ _ _ _ _) _) _ _ _)); (fail_if_success (with_reducible show wpAny _ _ (exec (Stmt.For _ _ _ _ _) _) _ _ _)); (fail_if_success (with_reducible show wpAny _ _ (call (Value.ref _) _) _ _ _)); (fail_if_success (with_reducible show wpAny _ _ (call (Value.builtin "dict.pop") _) _ _ _)); (fail_if_success (with_reducible show wpAny _ _ (eval (Expr.ListComp _ _ _ _) _) _ _ _)); (fail_if_success (with_reducible show wpAny _ _ (exec (Stmt.Assign _ (Expr.ListComp _ _ _ _) _) _) _ _ _)); (fail_if_success (with_reducible show wpAny _ _ (call (Value.builtin "sorted") _) _ _ _)); (fail_if_success (with_reducible show wpAny _ _ (call (Value.type "list") [Value.ref _]) _ _ _)); (fail_if_success (with_reducible show wpAny _ _ (call (Value.type "dict") [Value.ref _]) _ _ _)); (try dsimp only); walk1))) | (first | ((with_reducible show ite _ _ _); walk1) | ((with_reducible show _ ∧ _); walk1) | (leave1; (try dsimp only)) | (dsimp only [InvPostN]) | fail "no step")))
    rename Fr _ _ _ _ => F8
    rename News _ _ _ _ => N8
    refine stCN (own := [(a7, { cls := .type "tuple", data := .seq #[.str tx tt, .ref d7] }), (d7, od7'), (sp, o7), (D5, LCg.lst ys), (L + 1 + 1, o2)]) (rest := []) F8 N8 (c := L + 1) (v₀ := none) (by rfl) hc1' (nd_own (own := [(a7, { cls := .type "tuple", data := .seq #[.str tx tt, .ref d7] }), (d7, od7'), (sp, o7), (D5, LCg.lst ys), (L + 1 + 1, o2)]) (rest := []) ndA) (fun p hp => nomatch hp) ?_
    intro h9 o9 F9 N9' hc9
    have N9 := news_sub (l' := [(d7, od7'), (sp, o7), (D5, LCg.lst ys), (L + 1 + 1, o2), (L + 1, o9)]) N9' (by (((repeat' (first | exact all_nil | refine all_cons ?_ ?_)) <;> first | k_mem | (exact fun p hp => by repeat (first | exact hp | exact List.mem_append_left _ hp | apply List.Mem.tail)))))
    have ndB := (List.nodup_cons.mp ndA).2
    clear F8 N8 N9' hc1' ndA
    obtain ⟨rows, Rw, hfold⟩ := lt7.rows
    obtain ⟨ptx, fewP⟩ := lt7.ptx
    have okP := ptx.progOk (Nat.le_trans fewP (by decide))
    (try dsimp only)
    (repeat' (first | (k_unfold; (try dsimp only)) | ((fail_if_success (with_reducible show wpAny _ _ (setItem _ _ _) _ _ _)); (fail_if_success (with_reducible show wpAny _ _ (subscriptTail _ _ _ _) _ _ _)); (fail_if_success (with_reducible show wpAny _ _ (compareOp _ _ _) _ _ _)); (((with_reducible show wpAny _ _ _ _ _ _); (fail_if_success (with_reducible show wpAny _ _ (exec (Stmt.While _ _ _ _) _) _ _ _)); (fail_if_success (with_reducible show wpAny _ _ (exec (Stmt.Raise _ _ _) _) _ _ _)); (fail_if_success (with_reducible show wpAny _ _ (exec (Stmt.Try _ _ _ _ _) _) _ _ _)); (fail_if_success (with_reducible show wpAny _ _ (exec (Stmt.For _ _ _ _ _) _) _ _ _)); (fail_if_success (with_reducible show wpAny _ _ (call (Value.ref _) _) _ _ _)); (fail_if_success (with_reducible show wpAny _ _ (call (Value.builtin "dict.pop") _) _ _ _)); (fail_if_success (with_reducible show wpAny _ _ (eval (Expr.ListComp _ _ _ _) _) _ _ _)); (fail_if_success (with_reducible show wpAny _ _ (exec (Stmt.Assign _ (Expr.ListComp _ _ _ _) _) _) _ _ _)); (fail_if_success (with_reducible show wpAny _ _ (call (Value.builtin "sorted") _) _ _ _)); (fail_if_success (with_reducible show wpAny _ _ (call (Value.type "list") [Value.ref _]) _ _ _)); (fail_if_success (with_reducible show wpAny _ _ (call (Value.type "dict") [Value.ref _]) _ _ _)); (try dsimp only); walk1))) | (first | ((with_reducible show ite _ _ _); walk1) | ((with_reducible show _ ∧ _); walk1) | (leave1; (try dsimp only)) | (dsimp only [InvPostN]) | fail "no step")))
    refine loaded_spec (c0.keeps F9.keep) ((law_rm _).le (by decide)) Rw.len Rw.is Rw.ok Rw.few ?_
    rw [hfold]
    intro h10 tk10 a10 k10 n10 p10
    have F10 := F9.keeps k10
    have N10 := N9.grown k10
    clear F9 N9 k10
    (try dsimp only)
    (repeat' (first | (k_unfold; (try dsimp only)) | ((fail_if_success (with_reducible show wpAny _ _ (setItem _ _ _) _ _ _)); (fail_if_success (with_reducible show wpAny _ _ (subscriptTail _ _ _ _) _ _ _)); (fail_if_success (with_reducible show wpAny _ _ (compareOp _ _ _) _ _ _)); (((with_reducible show wpAny _ _ _ _ _ _); (fail_if_success (with_reducible show wpAny _ _ (exec (Stmt.While _ _ _ _) _) _ _ _)); (fail_if_success (with_reducible show wpAny _ _ (exec (Stmt.Raise _ _ _) _) _ _ _)); (fail_if_success (with_reducible show wpAny _ _ (exec (Stmt.Try _ _ _ _ _) _) _ _ _)); (fail_if_success (with_reducible show wpAny _ _ (exec (Stmt.For _ _ _ _ _) _) _ _ _)); (fail_if_success (with_reducible show wpAny _ _ (call (Value.ref _) _) _ _ _)); (fail_if_success (with_reducible show wpAny _ _ (call (Value.builtin "dict.pop") _) _ _ _)); (fail_if_success (with_reducible show wpAny _ _ (eval (Expr.ListComp _ _ _ _) _) _ _ _)); (fail_if_success (with_reducible show wpAny _ _ (exec (Stmt.Assign _ (Expr.ListComp _ _ _ _) _) _) _ _ _)); (fail_if_success (with_reducible show wpAny _ _ (call (Value.builtin "sorted") _) _ _ _)); (fail_if_success (with_reducible show wpAny _ _ (call (Value.type "list") [Value.ref _]) _ _ _)); (fail_if_success (with_reducible show wpAny _ _ (call (Value.type "dict") [Value.ref _]) _ _ _)); (try dsimp only); walk1))) | (first | ((with_reducible show ite _ _ _); walk1) | ((with_reducible show _ ∧ _); walk1) | (leave1; (try dsimp only)) | (dsimp only [InvPostN]) | fail "no step")))
    have pd : ∀ h : Heap, h.get? d7 = some od7' → ProgAt _ w h d7 P := fun h e => ⟨loP, kvP, Heap.dictOf_iff.mpr ⟨od7', e, iP⟩, asP, prP⟩
    refine progs_ne p10 (pd _ (N10 (d7, _) (by k_mem)).1) (law_u _) (fun _ => rfl) ?_
    clear p10 n10
    (try dsimp only)
    (repeat' (first | (k_unfold; (try dsimp only)) | ((fail_if_success (with_reducible show wpAny _ _ (setItem _ _ _) _ _ _)); (fail_if_success (with_reducible show wpAny _ _ (subscriptTail _ _ _ _) _ _ _)); (fail_if_success (with_reducible show wpAny _ _ (compareOp _ _ _) _ _ _)); (((with_reducible show wpAny _ _ _ _ _ _); (fail_if_success (with_reducible show wpAny _ _ (exec (Stmt.While _ _ _ _) _) _ _ _)); (fail_if_success (with_reducible show wpAny _ _ (exec (Stmt.Raise _ _ _) _) _ _ _)); (fail_if_success (with_reducible show wpAny _ _ (exec (Stmt.Try _ _ _ _ _) _) _ _ _)); (fail_if_success (with_reducible show wpAny _ _ (exec (Stmt.For _ _ _ _ _) _) _ _ _)); (fail_if_success (with_reducible show wpAny _ _ (call (Value.ref _) _) _ _ _)); (fail_if_success (with_reducible show wpAny _ _ (call (Value.builtin "dict.pop") _) _ _ _)); (fail_if_success (with_reducible show wpAny _ _ (eval (Expr.ListComp _ _ _ _) _) _ _ _)); (fail_if_success (with_reducible show wpAny _ _ (exec (Stmt.Assign _ (Expr.ListComp _ _ _ _) _) _) _ _ _)); (fail_if_success (with_reducible show wpAny _ _ (call (Value.builtin "sorted") _) _ _ _)); (fail_if_success (with_reducible show wpAny _ _ (call (Value.type "list") [Value.ref _]) _ _ _)); (fail_if_success (with_reducible show wpAny _ _ (call (Value.type "dict") [Value.ref _]) _ _ _)); (try dsimp only); walk1))) | (first | ((with_reducible show ite _ _ _); walk1) | ((with_reducible show _ ∧ _); walk1) | (leave1; (try dsimp only)) | (dsimp only [InvPostN]) | fail "no step")))
    rename Fr _ _ _ _ => F11
    rename News _ _ _ _ => N11
    refine saved_spec (c0.keeps F11.keep) ((law_rm _).le (by decide)) (pd _ (N11 (d7, _) (by k_mem)).1) okP ?_
    intro h12 tk12 t12 ns12 k12 hp12 hs12
    have F12 := F11.keeps k12
    have N12 := N11.grown k12
    clear F11 N11 k12
    have R12 := saved_rows ptx (Nat.le_trans fewP (by decide)) hp12
    (try dsimp only)
    (repeat' (first | (k_unfold; (try dsimp only)) | ((fail_if_success (with_reducible show wpAny _ _ (setItem _ _ _) _ _ _)); (fail_if_success (with_reducible show wpAny _ _ (subscriptTail _ _ _ _) _ _ _)); (fail_if_success (with_reducible show wpAny _ _ (compareOp _ _ _) _ _ _)); (((with_reducible show wpAny _ _ _ _ _ _); (fail_if_success (with_reducible show wpAny _ _ (exec (Stmt.While _ _ _ _) _) _ _ _)); (fail_if_success (with_reducible show wpAny _ _ (exec (Stmt.Raise _ _ _) _) _ _ _)); (fail_if_success (with_reducible show wpAny _ _ (exec (Stmt.Try _ _ _ _ _) _) _ _ _)); (fail_if_success (with_reducible show wpAny _ _ (exec (Stmt.For _ _ _ _ _) _) _ _ _)); (fail_if_success (with_reducible show wpAny _ _ (call (Value.ref _) _) _ _ _)); (fail_if_success (with_reducible show wpAny _ _ (call (Value.builtin "dict.pop") _) _ _ _)); (fail_if_success (with_reducible show wpAny _ _ (eval (Expr.ListComp _ _ _ _) _) _ _ _)); (fail_if_success (with_reducible show wpAny _ _ (exec (Stmt.Assign _ (Expr.ListComp _ _ _ _) _) _) _ _ _)); (fail_if_success (with_reducible show wpAny _ _ (call (Value.builtin "sorted") _) _ _ _)); (fail_if_success (with_reducible show wpAny _ _ (call (Value.type "list") [Value.ref _]) _ _ _)); (fail_if_success (with_reducible show wpAny _ _ (call (Value.type "dict") [Value.ref _]) _ _ _)); (try dsimp only); walk1))) | (first | ((with_reducible show ite _ _ _); walk1) | ((with_reducible show _ ∧ _); walk1) | (leave1; (try dsimp only)) | (dsimp only [InvPostN]) | fail "no step")))
    refine loaded_spec (c0.keeps F12.keep) ((law_rm _).le (by decide)) R12.len R12.is R12.ok R12.few ?_
    intro h13 tk13 a13 k13 n13 p13
    have F13 := F12.keeps k13
    have N13 := N12.grown k13
    clear F12 N12 k13 R12
    (try dsimp only)
    (repeat' (first | (k_unfold; (try dsimp only)) | ((fail_if_success (with_reducible show wpAny _ _ (setItem _ _ _) _ _ _)); (fail_if_success (with_reducible show wpAny _ _ (subscriptTail _ _ _ _) _ _ _)); (fail_if_success (with_reducible show wpAny _ _ (compareOp _ _ _) _ _ _)); (((with_reducible show wpAny _ _ _ _ _ _); (fail_if_success (with_reducible show wpAny _ _ (exec (Stmt.While _ _ _ _) _) _ _ _)); (fail_if_success (with_reducible show wpAny _ _ (exec (Stmt.Raise _ _ _) _) _ _ _)); (fail_if_success (with_reducible show wpAny _ _ (exec (Stmt.Try _ _ _ _ _) _) _ _ _)); (fail_if_success (with_reducible show wpAny _ _ (exec (Stmt.For _ _ _ _ _) _) _ _ _)); (fail_if_success (with_reducible show wpAny _ _ (call (Value.ref _) _) _ _ _)); (fail_if_success (with_reducible show wpAny _ _ (call (Value.builtin "dict.pop") _) _ _ _)); (fail_if_success (with_reducible show wpAny _ _ (eval (Expr.ListComp _ _ _ _) _) _ _ _)); (fail_if_success (with_reducible show wpAny _ _ (exec (Stmt.Assign _ (Expr.ListComp _ _ _ _) _) _) _ _ _)); (fail_if_success (with_reducible show wpAny _ _ (call (Value.builtin "sorted") _) _ _ _)); (fail_if_success (with_reducible show wpAny _ _ (call (Value.type "list") [Value.ref _]) _ _ _)); (fail_if_success (with_reducible show wpAny _ _ (call (Value.type "dict") [Value.ref _]) _ _ _)); (try dsimp only); walk1))) | (first | ((with_reducible show ite _ _ _); walk1) | ((with_reducible show _ ∧ _); walk1) | (leave1; (try dsimp only)) | (dsimp only [InvPostN]) | fail "no step")))
    refine progs_ne p13 (pd _ (N13 (d7, _) (by k_mem)).1) (law_u _) (saved_fold ptx hp12) ?_
    clear p13 n13 hp12 hs12
    (try dsimp only)
    (repeat' (first | (k_unfold; (try dsimp only)) | ((fail_if_success (with_reducible show wpAny _ _ (setItem _ _ _) _ _ _)); (fail_if_success (with_reducible show wpAny _ _ (subscriptTail _ _ _ _) _ _ _)); (fail_if_success (with_reducible show wpAny _ _ (compareOp _ _ _) _ _ _)); (((with_reducible show wpAny _ _ _ _ _ _); (fail_if_success (with_reducible show wpAny _ _ (exec (Stmt.While _ _ _ _) _) _ _ _)); (fail_if_success (with_reducible show wpAny _ _ (exec (Stmt.Raise _ _ _) _) _ _ _)); (fail_if_success (with_reducible show wpAny _ _ (exec (Stmt.Try _ _ _ _ _) _) _ _ _)); (fail_if_success (with_reducible show wpAny _ _ (exec (Stmt.For _ _ _ _ _) _) _ _ _)); (fail_if_success (with_reducible show wpAny _ _ (call (Value.ref _) _) _ _ _)); (fail_if_success (with_reducible show wpAny _ _ (call (Value.builtin "dict.pop") _) _ _ _)); (fail_if_success (with_reducible show wpAny _ _ (eval (Expr.ListComp _ _ _ _) _) _ _ _)); (fail_if_success (with_reducible show wpAny _ _ (exec (Stmt.Assign _ (Expr.ListComp _ _ _ _) _) _) _ _ _)); (fail_if_success (with_reducible show wpAny _ _ (call (Value.builtin "sorted") _) _ _ _)); (fail_if_success (with_reducible show wpAny _ _ (call (Value.type "list") [Value.ref _]) _ _ _)); (fail_if_success (with_reducible show wpAny _ _ (call (Value.type "dict") [Value.ref _]) _ _ _)); (try dsimp only); walk1))) | (first | ((with_reducible show ite _ _ _); walk1) | ((with_reducible show _ ∧ _); walk1) | (leave1; (try dsimp only)) | (dsimp only [InvPostN]) | fail "no step")))
    rename Fr _ _ _ _ => F14
    rename News _ _ _ _ => N14
    refine saved_spec (c0.keeps F14.keep) ((law_rm _).le (by decide)) (pd _ (N14 (d7, _) (by k_mem)).1) okP ?_
    intro h15 tk15 t15 ns15 k15 hp15 hs15
    have F15 := F14.keeps k15
    have N15 := N14.grown k15
    clear F14 N14 k15
    have hn15 : ∀ k ∈ ns15, k ∈ P.map (·.1) := fun k hk => hp15.mem_iff.mp hk
    have hl15 : ns15.length ≤ 5 := by rw [hp15.length_eq, List.length_map]; exact fewP
    have hsl := saved_len ptx hn15
    (try dsimp only)
    (repeat' (first | (k_unfold; (try dsimp only)) | ((fail_if_success (with_reducible show wpAny _ _ (setItem _ _ _) _ _ _)); (fail_if_success (with_reducible show wpAny _ _ (subscriptTail _ _ _ _) _ _ _)); (fail_if_success (with_reducible show wpAny _ _ (compareOp _ _ _) _ _ _)); (((with_reducible show wpAny _ _ _ _ _ _); (fail_if_success (with_reducible show wpAny _ _ (exec (Stmt.While _ _ _ _) _) _ _ _)); (fail_if_success (with_reducible show wpAny _ _ (exec (Stmt.Raise _ _ _) _) _ _ _)); (fail_if_success (with_reducible show wpAny _ _ (exec (Stmt.Try _ _ _ _ _) _) _ _ _)); (fail_if_success (with_reducible show wpAny _ _ (exec (Stmt.For _ _ _ _ _) _) _ _ _)); (fail_if_success (with_reducible show wpAny _ _ (call (Value.ref _) _) _ _ _)); (fail_if_success (with_reducible show wpAny _ _ (call (Value.builtin "dict.pop") _) _ _ _)); (fail_if_success (with_reducible show wpAny _ _ (eval (Expr.ListComp _ _ _ _) _) _ _ _)); (fail_if_success (with_reducible show wpAny _ _ (exec (Stmt.Assign _ (Expr.ListComp _ _ _ _) _) _) _ _ _)); (fail_if_success (with_reducible show wpAny _ _ (call (Value.builtin "sorted") _) _ _ _)); (fail_if_success (with_reducible show wpAny _ _ (call (Value.type "list") [Value.ref _]) _ _ _)); (fail_if_success (with_reducible show wpAny _ _ (call (Value.type "dict") [Value.ref _]) _ _ _)); (try dsimp only); walk1))) | (first | ((with_reducible show ite _ _ _); walk1) | ((with_reducible show _ ∧ _); walk1) | (leave1; (try dsimp only)) | (dsimp only [InvPostN]) | fail "no step")))
    rename_i l16 h16 k16 e16 sa16 len16 isl16 F16 N16
    (try dsimp only at isl16 N16)
    have hl16 : StrsAre (strValues l16) (ns15.map (savedTxt P) ++ [Str.ofString ""]) := by rw [← saved_split ptx hn15, ← e16]; exact sa16
    clear e16 sa16 len16 isl16
    generalize strValues l16 = v16 at N16 hl16
    generalize h15.objs.size = a16 at N16 ⊢
    have hkeys : kvP.map (·.1) = P.map (·.1) := by rw [← prP, keys_proj]
    have hkn : kvP.length ≤ 5 := by rw [← len_proj (kvs := kvP), prP]; exact fewP
    refine ListComp_J s.heap L (fun y => if y = Str.ofString "text" then some (.str tx tt) else if y = Str.ofString "spool" then some (.ref sp) else if y = Str.ofString "script" then some (.ref la) else none) (by with_unfolding_all rfl) (by decide) (by rfl) (by decide) (by rfl) ?_
    (repeat' (first | (k_unfold; (try dsimp only)) | ((fail_if_success (with_reducible show wpAny _ _ (setItem _ _ _) _ _ _)); (fail_if_success (with_reducible show wpAny _ _ (subscriptTail _ _ _ _) _ _ _)); (fail_if_success (with_reducible show wpAny _ _ (compareOp _ _ _) _ _ _)); (((with_reducible show wpAny _ _ _ _ _ _); (fail_if_success (with_reducible show wpAny _ _ (exec (Stmt.While _ _ _ _) _) _ _ _)); (fail_if_success (with_reducible show wpAny _ _ (exec (Stmt.Raise _ _ _) _) _ _ _)); (fail_if_success (with_reducible show wpAny _ _ (exec (Stmt.Try _ _ _ _ _) _) _ _ _)); (fail_if_success (with_reducible show wpAny _ _ (exec (Stmt.For _ _ _ _ _) _) _ _ _)); (fail_if_success (with_reducible show wpAny _ _ (call (Value.ref _) _) _ _ _)); (fail_if_success (with_reducible show wpAny _ _ (call (Value.builtin "dict.pop") _) _ _ _)); (fail_if_success (with_reducible show wpAny _ _ (eval (Expr.ListComp _ _ _ _) _) _ _ _)); (fail_if_success (with_reducible show wpAny _ _ (exec (Stmt.Assign _ (Expr.ListComp _ _ _ _) _) _) _ _ _)); (fail_if_success (with_reducible show wpAny _ _ (call (Value.builtin "sorted") _) _ _ _)); (fail_if_success (with_reducible show wpAny _ _ (call (Value.type "list") [Value.ref _]) _ _ _)); (fail_if_success (with_reducible show wpAny _ _ (call (Value.type "dict") [Value.ref _]) _ _ _)); (try dsimp only); walk1))) | (first | ((with_reducible show ite _ _ _); walk1) | ((with_reducible show _ ∧ _); walk1) | (leave1; (try dsimp only)) | (dsimp only [InvPostN]) | fail "no step")))
    rename Fr _ _ _ _ => F17
    rename News _ _ _ _ => N17
    refine sorted_dict rfl F17 N17 (Heap.dictOf_iff.mpr ⟨od7', (N17 (d7, _) (by k_mem)).1, iP⟩) loP (by omega) ?_
    intro D18 h18 tk18 vs18 ns18 e18 F18 N18 ne18 hi18 hp18 hs18
    rw [hkeys] at hp18
    obtain rfl : ns18 = ns15 := perm_same hp18 hp15 hs18 hs15
    (try dsimp only)
    clear F17 N17
    have hsz18 : vs18.length = ns18.length := hi18.length
    refine SrcJ.list (vs := vs18) (ol := listOf vs18.toArray e18) (fun i zs nw => nw = [(D18, listOf vs18.toArray e18), (a16, { cls := .type "list", data := .seq v16.toArray }), (d7, od7'), (sp, o7), (D5, LCg.lst ys), (L + 1 + 1, o2), (L + 1, o9)] ∧ StrsAre zs ((ns18.take i).map (savedTxt P))) rfl ⟨_, (N18 _ (.head _)).1, rfl, _, rfl⟩ (N18 _ (.head _)).1 (by rw [sizeLine_eq]; omega) F18 N18 ⟨rfl, .nil⟩ (.inr ?_) ?_ ?_
    · rintro i zs nw ⟨rfl, _⟩; exact .head _
    · rintro g1 i v zs nw I oI C oC Dl m2 h19 tk19 E' hi19 hv ⟨rfl, hzs⟩ hC hx F19 N19 off19 ne19
      refine wpAny_tests_nil ?_
      rw [if_pos rfl]
      obtain ⟨k, tk, rfl, hk⟩ := ints_at hi18 hv
      obtain ⟨x, hat, hln, hxt, hxn⟩ := at_some ptx (hn15 k (List.mem_of_getElem? hk))
      have htl := texts5_len _ hxt
      have hk0 : 0 ≤ k ∧ k ≤ 65529 := LineNo.all (P := fun k => 0 ≤ k ∧ k ≤ 65529) (by omega) (by omega) (by omega) (by omega) hln
      have hl : (Str.ofString (toString k)).length ≤ 100 := LineNo.all (P := fun k => (Str.ofString (toString k)).length ≤ 100) (by decide +kernel) (by decide +kernel) (by decide +kernel) (by decide +kernel) hln
      obtain ⟨tt', hvt⟩ : ∃ tt, valueAt kvP k = some (.str x tt) := by
        rw [← prP, at_proj] at hat
        obtain ⟨v, hv, rfl⟩ := Option.map_eq_some_iff.mp hat
        obtain ⟨tt, e⟩ := asP.at hv
        exact ⟨tt, by rw [hv, e]; rfl⟩
      (repeat' (first | (k_unfold; (try dsimp only)) | ((fail_if_success (with_reducible show wpAny _ _ (setItem _ _ _) _ _ _)); (fail_if_success (with_reducible show wpAny _ _ (subscriptTail _ _ _ _) _ _ _)); (fail_if_success (with_reducible show wpAny _ _ (compareOp _ _ _) _ _ _)); (((with_reducible show wpAny _ _ _ _ _ _); (fail_if_success (with_reducible show wpAny _ _ (exec (Stmt.While _ _ _ _) _) _ _ _)); (fail_if_success (with_reducible show wpAny _ _ (exec (Stmt.Raise _ _ _) _) _ _ _)); (fail_if_success (with_reducible show wpAny _ _ (exec (Stmt.Try _ _ _ _ _) _) _ _ _)); (fail_if_success (with_reducible show wpAny _ _ (exec (Stmt.For _ _ _ _ _) _) _ _ _)); (fail_if_success (with_reducible show wpAny _ _ (call (Value.ref _) _) _ _ _)); (fail_if_success (with_reducible show wpAny _ _ (call (Value.builtin "dict.pop") _) _ _ _)); (fail_if_success (with_reducible show wpAny _ _ (eval (Expr.ListComp _ _ _ _) _) _ _ _)); (fail_if_success (with_reducible show wpAny _ _ (exec (Stmt.Assign _ (Expr.ListComp _ _ _ _) _) _) _ _ _)); (fail_if_success (with_reducible show wpAny _ _ (call (Value.builtin "sorted") _) _ _ _)); (fail_if_success (with_reducible show wpAny _ _ (call (Value.type "list") [Value.ref _]) _ _ _)); (fail_if_success (with_reducible show wpAny _ _ (call (Value.type "dict") [Value.ref _]) _ _ _)); (try dsimp only); walk1))) | (first | ((with_reducible show ite _ _ _); walk1) | ((with_reducible show _ ∧ _); walk1) | (leave1; (try dsimp only)) | (dsimp only [InvPostN]) | fail "no step")))
      rename Fr _ _ _ _ => F19b
      rename News _ _ _ _ => N19b
      refine dict_item (knd := intKind _ w) (Heap.dictOf_iff.mpr ⟨od7', (N19b (d7, _) (by k_mem)).1, iP⟩) (intKind_is _ _ _ _) hvt ?_
      (repeat' (first | (k_unfold; (try dsimp only)) | ((fail_if_success (with_reducible show wpAny _ _ (setItem _ _ _) _ _ _)); (fail_if_success (with_reducible show wpAny _ _ (subscriptTail _ _ _ _) _ _ _)); (fail_if_success (with_reducible show wpAny _ _ (compareOp _ _ _) _ _ _)); (((with_reducible show wpAny _ _ _ _ _ _); (fail_if_success (with_reducible show wpAny _ _ (exec (Stmt.While _ _ _ _) _) _ _ _)); (fail_if_success (with_reducible show wpAny _ _ (exec (Stmt.Raise _ _ _) _) _ _ _)); (fail_if_success (with_reducible show wpAny _ _ (exec (Stmt.Try _ _ _ _ _) _) _ _ _)); (fail_if_success (with_reducible show wpAny _ _ (exec (Stmt.For _ _ _ _ _) _) _ _ _)); (fail_if_success (with_reducible show wpAny _ _ (call (Value.ref _) _) _ _ _)); (fail_if_success (with_reducible show wpAny _ _ (call (Value.builtin "dict.pop") _) _ _ _)); (fail_if_success (with_reducible show wpAny _ _ (eval (Expr.ListComp _ _ _ _) _) _ _ _)); (fail_if_success (with_reducible show wpAny _ _ (exec (Stmt.Assign _ (Expr.ListComp _ _ _ _) _) _) _ _ _)); (fail_if_success (with_reducible show wpAny _ _ (call (Value.builtin "sorted") _) _ _ _)); (fail_if_success (with_reducible show wpAny _ _ (call (Value.type "list") [Value.ref _]) _ _ _)); (fail_if_success (with_reducible show wpAny _ _ (call (Value.type "dict") [Value.ref _]) _ _ _)); (try dsimp only); walk1))) | (first | ((with_reducible show ite _ _ _); walk1) | ((with_reducible show _ ∧ _); walk1) | (leave1; (try dsimp only)) | (dsimp only [InvPostN]) | fail "no step")))
      rename Fr _ _ _ _ => F19c
      rename News _ _ _ _ => N19c
      refine TurnEnd.intro F19c N19c _ (fun _ h => h) off19 ⟨rfl, ?_⟩
      have e1 : List.take (i + 1) ns18 = List.take i ns18 ++ [k] := by rw [List.take_add_one, hk]; rfl
      rw [e1, List.map_append]
      have e2 : savedTxt P k = Str.ofString (toString k) ++ Str.ofString " " ++ x := by unfold savedTxt; rw [hat]; rfl
      rw [List.map_singleton, e2]
      exact strs_snoc hzs
    · rintro zs nw ⟨rfl, hzs⟩ D20 h20 tk20 F20 N20 ne20
      rw [hsz18, List.take_length] at hzs
      have hzl : zs.length = ns18.length := by rw [hzs.length, List.length_map]
      (try dsimp only)
      (repeat' (first | (k_unfold; (try dsimp only)) | ((fail_if_success (with_reducible show wpAny _ _ (setItem _ _ _) _ _ _)); (fail_if_success (with_reducible show wpAny _ _ (subscriptTail _ _ _ _) _ _ _)); (fail_if_success (with_reducible show wpAny _ _ (compareOp _ _ _) _ _ _)); (((with_reducible show wpAny _ _ _ _ _ _); (fail_if_success (with_reducible show wpAny _ _ (exec (Stmt.While _ _ _ _) _) _ _ _)); (fail_if_success (with_reducible show wpAny _ _ (exec (Stmt.Raise _ _ _) _) _ _ _)); (fail_if_success (with_reducible show wpAny _ _ (exec (Stmt.Try _ _ _ _ _) _) _ _ _)); (fail_if_success (with_reducible show wpAny _ _ (exec (Stmt.For _ _ _ _ _) _) _ _ _)); (fail_if_success (with_reducible show wpAny _ _ (call (Value.ref _) _) _ _ _)); (fail_if_success (with_reducible show wpAny _ _ (call (Value.builtin "dict.pop") _) _ _ _)); (fail_if_success (with_reducible show wpAny _ _ (eval (Expr.ListComp _ _ _ _) _) _ _ _)); (fail_if_success (with_reducible show wpAny _ _ (exec (Stmt.Assign _ (Expr.ListComp _ _ _ _) _) _) _ _ _)); (fail_if_success (with_reducible show wpAny _ _ (call (Value.builtin "sorted") _) _ _ _)); (fail_if_success (with_reducible show wpAny _ _ (call (Value.type "list") [Value.ref _]) _ _ _)); (fail_if_success (with_reducible show wpAny _ _ (call (Value.type "dict") [Value.ref _]) _ _ _)); (try dsimp only); walk1))) | (first | ((with_reducible show ite _ _ _); walk1) | ((with_reducible show _ ∧ _); walk1) | (leave1; (try dsimp only)) | (dsimp only [InvPostN]) | fail "no step")))
      rename Fr _ _ _ _ => F22
      rename News _ _ _ _ => N22
      (try dsimp only at N22)
      refine new_lists (items := v16.toArray) (items2 := (zs ++ [Value.str (Str.ofString "") tk20]).toArray) ⟨_, (N22 (a16, _) (by k_mem)).1, rfl, _, rfl⟩ ⟨_, (N22 _ (.head _)).1, rfl, _, rfl⟩ ?_ (law_u _) (strs_each hl16 ?_) ?_
      · have q := hl16.length
        simp at q ⊢
        omega
      · exact strs_snoc (by assumption)
      have N23 := news_sub (l' := [(d7, od7'), (sp, o7), (D5, LCg.lst ys), (L + 1 + 1, o2), (L + 1, o9)]) N22 (by (((repeat' (first | exact all_nil | refine all_cons ?_ ?_)) <;> first | k_mem | (exact fun p hp => by repeat (first | exact hp | exact List.mem_append_left _ hp | apply List.Mem.tail)))))
      clear N22 ne20
      (try dsimp only)
      (repeat' (first | (k_unfold; (try dsimp only)) | ((fail_if_success (with_reducible show wpAny _ _ (setItem _ _ _) _ _ _)); (fail_if_success (with_reducible show wpAny _ _ (subscriptTail _ _ _ _) _ _ _)); (fail_if_success (with_reducible show wpAny _ _ (compareOp _ _ _) _ _ _)); (((with_reducible show wpAny _ _ _ _ _ _); (fail_if_success (with_reducible show wpAny _ _ (exec (Stmt.While _ _ _ _) _) _ _ _)); (fail_if_success (with_reducible show wpAny _ _ (exec (Stmt.Raise _ _ _) _) _ _ _)); (fail_if_success (with_reducible show wpAny _ _ (exec (Stmt.Try _ _ _ _ _) _) _ _ _)); (fail_if_success (with_reducible show wpAny _ _ (exec (Stmt.For _ _ _ _ _) _) _ _ _)); (fail_if_success (with_reducible show wpAny _ _ (call (Value.ref _) _) _ _ _)); (fail_if_success (with_reducible show wpAny _ _ (call (Value.builtin "dict.pop") _) _ _ _)); (fail_if_success (with_reducible show wpAny _ _ (eval (Expr.ListComp _ _ _ _) _) _ _ _)); (fail_if_success (with_reducible show wpAny _ _ (exec (Stmt.Assign _ (Expr.ListComp _ _ _ _) _) _) _ _ _)); (fail_if_success (with_reducible show wpAny _ _ (call (Value.builtin "sorted") _) _ _ _)); (fail_if_success (with_reducible show wpAny _ _ (call (Value.type "list") [Value.ref _]) _ _ _)); (fail_if_success (with_reducible show wpAny _ _ (call (Value.type "dict") [Value.ref _]) _ _ _)); (try dsimp only); walk1))) | (first | ((with_reducible show ite _ _ _); walk1) | ((with_reducible show _ ∧ _); walk1) | (leave1; (try dsimp only)) | (dsimp only [InvPostN]) | fail "no step")))
      refine ltext_spec (c0.over F22 N23 (as := [sp]) fun b hb => ⟨o7, by rw [List.mem_singleton.mp hb]; exact .tail _ (.head _)⟩) ((law_rm _).le (by decide)) (On.hole1 N23 (.tail _ (.head _))) io7 (holes_list (l := D5) ⟨_, (N23 (D5, _) (by k_mem)).1, rfl, _, rfl⟩ (by simpa using d5)) sl (by omega) ?_
      intro h24 tk24 a24 d24 ot24 od24 tx2 tt2 o24 n24 P2 on24 nea24 ned24 io24 hn24 hot24 pp24 lt24
      subst hot24
      obtain ⟨F24, N24⟩ := On.back1x (led := [(a24, { cls := .type "tuple", data := .seq #[.str tx2 tt2, .ref d24] }), (d24, od24)]) (o' := o24) F22 N23 (updF_nd [(d7, od7')] ndB) (on24.sub (by (((repeat' (first | exact all_nil | refine all_cons ?_ ?_)) <;> first | k_mem | (exact fun p hp => by repeat (first | exact hp | exact List.mem_append_left _ hp | apply List.Mem.tail)))))) (all_cons nea24 (all_cons ned24 all_nil))
      dsimp only [List.cons_append, List.nil_append] at N24
      obtain ⟨loO, kvO, hdO, asO, prO⟩ := pp24
      obtain ⟨od24', e24, iO⟩ := Heap.dictOf_iff.mp hdO
      obtain rfl : od24' = od24 := by
        have q := (N24 (d24, od24) (by k_mem)).1
        rw [e24] at q
        exact Option.some.inj q
      have ndC : ([a24, d24, d7, sp, D5, L + 1 + 1, L + 1] : List Addr).Nodup := On.nd (led := [(a24, { cls := .type "tuple", data := .seq #[.str tx2 tt2, .ref d24] }), (d24, od24')]) (news := [(d7, od7'), (sp, o7), (D5, LCg.lst ys), (L + 1 + 1, o2), (L + 1, o9)]) (on24.sub (by (((repeat' (first | exact all_nil | refine all_cons ?_ ?_)) <;> first | k_mem | (exact fun p hp => by repeat (first | exact hp | exact List.mem_append_left _ hp | apply List.Mem.tail)))))) (by
        have q : @Ne Nat a24 d24 := fun q => by
          have q1 := (N24 (a24, _) (.head _)).1
          have q2 := (N24 (d24, od24') (.tail _ (.head _))).1
          dsimp only at q1 q2
          rw [q, q2] at q1
          have q3 := isdict_cls iO
          rw [Option.some.inj q1] at q3
          simp at q3
        simp only [List.map_cons, List.map_nil, List.nodup_cons, List.mem_cons, List.not_mem_nil, or_false, not_false_eq_true, List.nodup_nil, and_true]
        exact q) ndB (fun p hp => ⟨p.2, (N23 p hp).1⟩) (all_cons (by simpa using nea24) (all_cons (by simpa using ned24) all_nil))
      clear hdO e24 F22 N23 on24 ndB
      (try dsimp only)
      (repeat' (first | (k_unfold; (try dsimp only)) | ((fail_if_success (with_reducible show wpAny _ _ (setItem _ _ _) _ _ _)); (fail_if_success (with_reducible show wpAny _ _ (subscriptTail _ _ _ _) _ _ _)); (fail_if_success (with_reducible show wpAny _ _ (compareOp _ _ _) _ _ _)); (((with_reducible show wpAny _ _ _ _ _ _); (fail_if_success (with_reducible show wpAny _ _ (exec (Stmt.While _ _ _ _) _) _ _ _)); (fail_if_success (with_reducible show wpAny _ _ (exec (Stmt.Raise _ _ _) _) _ _ _)); (fail_if_success (with_reducible show wpAny _ _ (exec (Stmt.Try _ _ _ _ _) _) _ _ _)); (fail_if_success (with_reducible show wpAny _ _ (exec (Stmt.For _ _ _ _ _) _) _ _ _)); (fail_if_success (with_reducible show wpAny _ _ (call (Value.ref _) _) _ _ _)); (fail_if_success (with_reducible show wpAny _ _ (call (Value.builtin "dict.pop") _) _ _ _)); (fail_if_success (with_reducible show wpAny _ _ (eval (Expr.ListComp _ _ _ _) _) _ _ _)); (fail_if_success (with_reducible show wpAny _ _ (exec (Stmt.Assign _ (Expr.ListComp _ _ _ _) _) _) _ _ _)); (fail_if_success (with_reducible show wpAny _ _ (call (Value.builtin "sorted") _) _ _ _)); (fail_if_success (with_reducible show wpAny _ _ (call (Value.type "list") [Value.ref _]) _ _ _)); (fail_if_success (with_reducible show wpAny _ _ (call (Value.type "dict") [Value.ref _]) _ _ _)); (try dsimp only); walk1))) | (first | ((with_reducible show ite _ _ _); walk1) | ((with_reducible show _ ∧ _); walk1) | (leave1; (try dsimp only)) | (dsimp only [InvPostN]) | fail "no step")))
      rename Fr _ _ _ _ => F25
      rename News _ _ _ _ => N25
      have ndC' : ([L + 1 + 1, a24, d24, d7, sp, D5, L + 1] : List Addr).Nodup := nd_rot (as := [a24, d24, d7, sp, D5]) ndC
      refine stCN (own := [(a24, { cls := .type "tuple", data := .seq #[.str tx2 tt2, .ref d24] }), (d24, od24'), (d7, od7'), (sp, o24), (D5, LCg.lst ys)]) (rest := [(L + 1, o9)]) F25 N25 (c := L + 1 + 1) (v₀ := none) (by rfl) hc2' (nd_own (own := [(a24, { cls := .type "tuple", data := .seq #[.str tx2 tt2, .ref d24] }), (d24, od24'), (d7, od7'), (sp, o24), (D5, LCg.lst ys)]) (rest := [(L + 1, o9)]) ndC) (nd_rest (own := [(a24, { cls := .type "tuple", data := .seq #[.str tx2 tt2, .ref d24] }), (d24, od24'), (d7, od7'), (sp, o24), (D5, LCg.lst ys)]) (rest := [(L + 1, o9)]) ndC) ?_
      intro h26 o26 F26 N26' hc26
      have N26 := news_sub (l' := [(d24, od24'), (d7, od7'), (sp, o24), (D5, LCg.lst ys), (L + 1 + 1, o26), (L + 1, o9)]) N26' (by (((repeat' (first | exact all_nil | refine all_cons ?_ ?_)) <;> first | k_mem | (exact fun p hp => by repeat (first | exact hp | exact List.mem_append_left _ hp | apply List.Mem.tail)))))
      clear F25 N25 N26' hc2' ndC ndC'
      obtain ⟨ptx2, fewP2⟩ := lt24.ptx
      have pd2 : ∀ h : Heap, h.get? d24 = some od24' → ProgAt _ w h d24 P2 := fun h e => ⟨loO, kvO, Heap.dictOf_iff.mpr ⟨od24', e, iO⟩, asO, prO⟩
      (try dsimp only)
      (repeat' (first | (k_unfold; (try dsimp only)) | ((fail_if_success (with_reducible show wpAny _ _ (setItem _ _ _) _ _ _)); (fail_if_success (with_reducible show wpAny _ _ (subscriptTail _ _ _ _) _ _ _)); (fail_if_success (with_reducible show wpAny _ _ (compareOp _ _ _) _ _ _)); (((with_reducible show wpAny _ _ _ _ _ _); (fail_if_success (with_reducible show wpAny _ _ (exec (Stmt.While _ _ _ _) _) _ _ _)); (fail_if_success (with_reducible show wpAny _ _ (exec (Stmt.Raise _ _ _) _) _ _ _)); (fail_if_success (with_reducible show wpAny _ _ (exec (Stmt.Try _ _ _ _ _) _) _ _ _)); (fail_if_success (with_reducible show wpAny _ _ (exec (Stmt.For _ _ _ _ _) _) _ _ _)); (fail_if_success (with_reducible show wpAny _ _ (call (Value.ref _) _) _ _ _)); (fail_if_success (with_reducible show wpAny _ _ (call (Value.builtin "dict.pop") _) _ _ _)); (fail_if_success (with_reducible show wpAny _ _ (eval (Expr.ListComp _ _ _ _) _) _ _ _)); (fail_if_success (with_reducible show wpAny _ _ (exec (Stmt.Assign _ (Expr.ListComp _ _ _ _) _) _) _ _ _)); (fail_if_success (with_reducible show wpAny _ _ (call (Value.builtin "sorted") _) _ _ _)); (fail_if_success (with_reducible show wpAny _ _ (call (Value.type "list") [Value.ref _]) _ _ _)); (fail_if_success (with_reducible show wpAny _ _ (call (Value.type "dict") [Value.ref _]) _ _ _)); (try dsimp only); walk1))) | (first | ((with_reducible show ite _ _ _); walk1) | ((with_reducible show _ ∧ _); walk1) | (leave1; (try dsimp only)) | (dsimp only [InvPostN]) | fail "no step")))
      refine merged_spec (c0.keeps F26.keep) ((law_rm _).le (by decide)) (pd _ (N26 (d7, _) (by k_mem)).1) (pd2 _ (N26 (d24, _) (by k_mem)).1) (by omega) (by omega) ?_
      intro h27 tk27 b27 k27 n27 p27
      obtain ⟨ptxB, fewB⟩ := merge_ptx ptx ptx2.all
      have okB := ptxB.progOk (by omega)
      obtain ⟨loB, kvB, hdB, asB, prB⟩ := p27
      obtain ⟨oB, eB, iB⟩ := Heap.dictOf_iff.mp hdB
      obtain ⟨F27, N27, ne27⟩ := news_add F26 N26 k27 n27 eB
      clear F26 N26 k27 n27 eB hdB
      (try dsimp only)
      (repeat' (first | (k_unfold; (try dsimp only)) | ((fail_if_success (with_reducible show wpAny _ _ (setItem _ _ _) _ _ _)); (fail_if_success (with_reducible show wpAny _ _ (subscriptTail _ _ _ _) _ _ _)); (fail_if_success (with_reducible show wpAny _ _ (compareOp _ _ _) _ _ _)); (((with_reducible show wpAny _ _ _ _ _ _); (fail_if_success (with_reducible show wpAny _ _ (exec (Stmt.While _ _ _ _) _) _ _ _)); (fail_if_success (with_reducible show wpAny _ _ (exec (Stmt.Raise _ _ _) _) _ _ _)); (fail_if_success (with_reducible show wpAny _ _ (exec (Stmt.Try _ _ _ _ _) _) _ _ _)); (fail_if_success (with_reducible show wpAny _ _ (exec (Stmt.For _ _ _ _ _) _) _ _ _)); (fail_if_success (with_reducible show wpAny _ _ (call (Value.ref _) _) _ _ _)); (fail_if_success (with_reducible show wpAny _ _ (call (Value.builtin "dict.pop") _) _ _ _)); (fail_if_success (with_reducible show wpAny _ _ (eval (Expr.ListComp _ _ _ _) _) _ _ _)); (fail_if_success (with_reducible show wpAny _ _ (exec (Stmt.Assign _ (Expr.ListComp _ _ _ _) _) _) _ _ _)); (fail_if_success (with_reducible show wpAny _ _ (call (Value.builtin "sorted") _) _ _ _)); (fail_if_success (with_reducible show wpAny _ _ (call (Value.type "list") [Value.ref _]) _ _ _)); (fail_if_success (with_reducible show wpAny _ _ (call (Value.type "dict") [Value.ref _]) _ _ _)); (try dsimp only); walk1))) | (first | ((with_reducible show ite _ _ _); walk1) | ((with_reducible show _ ∧ _); walk1) | (leave1; (try dsimp only)) | (dsimp only [InvPostN]) | fail "no step")))
      have hkO : kvO.length ≤ 5 := by rw [← len_proj (kvs := kvO), prO]; exact fewP2
      refine ListComp_J s.heap L (fun y => if y = Str.ofString "both" then some (.ref b27) else if y = Str.ofString "later" then some (.str tx2 tt2) else if y = Str.ofString "text" then some (.str tx tt) else if y = Str.ofString "spool" then some (.ref sp) else if y = Str.ofString "script" then some (.ref la) else none) (by with_unfolding_all rfl) (by decide) (by rfl) (by decide) (by rfl) ?_
      (repeat' (first | (k_unfold; (try dsimp only)) | ((fail_if_success (with_reducible show wpAny _ _ (setItem _ _ _) _ _ _)); (fail_if_success (with_reducible show wpAny _ _ (subscriptTail _ _ _ _) _ _ _)); (fail_if_success (with_reducible show wpAny _ _ (compareOp _ _ _) _ _ _)); (((with_reducible show wpAny _ _ _ _ _ _); (fail_if_success (with_reducible show wpAny _ _ (exec (Stmt.While _ _ _ _) _) _ _ _)); (fail_if_success (with_reducible show wpAny _ _ (exec (Stmt.Raise _ _ _) _) _ _ _)); (fail_if_success (with_reducible show wpAny _ _ (exec (Stmt.Try _ _ _ _ _) _) _ _ _)); (fail_if_success (with_reducible show wpAny _ _ (exec (Stmt.For _ _ _ _ _) _) _ _ _)); (fail_if_success (with_reducible show wpAny _ _ (call (Value.ref _) _) _ _ _)); (fail_if_success (with_reducible show wpAny _ _ (call (Value.builtin "dict.pop") _) _ _ _)); (fail_if_success (with_reducible show wpAny _ _ (eval (Expr.ListComp _ _ _ _) _) _ _ _)); (fail_if_success (with_reducible show wpAny _ _ (exec (Stmt.Assign _ (Expr.ListComp _ _ _ _) _) _) _ _ _)); (fail_if_success (with_reducible show wpAny _ _ (call (Value.builtin "sorted") _) _ _ _)); (fail_if_success (with_reducible show wpAny _ _ (call (Value.type "list") [Value.ref _]) _ _ _)); (fail_if_success (with_reducible show wpAny _ _ (call (Value.type "dict") [Value.ref _]) _ _ _)); (try dsimp only); walk1))) | (first | ((with_reducible show ite _ _ _); walk1) | ((with_reducible show _ ∧ _); walk1) | (leave1; (try dsimp only)) | (dsimp only [InvPostN]) | fail "no step")))
      rename Fr _ _ _ _ => F28
      rename News _ _ _ _ => N28
      refine list_dict rfl F28 N28 (Heap.dictOf_iff.mpr ⟨od7', (N28 (d7, _) (by k_mem)).1, iP⟩) loP (by omega) ?_
      intro D29 h29 tk29 vs29 e29 F29 N29 ne29 hi29
      clear F28 N28
      (try dsimp only)
      (repeat' (first | (k_unfold; (try dsimp only)) | ((fail_if_success (with_reducible show wpAny _ _ (setItem _ _ _) _ _ _)); (fail_if_success (with_reducible show wpAny _ _ (subscriptTail _ _ _ _) _ _ _)); (fail_if_success (with_reducible show wpAny _ _ (compareOp _ _ _) _ _ _)); (((with_reducible show wpAny _ _ _ _ _ _); (fail_if_success (with_reducible show wpAny _ _ (exec (Stmt.While _ _ _ _) _) _ _ _)); (fail_if_success (with_reducible show wpAny _ _ (exec (Stmt.Raise _ _ _) _) _ _ _)); (fail_if_success (with_reducible show wpAny _ _ (exec (Stmt.Try _ _ _ _ _) _) _ _ _)); (fail_if_success (with_reducible show wpAny _ _ (exec (Stmt.For _ _ _ _ _) _) _ _ _)); (fail_if_success (with_reducible show wpAny _ _ (call (Value.ref _) _) _ _ _)); (fail_if_success (with_reducible show wpAny _ _ (call (Value.builtin "dict.pop") _) _ _ _)); (fail_if_success (with_reducible show wpAny _ _ (eval (Expr.ListComp _ _ _ _) _) _ _ _)); (fail_if_success (with_reducible show wpAny _ _ (exec (Stmt.Assign _ (Expr.ListComp _ _ _ _) _) _) _ _ _)); (fail_if_success (with_reducible show wpAny _ _ (call (Value.builtin "sorted") _) _ _ _)); (fail_if_success (with_reducible show wpAny _ _ (call (Value.type "list") [Value.ref _]) _ _ _)); (fail_if_success (with_reducible show wpAny _ _ (call (Value.type "dict") [Value.ref _]) _ _ _)); (try dsimp only); walk1))) | (first | ((with_reducible show ite _ _ _); walk1) | ((with_reducible show _ ∧ _); walk1) | (leave1; (try dsimp only)) | (dsimp only [InvPostN]) | fail "no step")))
      rename Fr _ _ _ _ => F30
      rename News _ _ _ _ => N30
      refine list_dict rfl F30 N30 (Heap.dictOf_iff.mpr ⟨od24', (N30 (d24, _) (by k_mem)).1, iO⟩) loO (by omega) ?_
      intro D31 h31 tk31 vs31 e31 F31 N31 ne31 hi31
      clear F30 N30
      (try dsimp only)
      have hv29 : vs29.length ≤ 5 := by rw [hi29.length, List.length_map]; exact hkn
      have hv31 : vs31.length ≤ 5 := by rw [hi31.length, List.length_map]; exact hkO
      refine kmk_add_ints (vs := vs29) (ws := vs31) F31 N31 ⟨_, (N31 (D29, _) (by k_mem)).1, rfl, _, rfl⟩ ⟨_, (N31 (D31, _) (by k_mem)).1, rfl, _, rfl⟩ hi29 hi31 ?_ ?_
      rotate_left
      · rw [sizeLine_eq, List.length_map, List.length_map]; omega
      intro D32 us32 h32 F32 N32 lt32 hi32
      have hu32 : us32.length ≤ 10 := by rw [hi32.length, List.length_append, List.length_map, List.length_map]; omega
      clear F31 N31 ne31 ne29
      have N33 := news_sub (l' := [(D32, W.listOf us32.toArray 0), (b27, oB), (d24, od24'), (d7, od7'), (sp, o24), (D5, LCg.lst ys), (L + 1 + 1, o26), (L + 1, o9)]) N32 (by (((repeat' (first | exact all_nil | refine all_cons ?_ ?_)) <;> first | k_mem | (exact fun p hp => by repeat (first | exact hp | exact List.mem_append_left _ hp | apply List.Mem.tail)))))
      clear N32
      (try dsimp only)
      generalize hks : List.map (fun x => x.1) kvP ++ List.map (fun x => x.1) kvO = ks at hi32
      refine SrcJ.list (vs := us32) (ol := W.listOf us32.toArray 0) (fun i zs nw => ∃ ts : List (Addr × (Int × Tok × Value)), nw = (D32, W.listOf us32.toArray 0) :: (b27, oB) :: (d24, od24') :: (d7, od7') :: (sp, o24) :: (D5, LCg.lst ys) :: (L + 1 + 1, o26) :: (L + 1, o9) :: ts.map tupIOf ∧ zs = ts.map (fun p => Value.ref p.1) ∧ ts.map (fun p => (p.2.1, p.2.2.2)) = bothL kvP kvO (ks.take i)) rfl ⟨_, (N33 _ (.head _)).1, rfl, _, rfl⟩ (N33 _ (.head _)).1 (by rw [sizeLine_eq]; omega) F32 N33 ⟨[], rfl, rfl, rfl⟩ (.inr ?_) ?_ ?_
      · rintro i zs nw ⟨ts, rfl, _, _⟩; exact .head _
      · rintro g1 i v zs nw I oI C oC Dl m2 h34 tk34 E' hi34 hv ⟨ts, rfl, rfl, hts⟩ hC hx F34 N34 off34 ne34
        refine wpAny_tests_nil ?_
        rw [if_pos rfl]
        obtain ⟨k, tk, rfl, hk⟩ := ints_at hi32 hv
        have e1 : List.take (i + 1) ks = List.take i ks ++ [k] := by rw [List.take_add_one, hk]; rfl
        (repeat' (first | (k_unfold; (try dsimp only)) | ((fail_if_success (with_reducible show wpAny _ _ (setItem _ _ _) _ _ _)); (fail_if_success (with_reducible show wpAny _ _ (subscriptTail _ _ _ _) _ _ _)); (fail_if_success (with_reducible show wpAny _ _ (compareOp _ _ _) _ _ _)); (fail_if_success (with_reducible show wpAny _ _ (getMethod _ _ _) _ _ _)); (fail_if_success (with_reducible show wpAny _ _ (call (Value.builtin "dict.get") _) _ _ _)); (((with_reducible show wpAny _ _ _ _ _ _); (fail_if_success (with_reducible show wpAny _ _ (exec (Stmt.While _ _ _ _) _) _ _ _)); (fail_if_success (with_reducible show wpAny _ _ (exec (Stmt.Raise _ _ _) _) _ _ _)); (fail_if_success (with_reducible show wpAny _ _ (exec (Stmt.Try _ _ _ _ _) _) _ _ _)); (fail_if_success (with_reducible show wpAny _ _ (exec (Stmt.For _ _ _ _ _) _) _ _ _)); (fail_if_success (with_reducible show wpAny _ _ (call (Value.ref _) _) _ _ _)); (fail_if_success (with_reducible show wpAny _ _ (call (Value.builtin "dict.pop") _) _ _ _)); (fail_if_success (with_reducible show wpAny _ _ (eval (Expr.ListComp _ _ _ _) _) _ _ _)); (fail_if_success (with_reducible show wpAny _ _ (exec (Stmt.Assign _ (Expr.ListComp _ _ _ _) _) _) _ _ _)); (fail_if_success (with_reducible show wpAny _ _ (call (Value.builtin "sorted") _) _ _ _)); (fail_if_success (with_reducible show wpAny _ _ (call (Value.type "list") [Value.ref _]) _ _ _)); (fail_if_success (with_reducible show wpAny _ _ (call (Value.type "dict") [Value.ref _]) _ _ _)); (try dsimp only); walk1))) | (first | ((with_reducible show ite _ _ _); walk1) | ((with_reducible show _ ∧ _); walk1) | (leave1; (try dsimp only)) | (dsimp only [InvPostN]) | fail "no step")))
        rename Fr _ _ _ _ => F35
        rename News _ _ _ _ => N35
        refine dmeth_get (knd := intKind _ w) (Heap.dictOf_iff.mpr ⟨od24', (N35 (d24, od24') (by k_mem)).1, iO⟩) ?_
        (try dsimp only)
        (repeat' (first | (k_unfold; (try dsimp only)) | ((fail_if_success (with_reducible show wpAny _ _ (setItem _ _ _) _ _ _)); (fail_if_success (with_reducible show wpAny _ _ (subscriptTail _ _ _ _) _ _ _)); (fail_if_success (with_reducible show wpAny _ _ (compareOp _ _ _) _ _ _)); (fail_if_success (with_reducible show wpAny _ _ (getMethod _ _ _) _ _ _)); (fail_if_success (with_reducible show wpAny _ _ (call (Value.builtin "dict.get") _) _ _ _)); (((with_reducible show wpAny _ _ _ _ _ _); (fail_if_success (with_reducible show wpAny _ _ (exec (Stmt.While _ _ _ _) _) _ _ _)); (fail_if_success (with_reducible show wpAny _ _ (exec (Stmt.Raise _ _ _) _) _ _ _)); (fail_if_success (with_reducible show wpAny _ _ (exec (Stmt.Try _ _ _ _ _) _) _ _ _)); (fail_if_success (with_reducible show wpAny _ _ (exec (Stmt.For _ _ _ _ _) _) _ _ _)); (fail_if_success (with_reducible show wpAny _ _ (call (Value.ref _) _) _ _ _)); (fail_if_success (with_reducible show wpAny _ _ (call (Value.builtin "dict.pop") _) _ _ _)); (fail_if_success (with_reducible show wpAny _ _ (eval (Expr.ListComp _ _ _ _) _) _ _ _)); (fail_if_success (with_reducible show wpAny _ _ (exec (Stmt.Assign _ (Expr.ListComp _ _ _ _) _) _) _ _ _)); (fail_if_success (with_reducible show wpAny _ _ (call (Value.builtin "sorted") _) _ _ _)); (fail_if_success (with_reducible show wpAny _ _ (call (Value.type "list") [Value.ref _]) _ _ _)); (fail_if_success (with_reducible show wpAny _ _ (call (Value.type "dict") [Value.ref _]) _ _ _)); (try dsimp only); walk1))) | (first | ((with_reducible show ite _ _ _); walk1) | ((with_reducible show _ ∧ _); walk1) | (leave1; (try dsimp only)) | (dsimp only [InvPostN]) | fail "no step")))
        rename Fr _ _ _ _ => F35
        rename News _ _ _ _ => N35
        refine dmeth_get (knd := intKind _ w) (Heap.dictOf_iff.mpr ⟨od7', (N35 (d7, od7') (by k_mem)).1, iP⟩) ?_
        (try dsimp only)
        (repeat' (first | (k_unfold; (try dsimp only)) | ((fail_if_success (with_reducible show wpAny _ _ (setItem _ _ _) _ _ _)); (fail_if_success (with_reducible show wpAny _ _ (subscriptTail _ _ _ _) _ _ _)); (fail_if_success (with_reducible show wpAny _ _ (compareOp _ _ _) _ _ _)); (fail_if_success (with_reducible show wpAny _ _ (getMethod _ _ _) _ _ _)); (fail_if_success (with_reducible show wpAny _ _ (call (Value.builtin "dict.get") _) _ _ _)); (((with_reducible show wpAny _ _ _ _ _ _); (fail_if_success (with_reducible show wpAny _ _ (exec (Stmt.While _ _ _ _) _) _ _ _)); (fail_if_success (with_reducible show wpAny _ _ (exec (Stmt.Raise _ _ _) _) _ _ _)); (fail_if_success (with_reducible show wpAny _ _ (exec (Stmt.Try _ _ _ _ _) _) _ _ _)); (fail_if_success (with_reducible show wpAny _ _ (exec (Stmt.For _ _ _ _ _) _) _ _ _)); (fail_if_success (with_reducible show wpAny _ _ (call (Value.ref _) _) _ _ _)); (fail_if_success (with_reducible show wpAny _ _ (call (Value.builtin "dict.pop") _) _ _ _)); (fail_if_success (with_reducible show wpAny _ _ (eval (Expr.ListComp _ _ _ _) _) _ _ _)); (fail_if_success (with_reducible show wpAny _ _ (exec (Stmt.Assign _ (Expr.ListComp _ _ _ _) _) _) _ _ _)); (fail_if_success (with_reducible show wpAny _ _ (call (Value.builtin "sorted") _) _ _ _)); (fail_if_success (with_reducible show wpAny _ _ (call (Value.type "list") [Value.ref _]) _ _ _)); (fail_if_success (with_reducible show wpAny _ _ (call (Value.type "dict") [Value.ref _]) _ _ _)); (try dsimp only); walk1))) | (first | ((with_reducible show ite _ _ _); walk1) | ((with_reducible show _ ∧ _); walk1) | (leave1; (try dsimp only)) | (dsimp only [InvPostN]) | fail "no step")))
        rename Fr _ _ _ _ => F35
        rename News _ _ _ _ => N35
        refine dget1 (knd := intKind _ w) (intKind_is _ _ _ _) (Heap.dictOf_iff.mpr ⟨od7', (N35 (d7, od7') (by k_mem)).1, iP⟩) loP ?_
        generalize hvP : (valueAt kvP k).getD .none = vP
        (try dsimp only)
        (repeat' (first | (k_unfold; (try dsimp only)) | ((fail_if_success (with_reducible show wpAny _ _ (setItem _ _ _) _ _ _)); (fail_if_success (with_reducible show wpAny _ _ (subscriptTail _ _ _ _) _ _ _)); (fail_if_success (with_reducible show wpAny _ _ (compareOp _ _ _) _ _ _)); (fail_if_success (with_reducible show wpAny _ _ (getMethod _ _ _) _ _ _)); (fail_if_success (with_reducible show wpAny _ _ (call (Value.builtin "dict.get") _) _ _ _)); (((with_reducible show wpAny _ _ _ _ _ _); (fail_if_success (with_reducible show wpAny _ _ (exec (Stmt.While _ _ _ _) _) _ _ _)); (fail_if_success (with_reducible show wpAny _ _ (exec (Stmt.Raise _ _ _) _) _ _ _)); (fail_if_success (with_reducible show wpAny _ _ (exec (Stmt.Try _ _ _ _ _) _) _ _ _)); (fail_if_success (with_reducible show wpAny _ _ (exec (Stmt.For _ _ _ _ _) _) _ _ _)); (fail_if_success (with_reducible show wpAny _ _ (call (Value.ref _) _) _ _ _)); (fail_if_success (with_reducible show wpAny _ _ (call (Value.builtin "dict.pop") _) _ _ _)); (fail_if_success (with_reducible show wpAny _ _ (eval (Expr.ListComp _ _ _ _) _) _ _ _)); (fail_if_success (with_reducible show wpAny _ _ (exec (Stmt.Assign _ (Expr.ListComp _ _ _ _) _) _) _ _ _)); (fail_if_success (with_reducible show wpAny _ _ (call (Value.builtin "sorted") _) _ _ _)); (fail_if_success (with_reducible show wpAny _ _ (call (Value.type "list") [Value.ref _]) _ _ _)); (fail_if_success (with_reducible show wpAny _ _ (call (Value.type "dict") [Value.ref _]) _ _ _)); (try dsimp only); walk1))) | (first | ((with_reducible show ite _ _ _); walk1) | ((with_reducible show _ ∧ _); walk1) | (leave1; (try dsimp only)) | (dsimp only [InvPostN]) | fail "no step")))
        rename Fr _ _ _ _ => F35
        rename News _ _ _ _ => N35
        refine dget2 (knd := intKind _ w) (intKind_is _ _ _ _) (Heap.dictOf_iff.mpr ⟨od24', (N35 (d24, od24') (by k_mem)).1, iO⟩) loO ?_
        generalize hvO : (valueAt kvO k).getD vP = vO
        (try dsimp only)
        (repeat' (first | (k_unfold; (try dsimp only)) | ((fail_if_success (with_reducible show wpAny _ _ (setItem _ _ _) _ _ _)); (fail_if_success (with_reducible show wpAny _ _ (subscriptTail _ _ _ _) _ _ _)); (fail_if_success (with_reducible show wpAny _ _ (compareOp _ _ _) _ _ _)); (fail_if_success (with_reducible show wpAny _ _ (getMethod _ _ _) _ _ _)); (fail_if_success (with_reducible show wpAny _ _ (call (Value.builtin "dict.get") _) _ _ _)); (((with_reducible show wpAny _ _ _ _ _ _); (fail_if_success (with_reducible show wpAny _ _ (exec (Stmt.While _ _ _ _) _) _ _ _)); (fail_if_success (with_reducible show wpAny _ _ (exec (Stmt.Raise _ _ _) _) _ _ _)); (fail_if_success (with_reducible show wpAny _ _ (exec (Stmt.Try _ _ _ _ _) _) _ _ _)); (fail_if_success (with_reducible show wpAny _ _ (exec (Stmt.For _ _ _ _ _) _) _ _ _)); (fail_if_success (with_reducible show wpAny _ _ (call (Value.ref _) _) _ _ _)); (fail_if_success (with_reducible show wpAny _ _ (call (Value.builtin "dict.pop") _) _ _ _)); (fail_if_success (with_reducible show wpAny _ _ (eval (Expr.ListComp _ _ _ _) _) _ _ _)); (fail_if_success (with_reducible show wpAny _ _ (exec (Stmt.Assign _ (Expr.ListComp _ _ _ _) _) _) _ _ _)); (fail_if_success (with_reducible show wpAny _ _ (call (Value.builtin "sorted") _) _ _ _)); (fail_if_success (with_reducible show wpAny _ _ (call (Value.type "list") [Value.ref _]) _ _ _)); (fail_if_success (with_reducible show wpAny _ _ (call (Value.type "dict") [Value.ref _]) _ _ _)); (try dsimp only); walk1))) | (first | ((with_reducible show ite _ _ _); walk1) | ((with_reducible show _ ∧ _); walk1) | (leave1; (try dsimp only)) | (dsimp only [InvPostN]) | fail "no step")))
        rename_i D37 h37 F37 N37 lt37
        have hval : vO = valM kvP kvO k := by rw [← hvO, ← hvP]; rfl
        refine TurnEnd.intro F37 N37 (((D32, W.listOf us32.toArray 0) :: (b27, oB) :: (d24, od24') :: (d7, od7') :: (sp, o24) :: (D5, LCg.lst ys) :: (L + 1 + 1, o26) :: (L + 1, o9) :: ts.map tupIOf) ++ [tupIOf (D37, k, tk, vO)]) (fun p hp => sub_snoc hp) (off_snoc off34 lt37.1 lt37.2.1 lt37.2.2.1) ⟨ts ++ [(D37, k, tk, vO)], by simp, by simp, ?_⟩
        rw [e1, List.map_append, hts, hval]
        simp [bothL]
      · rintro zs nw ⟨ts, rfl, rfl, hts⟩ D36 h36 tk36 F36 N36 ne36
        have htk : us32.length = ks.length := hi32.length
        rw [htk, List.take_length] at hts
        have htl : ts.length = ks.length := by
          have q := congrArg List.length hts
          simpa [bothL] using q
        (try dsimp only)
        (repeat' (first | (k_unfold; (try dsimp only)) | ((fail_if_success (with_reducible show wpAny _ _ (setItem _ _ _) _ _ _)); (fail_if_success (with_reducible show wpAny _ _ (subscriptTail _ _ _ _) _ _ _)); (fail_if_success (with_reducible show wpAny _ _ (compareOp _ _ _) _ _ _)); (((with_reducible show wpAny _ _ _ _ _ _); (fail_if_success (with_reducible show wpAny _ _ (exec (Stmt.While _ _ _ _) _) _ _ _)); (fail_if_success (with_reducible show wpAny _ _ (exec (Stmt.Raise _ _ _) _) _ _ _)); (fail_if_success (with_reducible show wpAny _ _ (exec (Stmt.Try _ _ _ _ _) _) _ _ _)); (fail_if_success (with_reducible show wpAny _ _ (exec (Stmt.For _ _ _ _ _) _) _ _ _)); (fail_if_success (with_reducible show wpAny _ _ (call (Value.ref _) _) _ _ _)); (fail_if_success (with_reducible show wpAny _ _ (call (Value.builtin "dict.pop") _) _ _ _)); (fail_if_success (with_reducible show wpAny _ _ (eval (Expr.ListComp _ _ _ _) _) _ _ _)); (fail_if_success (with_reducible show wpAny _ _ (exec (Stmt.Assign _ (Expr.ListComp _ _ _ _) _) _) _ _ _)); (fail_if_success (with_reducible show wpAny _ _ (call (Value.builtin "sorted") _) _ _ _)); (fail_if_success (with_reducible show wpAny _ _ (call (Value.type "list") [Value.ref _]) _ _ _)); (fail_if_success (with_reducible show wpAny _ _ (call (Value.type "dict") [Value.ref _]) _ _ _)); (try dsimp only); walk1))) | (first | ((with_reducible show ite _ _ _); walk1) | ((with_reducible show _ ∧ _); walk1) | (leave1; (try dsimp only)) | (dsimp only [InvPostN]) | fail "no step")))
        rename Fr _ _ _ _ => F36
        rename News _ _ _ _ => N36
        refine dict_pairs (knd := intKind _ w) (ys := ts.map fun p => Value.ref p.1) rfl F36 N36 T.nolimit (N36 _ (.head _)).1 (bothL kvP kvO ks) (by rw [← hts]; simp) (by rw [List.length_map]; omega) (fun i v hv => ?_) ?_
        · exact tupI_at (fun p hp => (N36 p (.tail _ (.tail _ (.tail _ (.tail _ (.tail _ (.tail _ (.tail _ (.tail _ (.tail _ hp)))))))))).1) hts hv
        intro h38 tk38 o38 D38 F38 N38 lo38 i38 ne38
        (try dsimp only)
        (repeat' (first | (k_unfold; (try dsimp only)) | ((fail_if_success (with_reducible show wpAny _ _ (setItem _ _ _) _ _ _)); (fail_if_success (with_reducible show wpAny _ _ (subscriptTail _ _ _ _) _ _ _)); (fail_if_success (with_reducible show wpAny _ _ (compareOp _ _ _) _ _ _)); (((with_reducible show wpAny _ _ _ _ _ _); (fail_if_success (with_reducible show wpAny _ _ (exec (Stmt.While _ _ _ _) _) _ _ _)); (fail_if_success (with_reducible show wpAny _ _ (exec (Stmt.Raise _ _ _) _) _ _ _)); (fail_if_success (with_reducible show wpAny _ _ (exec (Stmt.Try _ _ _ _ _) _) _ _ _)); (fail_if_success (with_reducible show wpAny _ _ (exec (Stmt.For _ _ _ _ _) _) _ _ _)); (fail_if_success (with_reducible show wpAny _ _ (call (Value.ref _) _) _ _ _)); (fail_if_success (with_reducible show wpAny _ _ (call (Value.builtin "dict.pop") _) _ _ _)); (fail_if_success (with_reducible show wpAny _ _ (eval (Expr.ListComp _ _ _ _) _) _ _ _)); (fail_if_success (with_reducible show wpAny _ _ (exec (Stmt.Assign _ (Expr.ListComp _ _ _ _) _) _) _ _ _)); (fail_if_success (with_reducible show wpAny _ _ (call (Value.builtin "sorted") _) _ _ _)); (fail_if_success (with_reducible show wpAny _ _ (call (Value.type "list") [Value.ref _]) _ _ _)); (fail_if_success (with_reducible show wpAny _ _ (call (Value.type "dict") [Value.ref _]) _ _ _)); (try dsimp only); walk1))) | (first | ((with_reducible show ite _ _ _); walk1) | ((with_reducible show _ ∧ _); walk1) | (leave1; (try dsimp only)) | (dsimp only [InvPostN]) | fail "no step")))
        subst hks
        have pB : ∀ h : Heap, h.get? b27 = some oB → ProgAt _ w h b27 (mergeP P P2) := fun h e => ⟨loB, kvB, Heap.dictOf_iff.mpr ⟨oB, e, iB⟩, asB, prB⟩
        have ndO : (kvO.map (·.1)).Nodup := isdict_nodup iO
        refine progs_ne (pB _ (N38 (b27, oB) (by k_mem)).1) ⟨lo38, _, Heap.dictOf_iff.mpr ⟨o38, (N38 (D38, o38) (.head _)).1, i38⟩, both_all asP asO ndO, rfl⟩ (law_u _) (fun k => by rw [← prP, ← prO]; exact both_at asP asO ndO k) ?_
        have N39 := news_sub (l' := [(b27, oB), (d7, od7'), (sp, o24), (D5, LCg.lst ys), (L + 1 + 1, o26), (L + 1, o9)]) N38 (by (((repeat' (first | exact all_nil | refine all_cons ?_ ?_)) <;> first | k_mem | (exact fun p hp => by repeat (first | exact hp | exact List.mem_append_left _ hp | apply List.Mem.tail)))))
        clear N38 ne38 i38 lo38 hts htl htk hi32 hu32
        (try dsimp only)
        (repeat' (first | (k_unfold; (try dsimp only)) | ((fail_if_success (with_reducible show wpAny _ _ (setItem _ _ _) _ _ _)); (fail_if_success (with_reducible show wpAny _ _ (subscriptTail _ _ _ _) _ _ _)); (fail_if_success (with_reducible show wpAny _ _ (compareOp _ _ _) _ _ _)); (((with_reducible show wpAny _ _ _ _ _ _); (fail_if_success (with_reducible show wpAny _ _ (exec (Stmt.While _ _ _ _) _) _ _ _)); (fail_if_success (with_reducible show wpAny _ _ (exec (Stmt.Raise _ _ _) _) _ _ _)); (fail_if_success (with_reducible show wpAny _ _ (exec (Stmt.Try _ _ _ _ _) _) _ _ _)); (fail_if_success (with_reducible show wpAny _ _ (exec (Stmt.For _ _ _ _ _) _) _ _ _)); (fail_if_success (with_reducible show wpAny _ _ (call (Value.ref _) _) _ _ _)); (fail_if_success (with_reducible show wpAny _ _ (call (Value.builtin "dict.pop") _) _ _ _)); (fail_if_success (with_reducible show wpAny _ _ (eval (Expr.ListComp _ _ _ _) _) _ _ _)); (fail_if_success (with_reducible show wpAny _ _ (exec (Stmt.Assign _ (Expr.ListComp _ _ _ _) _) _) _ _ _)); (fail_if_success (with_reducible show wpAny _ _ (call (Value.builtin "sorted") _) _ _ _)); (fail_if_success (with_reducible show wpAny _ _ (call (Value.type "list") [Value.ref _]) _ _ _)); (fail_if_success (with_reducible show wpAny _ _ (call (Value.type "dict") [Value.ref _]) _ _ _)); (try dsimp only); walk1))) | (first | ((with_reducible show ite _ _ _); walk1) | ((with_reducible show _ ∧ _); walk1) | (leave1; (try dsimp only)) | (dsimp only [InvPostN]) | fail "no step")))
        rename Fr _ _ _ _ => F40
        rename News _ _ _ _ => N40
        refine world_spec (c0.keeps F40.keep) ((law_rm _).le (by decide)) ?_
        intro h41 tk41 x dx es n f dF oF on41 fa41 all41 fF41 iF41 loF41 hdx hxF hdF
        obtain ⟨F41, N41, ne41⟩ := news_on F40 N40 on41
        dsimp only [List.cons_append, List.nil_append] at N41
        have neF : ∀ p ∈ [(b27, oB), (d7, od7'), (sp, o24), (D5, LCg.lst ys), (L + 1 + 1, o26), (L + 1, o9)], p.1 ≠ dF := fun p hp => ne41 p hp (dF, oF) (by simp)
        clear F40 N40 on41
        (try dsimp only)
        (repeat' (first | (k_unfold; (try dsimp only)) | ((fail_if_success (with_reducible show wpAny _ _ (setItem _ _ _) _ _ _)); (fail_if_success (with_reducible show wpAny _ _ (subscriptTail _ _ _ _) _ _ _)); (fail_if_success (with_reducible show wpAny _ _ (compareOp _ _ _) _ _ _)); (((with_reducible show wpAny _ _ _ _ _ _); (fail_if_success (with_reducible show wpAny _ _ (exec (Stmt.While _ _ _ _) _) _ _ _)); (fail_if_success (with_reducible show wpAny _ _ (exec (Stmt.Raise _ _ _) _) _ _ _)); (fail_if_success (with_reducible show wpAny _ _ (exec (Stmt.Try _ _ _ _ _) _) _ _ _)); (fail_if_success (with_reducible show wpAny _ _ (exec (Stmt.For _ _ _ _ _) _) _ _ _)); (fail_if_success (with_reducible show wpAny _ _ (call (Value.ref _) _) _ _ _)); (fail_if_success (with_reducible show wpAny _ _ (call (Value.builtin "dict.pop") _) _ _ _)); (fail_if_success (with_reducible show wpAny _ _ (eval (Expr.ListComp _ _ _ _) _) _ _ _)); (fail_if_success (with_reducible show wpAny _ _ (exec (Stmt.Assign _ (Expr.ListComp _ _ _ _) _) _) _ _ _)); (fail_if_success (with_reducible show wpAny _ _ (call (Value.builtin "sorted") _) _ _ _)); (fail_if_success (with_reducible show wpAny _ _ (call (Value.type "list") [Value.ref _]) _ _ _)); (fail_if_success (with_reducible show wpAny _ _ (call (Value.type "dict") [Value.ref _]) _ _ _)); (try dsimp only); walk1))) | (first | ((with_reducible show ite _ _ _); walk1) | ((with_reducible show _ ∧ _); walk1) | (leave1; (try dsimp only)) | (dsimp only [InvPostN]) | fail "no step")))
        rename Fr _ _ _ _ => F42
        rename News _ _ _ _ => N42
        have hmF : (dF, oF) ∈ [(x, instObj 133 dx), (dx, W.dictOf es n), (dF, oF), (b27, oB), (d7, od7'), (sp, o24), (D5, LCg.lst ys), (L + 1 + 1, o26), (L + 1, o9)] := by k_mem
        have UF := (UpdF.tail (p := (x, instObj 133 dx)) hxF (UpdF.tail (p := (dx, W.dictOf es n)) hdF (UpdF.head (d := dF) (o := oF) neF)))
        refine savep_spec (c0.over F42 N42 (as := [dF]) fun b hb => ⟨oF, by rw [List.mem_singleton.mp hb]; exact hmF⟩) ((law_rm _).le (by decide)) (On.hole1 N42 hmF)
          ⟨es, n, holes_some.mpr ⟨(N42 (x, _) (by k_mem)).1, by simpa using hxF⟩, holes_some.mpr ⟨(N42 (dx, _) (by k_mem)).1, by simpa using hdF⟩, fa41⟩ fF41 iF41 loF41 (Nat.zero_le _)
          (pB _ (holes_some.mpr ⟨(N42 (b27, oB) (by k_mem)).1, by simpa using neF (b27, oB) (.head _)⟩)) okB ?_
        intro h43 tk43 oF2 ns43 t43 on43 iF43 hp43 hs43
        obtain ⟨F43, N43⟩ := On.back1 F42 N42 UF on43
        (try dsimp only at N43)
        clear F42 N42 on43 UF hmF ne41
        have iF44 : oF2.IsDictOf (PySem.strKind _ w) [(Str.ofString "Q", .str (savedStr (mergeP P P2) ns43) t43)] := iF43
        clear iF43
        (try dsimp only)
        (repeat' (first | (k_unfold; (try dsimp only)) | ((fail_if_success (with_reducible show wpAny _ _ (setItem _ _ _) _ _ _)); (fail_if_success (with_reducible show wpAny _ _ (subscriptTail _ _ _ _) _ _ _)); (fail_if_success (with_reducible show wpAny _ _ (compareOp _ _ _) _ _ _)); (((with_reducible show wpAny _ _ _ _ _ _); (fail_if_success (with_reducible show wpAny _ _ (exec (Stmt.While _ _ _ _) _) _ _ _)); (fail_if_success (with_reducible show wpAny _ _ (exec (Stmt.Raise _ _ _) _) _ _ _)); (fail_if_success (with_reducible show wpAny _ _ (exec (Stmt.Try _ _ _ _ _) _) _ _ _)); (fail_if_success (with_reducible show wpAny _ _ (exec (Stmt.For _ _ _ _ _) _) _ _ _)); (fail_if_success (with_reducible show wpAny _ _ (call (Value.ref _) _) _ _ _)); (fail_if_success (with_reducible show wpAny _ _ (call (Value.builtin "dict.pop") _) _ _ _)); (fail_if_success (with_reducible show wpAny _ _ (eval (Expr.ListComp _ _ _ _) _) _ _ _)); (fail_if_success (with_reducible show wpAny _ _ (exec (Stmt.Assign _ (Expr.ListComp _ _ _ _) _) _) _ _ _)); (fail_if_success (with_reducible show wpAny _ _ (call (Value.builtin "sorted") _) _ _ _)); (fail_if_success (with_reducible show wpAny _ _ (call (Value.type "list") [Value.ref _]) _ _ _)); (fail_if_success (with_reducible show wpAny _ _ (call (Value.type "dict") [Value.ref _]) _ _ _)); (try dsimp only); walk1))) | (first | ((with_reducible show ite _ _ _); walk1) | ((with_reducible show _ ∧ _); walk1) | (leave1; (try dsimp only)) | (dsimp only [InvPostN]) | fail "no step")))
        refine wgetW (c0.keeps F43.keep) ⟨es, n, (N43 (x, _) (by k_mem)).1, (N43 (dx, _) (by k_mem)).1, fa41⟩ (by decide +kernel) fF41 rfl ?_
        (try dsimp only)
        refine kdn_str rfl F43 N43 T.nolimit rfl rfl (List.cons_ne_nil _ _) (by decide) ?_
        intro D44 h44 o44 F44 N44 lt44 lo44 i44
        clear F43 N43
        (try dsimp only)
        (repeat' (first | (k_unfold; (try dsimp only)) | ((fail_if_success (with_reducible show wpAny _ _ (setItem _ _ _) _ _ _)); (fail_if_success (with_reducible show wpAny _ _ (subscriptTail _ _ _ _) _ _ _)); (fail_if_success (with_reducible show wpAny _ _ (compareOp _ _ _) _ _ _)); (((with_reducible show wpAny _ _ _ _ _ _); (fail_if_success (with_reducible show wpAny _ _ (exec (Stmt.While _ _ _ _) _) _ _ _)); (fail_if_success (with_reducible show wpAny _ _ (exec (Stmt.Raise _ _ _) _) _ _ _)); (fail_if_success (with_reducible show wpAny _ _ (exec (Stmt.Try _ _ _ _ _) _) _ _ _)); (fail_if_success (with_reducible show wpAny _ _ (exec (Stmt.For _ _ _ _ _) _) _ _ _)); (fail_if_success (with_reducible show wpAny _ _ (call (Value.ref _) _) _ _ _)); (fail_if_success (with_reducible show wpAny _ _ (call (Value.builtin "dict.pop") _) _ _ _)); (fail_if_success (with_reducible show wpAny _ _ (eval (Expr.ListComp _ _ _ _) _) _ _ _)); (fail_if_success (with_reducible show wpAny _ _ (exec (Stmt.Assign _ (Expr.ListComp _ _ _ _) _) _) _ _ _)); (fail_if_success (with_reducible show wpAny _ _ (call (Value.builtin "sorted") _) _ _ _)); (fail_if_success (with_reducible show wpAny _ _ (call (Value.type "list") [Value.ref _]) _ _ _)); (fail_if_success (with_reducible show wpAny _ _ (call (Value.type "dict") [Value.ref _]) _ _ _)); (try dsimp only); walk1))) | (first | ((with_reducible show ite _ _ _); walk1) | ((with_reducible show _ ∧ _); walk1) | (leave1; (try dsimp only)) | (dsimp only [InvPostN]) | fail "no step")))
        rename Fr _ _ _ _ => F45
        rename News _ _ _ _ => N45
        refine saved_spec (c0.keeps F45.keep) ((law_rm _).le (by decide)) (pB _ (N45 (b27, oB) (by k_mem)).1) okB ?_
        intro h46 tk46 t46 ns46 k46 hp46 hs46
        obtain rfl : ns46 = ns43 := perm_same hp46 hp43 hs46 hs43
        have F46 := F45.keeps k46
        have N46 := N45.grown k46
        clear F45 N45 k46
        (try dsimp only)
        (repeat' (first | (k_unfold; (try dsimp only)) | ((fail_if_success (with_reducible show wpAny _ _ (setItem _ _ _) _ _ _)); (fail_if_success (with_reducible show wpAny _ _ (subscriptTail _ _ _ _) _ _ _)); (fail_if_success (with_reducible show wpAny _ _ (compareOp _ _ _) _ _ _)); (((with_reducible show wpAny _ _ _ _ _ _); (fail_if_success (with_reducible show wpAny _ _ (exec (Stmt.While _ _ _ _) _) _ _ _)); (fail_if_success (with_reducible show wpAny _ _ (exec (Stmt.Raise _ _ _) _) _ _ _)); (fail_if_success (with_reducible show wpAny _ _ (exec (Stmt.Try _ _ _ _ _) _) _ _ _)); (fail_if_success (with_reducible show wpAny _ _ (exec (Stmt.For _ _ _ _ _) _) _ _ _)); (fail_if_success (with_reducible show wpAny _ _ (call (Value.ref _) _) _ _ _)); (fail_if_success (with_reducible show wpAny _ _ (call (Value.builtin "dict.pop") _) _ _ _)); (fail_if_success (with_reducible show wpAny _ _ (eval (Expr.ListComp _ _ _ _) _) _ _ _)); (fail_if_success (with_reducible show wpAny _ _ (exec (Stmt.Assign _ (Expr.ListComp _ _ _ _) _) _) _ _ _)); (fail_if_success (with_reducible show wpAny _ _ (call (Value.builtin "sorted") _) _ _ _)); (fail_if_success (with_reducible show wpAny _ _ (call (Value.type "list") [Value.ref _]) _ _ _)); (fail_if_success (with_reducible show wpAny _ _ (call (Value.type "dict") [Value.ref _]) _ _ _)); (try dsimp only); walk1))) | (first | ((with_reducible show ite _ _ _); walk1) | ((with_reducible show _ ∧ _); walk1) | (leave1; (try dsimp only)) | (dsimp only [InvPostN]) | fail "no step")))
        refine kdn_made_str F46 N46 (UpdF.head fun p hp => Nat.ne_of_lt (lt44 p hp)) i44 rfl (List.nodup_cons.mpr ⟨List.not_mem_nil, List.nodup_nil⟩) ?_
        intro h47 o47 F47 N47 i47
        have i48 : o47.IsDictOf (PySem.strKind _ w) [(Str.ofString "Q", .str (savedStr (mergeP P P2) ns46) t46)] := i47
        (try dsimp only at N47)
        clear i47 F46 N46 lt44 i44 iF41 hp43 hs43
        (try dsimp only)
        refine dict_ne (knd := PySem.strKind _ w) loF41 lo44 (Heap.dictOf_iff.mpr ⟨oF2, (N47 (dF, oF2) (by k_mem)).1, iF44⟩) (Heap.dictOf_iff.mpr ⟨o47, (N47 (D44, o47) (by k_mem)).1, i48⟩) (law_u _) one_same ?_
        have N48 := news_sub (l' := [(x, instObj 133 dx), (dx, W.dictOf es n), (dF, oF2), (b27, oB), (d7, od7'), (sp, o24), (D5, LCg.lst ys), (L + 1 + 1, o26), (L + 1, o9)]) N47 (fun p hp => .tail _ hp)
        clear N47 i48
        (try dsimp only)
        (repeat' (first | (k_unfold; (try dsimp only)) | ((fail_if_success (with_reducible show wpAny _ _ (setItem _ _ _) _ _ _)); (fail_if_success (with_reducible show wpAny _ _ (subscriptTail _ _ _ _) _ _ _)); (fail_if_success (with_reducible show wpAny _ _ (compareOp _ _ _) _ _ _)); (((with_reducible show wpAny _ _ _ _ _ _); (fail_if_success (with_reducible show wpAny _ _ (exec (Stmt.While _ _ _ _) _) _ _ _)); (fail_if_success (with_reducible show wpAny _ _ (exec (Stmt.Raise _ _ _) _) _ _ _)); (fail_if_success (with_reducible show wpAny _ _ (exec (Stmt.Try _ _ _ _ _) _) _ _ _)); (fail_if_success (with_reducible show wpAny _ _ (exec (Stmt.For _ _ _ _ _) _) _ _ _)); (fail_if_success (with_reducible show wpAny _ _ (call (Value.ref _) _) _ _ _)); (fail_if_success (with_reducible show wpAny _ _ (call (Value.builtin "dict.pop") _) _ _ _)); (fail_if_success (with_reducible show wpAny _ _ (eval (Expr.ListComp _ _ _ _) _) _ _ _)); (fail_if_success (with_reducible show wpAny _ _ (exec (Stmt.Assign _ (Expr.ListComp _ _ _ _) _) _) _ _ _)); (fail_if_success (with_reducible show wpAny _ _ (call (Value.builtin "sorted") _) _ _ _)); (fail_if_success (with_reducible show wpAny _ _ (call (Value.type "list") [Value.ref _]) _ _ _)); (fail_if_success (with_reducible show wpAny _ _ (call (Value.type "dict") [Value.ref _]) _ _ _)); (try dsimp only); walk1))) | (first | ((with_reducible show ite _ _ _); walk1) | ((with_reducible show _ ∧ _); walk1) | (leave1; (try dsimp only)) | (dsimp only [InvPostN]) | fail "no step")))
        rename Fr _ _ _ _ => F49
        rename News _ _ _ _ => N49
        refine wgetW (c0.keeps F49.keep) ⟨es, n, (N49 (x, _) (by k_mem)).1, (N49 (dx, _) (by k_mem)).1, fa41⟩ (by decide +kernel) fF41 rfl ?_
        (try dsimp only)
        (repeat' (first | (k_unfold; (try dsimp only)) | ((fail_if_success (with_reducible show wpAny _ _ (setItem _ _ _) _ _ _)); (fail_if_success (with_reducible show wpAny _ _ (subscriptTail _ _ _ _) _ _ _)); (fail_if_success (with_reducible show wpAny _ _ (compareOp _ _ _) _ _ _)); (((with_reducible show wpAny _ _ _ _ _ _); (fail_if_success (with_reducible show wpAny _ _ (exec (Stmt.While _ _ _ _) _) _ _ _)); (fail_if_success (with_reducible show wpAny _ _ (exec (Stmt.Raise _ _ _) _) _ _ _)); (fail_if_success (with_reducible show wpAny _ _ (exec (Stmt.Try _ _ _ _ _) _) _ _ _)); (fail_if_success (with_reducible show wpAny _ _ (exec (Stmt.For _ _ _ _ _) _) _ _ _)); (fail_if_success (with_reducible show wpAny _ _ (call (Value.ref _) _) _ _ _)); (fail_if_success (with_reducible show wpAny _ _ (call (Value.builtin "dict.pop") _) _ _ _)); (fail_if_success (with_reducible show wpAny _ _ (eval (Expr.ListComp _ _ _ _) _) _ _ _)); (fail_if_success (with_reducible show wpAny _ _ (exec (Stmt.Assign _ (Expr.ListComp _ _ _ _) _) _) _ _ _)); (fail_if_success (with_reducible show wpAny _ _ (call (Value.builtin "sorted") _) _ _ _)); (fail_if_success (with_reducible show wpAny _ _ (call (Value.type "list") [Value.ref _]) _ _ _)); (fail_if_success (with_reducible show wpAny _ _ (call (Value.type "dict") [Value.ref _]) _ _ _)); (try dsimp only); walk1))) | (first | ((with_reducible show ite _ _ _); walk1) | ((with_reducible show _ ∧ _); walk1) | (leave1; (try dsimp only)) | (dsimp only [InvPostN]) | fail "no step")))
        rename Fr _ _ _ _ => F50
        rename News _ _ _ _ => N50
        refine dict_itemT (knd := PySem.strKind _ w) (Heap.dictOf_iff.mpr ⟨oF2, (N50 (dF, oF2) (by k_mem)).1, iF44⟩) (strKind_is _ _ _ _) (by rfl) ?_
        have R51 := saved_rows ptxB (by omega) hp46
        (try dsimp only)
        (repeat' (first | (k_unfold; (try dsimp only)) | ((fail_if_success (with_reducible show wpAny _ _ (setItem _ _ _) _ _ _)); (fail_if_success (with_reducible show wpAny _ _ (subscriptTail _ _ _ _) _ _ _)); (fail_if_success (with_reducible show wpAny _ _ (compareOp _ _ _) _ _ _)); (((with_reducible show wpAny _ _ _ _ _ _); (fail_if_success (with_reducible show wpAny _ _ (exec (Stmt.While _ _ _ _) _) _ _ _)); (fail_if_success (with_reducible show wpAny _ _ (exec (Stmt.Raise _ _ _) _) _ _ _)); (fail_if_success (with_reducible show wpAny _ _ (exec (Stmt.Try _ _ _ _ _) _) _ _ _)); (fail_if_success (with_reducible show wpAny _ _ (exec (Stmt.For _ _ _ _ _) _) _ _ _)); (fail_if_success (with_reducible show wpAny _ _ (call (Value.ref _) _) _ _ _)); (fail_if_success (with_reducible show wpAny _ _ (call (Value.builtin "dict.pop") _) _ _ _)); (fail_if_success (with_reducible show wpAny _ _ (eval (Expr.ListComp _ _ _ _) _) _ _ _)); (fail_if_success (with_reducible show wpAny _ _ (exec (Stmt.Assign _ (Expr.ListComp _ _ _ _) _) _) _ _ _)); (fail_if_success (with_reducible show wpAny _ _ (call (Value.builtin "sorted") _) _ _ _)); (fail_if_success (with_reducible show wpAny _ _ (call (Value.type "list") [Value.ref _]) _ _ _)); (fail_if_success (with_reducible show wpAny _ _ (call (Value.type "dict") [Value.ref _]) _ _ _)); (try dsimp only); walk1))) | (first | ((with_reducible show ite _ _ _); walk1) | ((with_reducible show _ ∧ _); walk1) | (leave1; (try dsimp only)) | (dsimp only [InvPostN]) | fail "no step")))
        rename Fr _ _ _ _ => F51
        rename News _ _ _ _ => N51
        refine loaded_spec (c0.keeps F51.keep) ((law_rm _).le (by decide)) R51.len R51.is R51.ok R51.few ?_
        intro h52 tk52 a52 k52 n52 p52
        have F52 := F51.keeps k52
        have N52 := N51.grown k52
        clear F51 N51 k52 R51
        (try dsimp only)
        (repeat' (first | (k_unfold; (try dsimp only)) | ((fail_if_success (with_reducible show wpAny _ _ (setItem _ _ _) _ _ _)); (fail_if_success (with_reducible show wpAny _ _ (subscriptTail _ _ _ _) _ _ _)); (fail_if_success (with_reducible show wpAny _ _ (compareOp _ _ _) _ _ _)); (((with_reducible show wpAny _ _ _ _ _ _); (fail_if_success (with_reducible show wpAny _ _ (exec (Stmt.While _ _ _ _) _) _ _ _)); (fail_if_success (with_reducible show wpAny _ _ (exec (Stmt.Raise _ _ _) _) _ _ _)); (fail_if_success (with_reducible show wpAny _ _ (exec (Stmt.Try _ _ _ _ _) _) _ _ _)); (fail_if_success (with_reducible show wpAny _ _ (exec (Stmt.For _ _ _ _ _) _) _ _ _)); (fail_if_success (with_reducible show wpAny _ _ (call (Value.ref _) _) _ _ _)); (fail_if_success (with_reducible show wpAny _ _ (call (Value.builtin "dict.pop") _) _ _ _)); (fail_if_success (with_reducible show wpAny _ _ (eval (Expr.ListComp _ _ _ _) _) _ _ _)); (fail_if_success (with_reducible show wpAny _ _ (exec (Stmt.Assign _ (Expr.ListComp _ _ _ _) _) _) _ _ _)); (fail_if_success (with_reducible show wpAny _ _ (call (Value.builtin "sorted") _) _ _ _)); (fail_if_success (with_reducible show wpAny _ _ (call (Value.type "list") [Value.ref _]) _ _ _)); (fail_if_success (with_reducible show wpAny _ _ (call (Value.type "dict") [Value.ref _]) _ _ _)); (try dsimp only); walk1))) | (first | ((with_reducible show ite _ _ _); walk1) | ((with_reducible show _ ∧ _); walk1) | (leave1; (try dsimp only)) | (dsimp only [InvPostN]) | fail "no step")))
        refine progs_ne p52 (pB _ (N52 (b27, oB) (by k_mem)).1) (law_u _) (saved_fold ptxB hp46) ?_
        have N53 := news_sub (l' := [(d7, od7'), (sp, o24), (D5, LCg.lst ys), (L + 1 + 1, o26), (L + 1, o9)]) N52 (fun p hp => .tail _ (.tail _ (.tail _ (.tail _ hp))))
        clear N52 p52 n52 hp46 hs46 iF44 pB okB
        (try dsimp only)
        (repeat' (first | (k_unfold; (try dsimp only)) | ((fail_if_success (with_reducible show wpAny _ _ (setItem _ _ _) _ _ _)); (fail_if_success (with_reducible show wpAny _ _ (subscriptTail _ _ _ _) _ _ _)); (fail_if_success (with_reducible show wpAny _ _ (compareOp _ _ _) _ _ _)); (((with_reducible show wpAny _ _ _ _ _ _); (fail_if_success (with_reducible show wpAny _ _ (exec (Stmt.While _ _ _ _) _) _ _ _)); (fail_if_success (with_reducible show wpAny _ _ (exec (Stmt.Raise _ _ _) _) _ _ _)); (fail_if_success (with_reducible show wpAny _ _ (exec (Stmt.Try _ _ _ _ _) _) _ _ _)); (fail_if_success (with_reducible show wpAny _ _ (exec (Stmt.For _ _ _ _ _) _) _ _ _)); (fail_if_success (with_reducible show wpAny _ _ (call (Value.ref _) _) _ _ _)); (fail_if_success (with_reducible show wpAny _ _ (call (Value.builtin "dict.pop") _) _ _ _)); (fail_if_success (with_reducible show wpAny _ _ (eval (Expr.ListComp _ _ _ _) _) _ _ _)); (fail_if_success (with_reducible show wpAny _ _ (exec (Stmt.Assign _ (Expr.ListComp _ _ _ _) _) _) _ _ _)); (fail_if_success (with_reducible show wpAny _ _ (call (Value.builtin "sorted") _) _ _ _)); (fail_if_success (with_reducible show wpAny _ _ (call (Value.type "list") [Value.ref _]) _ _ _)); (fail_if_success (with_reducible show wpAny _ _ (call (Value.type "dict") [Value.ref _]) _ _ _)); (try dsimp only); walk1))) | (first | ((with_reducible show ite _ _ _); walk1) | ((with_reducible show _ ∧ _); walk1) | (leave1; (try dsimp only)) | (dsimp only [InvPostN]) | fail "no step")))
        have hLs : L ≠ sp := Ne.symm (N53 (sp, o24) (by k_mem)).2.1
        have hov : ∀ b o, s.heap.get? b = some o → (holes h52 [sp]).get? b = some o := News.over F52 N53 (as := [sp]) fun b hb => ⟨o24, by rw [List.mem_singleton.mp hb]; exact .tail _ (.head _)⟩
        have hov2 : ∀ b o, s.heap.get? b = some o → (holes (holes h52 [sp]) [L]).get? b = some o := fun b o e => holes_some.mpr ⟨hov b o e, by simpa using fr_ne F52 e⟩
        have hin : ∀ p ∈ [(d7, od7'), (sp, o24), (D5, LCg.lst ys), (L + 1 + 1, o26), (L + 1, o9)], p.1 ≠ sp → (holes (holes h52 [sp]) [L]).get? p.1 = some p.2 := fun p hp ne => holes_some.mpr ⟨holes_some.mpr ⟨(N53 p hp).1, by simpa using ne⟩, by simpa using (N53 p hp).2.1⟩
        refine lchain_spec (g := holes h52 [sp]) (rows := rows) (P := P) ⟨by decide +kernel, by decide +kernel⟩ (c0.keeps hov) (by exact c0.keeps hov2) ((law_rm _).le (by decide)) rfl
          (FF.here (L := L) (F52.ns.at' fun o e => holes_some.mpr ⟨e, by simpa using hLs⟩) trivial (by show ScopeKind.function ≠ ScopeKind.module; decide) rfl)
          (On.hole1 N53 (.tail _ (.head _))) io24 (l := D5) (by exact ⟨_, hin (D5, LCg.lst ys) (by k_mem) d5, rfl, _, rfl⟩) sl (by omega) (by exact pd _ (hin (d7, od7') (by k_mem) ned7)) Rw.len Rw.is Rw.ok Rw.few (by rw [hfold]; omega) hfold ?_
        intro h54 tk54 k54
        exact hq _ _ fun b o e => k54 b o (hov2 b o e))

end Mine
theorem PySem.Challenge.cw_pc0005_01_holds : PySem.Challenge.rw_pc0005_01.Holds :=
  Mine.law_holds
