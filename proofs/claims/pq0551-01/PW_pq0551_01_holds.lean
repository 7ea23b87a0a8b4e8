import PyProof.Rows.All
import Wide.All
import OpenK.AllK
import Wide.FinOn
import PySem.Challenge.RW_pq0551_01
open PySem PySem.W PySem.Calls PyProof.Rows
set_option Elab.async false
set_option maxRecDepth 100000
set_option rowWalk.seconds 0
set_option linter.all false
namespace Mine
theorem two {A B C H : Prop} (hl : A) (hw : B) (hc : C) (main : H) : H := (fun _ _ _ => main) hl hw hc
set_option maxHeartbeats 8000000 in
theorem hd (X : ∀ P : Prop, P) : PySem.Challenge.rw_pq0551_01.Holds := by
  w_on
  apply two
  apply X
  apply X
  apply X
  refine holds_law (X _) fun said => ?_
  k_head
example : True := by w_top off; trivial
example : PySem.Challenge.rw_pq0551_01 = PySem.Challenge.rw_pq0551_01 ∧ Mine.hd.heap_1 = Mine.hd.heap_1 := by k_fill; exact ⟨rfl, rfl⟩
local macro_rules | `(tactic| walk_at $s:str) => `(tactic| k_extra $s)
noncomputable def Ext (h h' : Heap) : Prop := ∀ b o, h.get? b = some o → h'.get? b = some o
theorem Ext.refl (h : Heap) : Ext h h := fun _ _ e => e
theorem Ext.trans {a b c : Heap} (x : Ext a b) (y : Ext b c) : Ext a c := fun _ _ e => y _ _ (x _ _ e)
noncomputable def Done (Q : Value → Shared → Prop) (v : Value) (s' : Shared) : Prop := Q v s'
section
variable {prog : Program} {w : World} {A A₀ : Around} {E Q : Value → Shared → Prop} {s : Shared} {base h₀ : Heap} {L f : Addr} {m : Str → Option Value} {K : Frag} {env : Env} {outer : List Env}
  {name qual : Str} {params : Arguments} {body : List Stmt} {scope : Scope} {dV kV doc pm cdv ct oc : Value} {an od : Option Addr} {osl : Array (Option Value)} {vs : List Value} {binds : List (Str × Value)}
  {p : Program} {loose : List Str} {mean : ExcName → Option Value} {mg mb : Str → Option Value}
theorem enterP {bs : List (Str × Value)} (B : Below A₀ base outer h₀) (F : Fr h₀ L s.heap m) (X₀ : K.In h₀) (T : Top p loose mean mg mb h₀) (hA : A.frames = some (env :: outer)) (hf : env.frame = some L) (hke : env.scope.kind = .function)
    (ho : K.lookup f = some ⟨oc, od, .func (fnOf name qual params body scope dV kV doc pm an cdv ct), osl⟩) (hcd : codeIn K cdv qual = true) (hroom : A.depth < recursionLimit) (hz : ((params.args.map (·.arg)).zip vs).reverse = bs)
    (hbind : BindsTo s (fnOf name qual params body scope dV kV doc pm an cdv ct) ⟨vs, []⟩ bs.reverse) (hloc : ∀ y ∈ bs.reverse, scope.names.lookup y.1 = some .local)
    (h : ∀ L' h₁ tk, Fr s.heap L' h₁ (fun y => bs.lookup y) → News s.heap L' h₁ [] → Below A base (env :: outer) s.heap → K.In s.heap → Top p loose mean mg mb s.heap →
      wpAny (model prog w) (A.deeper (envX qual scope L' f cdv [])) (execs body (envX qual scope L' f cdv []))
        (fun fl s' => Done Q (match fl with | .ret v => v | _ => .none) s')
        (fun e s' => wpAny (model prog w) (A.deeper (envX qual scope L' f cdv [])) (leaving (envX qual scope L' f cdv []) e) (fun _ s'' => E e s'') E s')
        { s with heap := h₁, toks := tk })
    (hco : scope.isCoroutine = false) (hgen : scope.isGenerator = false) (hk : scope.kind = .function)
    (hcell : ∀ x ∈ scope.names, x.2 ≠ .cell) : wpAny (model prog w) A (call (.ref f) vs) Q E s := by
  clear hz
  refine wpAny_call ?_
  have X := X₀.keeps F.keep
  have BG : Below A base (env :: outer) s.heap := (groundX (R := fun _ _ => True) B F News.nil hA hf hke).2.1
  refine codeAny_call_def (fd := fnOf name qual params body scope dV kV doc pm an cdv ct) (body := body) (binds := bs.reverse) hroom (X _ _ ho) rfl (T.nolimit.keeps F.keep) (codeRec_of X hcd) rfl hbind hcell hloc (fun h₁ hns hk₁ => ?_) hco hgen hk
  rw [List.reverse_reverse] at hns
  exact h _ h₁ _ ⟨hns, hk₁, Nat.le_refl _⟩ News.nil BG X (T.keeps F.keep)
end
section
variable {prog : Program} {w : World} {A A₀ : Around} {E Q : Value → Shared → Prop} {s : Shared} {base h₀ : Heap} {L f : Addr} {m : Str → Option Value} {K : Frag} {env : Env} {outer : List Env}
  {name qual : Str} {params : Arguments} {body : List Stmt} {scope : Scope} {dV kV doc pm cdv ct oc : Value} {an od : Option Addr} {osl : Array (Option Value)} {vs : List Value} {binds : List (Str × Value)}
  {p : Program} {loose : List Str} {mean : ExcName → Option Value} {mg mb : Str → Option Value}
theorem enterPC (B : Below A₀ base outer h₀) (F : Fr h₀ L s.heap m) (X₀ : K.In h₀) (T : Top p loose mean mg mb h₀) (hA : A.frames = some (env :: outer)) (hf : env.frame = some L) (hke : env.scope.kind = .function)
    (ho : K.lookup f = some ⟨oc, od, .func (fnOf name qual params body scope dV kV doc pm an cdv ct), osl⟩) (hcd : codeIn K cdv qual = true) (hroom : A.depth < recursionLimit)
    (hbind : BindsTo s (fnOf name qual params body scope dV kV doc pm an cdv ct) ⟨vs, []⟩ binds) (hkind : (binds.all fun y => scope.names.lookup y.1 == some .local || scope.names.lookup y.1 == some .cell) = true)
    (hnd : ((cellsFrom 0 scope.names []).map (·.1)).Nodup)
    (h : ∀ L' h₁ tk cells, Fr s.heap L' h₁ (bindL (envOfC qual scope L' f cdv).kindOf binds fun _ => none) → News s.heap L' h₁ cells → CellsAre (bindC (envOfC qual scope L' f cdv).kindOf binds fun _ => none) (cellsFrom (L' + 1) scope.names []) cells →
      Below A base (env :: outer) s.heap → K.In s.heap → Top p loose mean mg mb s.heap →
      wpAny (model prog w) (A.deeper (envOfC qual scope L' f cdv)) (execs body (envOfC qual scope L' f cdv))
        (fun fl s' => Done Q (match fl with | .ret v => v | _ => .none) s')
        (fun e s' => wpAny (model prog w) (A.deeper (envOfC qual scope L' f cdv)) (leaving (envOfC qual scope L' f cdv) e) (fun _ s'' => E e s'') E s')
        { s with heap := h₁, toks := tk })
    (hco : scope.isCoroutine = false) (hgen : scope.isGenerator = false) (hk : scope.kind = .function) : wpAny (model prog w) A (call (.ref f) vs) Q E s := by
  refine wpAny_call ?_
  have X := X₀.keeps F.keep
  have BG : Below A base (env :: outer) s.heap := (groundX (R := fun _ _ => True) B F News.nil hA hf hke).2.1
  refine codeAny_call_function hroom (X _ _ ho) rfl hco hgen rfl (codeRec_of X hcd) (hbind _ _ _ _ ?_)
  refine wpAny_newFunctionEnv_cells hk (kindsX hkind _) fun env' he s' x => ?_
  subst he
  refine ⟨(T.nolimit.keeps F.keep).keeps x.toInCall.keep, codeAny_func ?_⟩
  obtain ⟨h₁, tk, rfl, _⟩ := x.done
  have hk₁ := x.toInCall.keep
  obtain ⟨cells, NC, Y⟩ := Cl.news (h₀ := s.heap) (Nat.le_refl _) fun n c hm => ⟨x.cell n c (lookup_of_mem_nodup (cellsFrom_names scope.names 0 (s.heap.objs.size + 1) [] [] rfl ▸ hnd) hm), x.above n c hm⟩
  exact h s.heap.objs.size h₁ tk cells ⟨x.toInCall.ns, fun b o e => hk₁ b o e, Nat.le_refl _⟩ NC Y BG X (T.keeps F.keep)
end
noncomputable def PureCall (w : World) (f : Addr) (dn : Nat) (vs : List Value) (h : Heap) (P : Value → Heap → Prop) : Prop :=
  ∀ (prog : Program) (mean : ExcName → Option Value) (mg mb : Str → Option Value) (dp un : Nat) (gd : Option (List Code)) (cn : Str) (cs : Scope) (a : Addr) (ccd : Value) (cl : List (Str × Addr)) (outer : List Env) (A₀ : Around) (base h₀ : Heap) (L : Addr) (m : Str → Option Value) (s : Shared) (Q E : Value → Shared → Prop),
    s.heap = h → Below A₀ base outer h₀ → Fr h₀ L s.heap m → (Mine.hd.heap_1 w.params).In h₀ → Top Mine.hd.view_1 (looseW Mine.hd.view_1 []) mean mg mb h₀ → cs.kind = .function → dp + dn < recursionLimit → un + 8 * dn < cLine →
    (∀ v h' tk', Ext s.heap h' → P v h' → Q v { s with heap := h', toks := tk' }) →
    wpAny (model prog w) (ktrTop dp un gd cn cs L a ccd cl outer) (call (.ref f) vs) Q E s
noncomputable def NewInts (h : Heap) (ns : List Int) (v : Value) (h' : Heap) : Prop :=
  ∃ l ws e, v = .ref l ∧ h.get? l = none ∧ h'.get? l = some (W.listOf (List.toArray ws) e) ∧ IntsAre ws ns
theorem Ext.fr {h₀ h h' : Heap} {L : Addr} {m : Str → Option Value} (x : Ext h h') (F : Fr h₀ L h m) : Fr h₀ L h' m :=
  ⟨F.ns.at' fun _ e => x _ _ e, fun b o e => x _ _ (F.keep b o e), F.above⟩
theorem Ext.news {h₀ h h' : Heap} {L : Addr} {news : List (Addr × Obj)} (x : Ext h h') (N : News h₀ L h news) : News h₀ L h' news :=
  fun p hp => ⟨x _ _ (N p hp).1, (N p hp).2⟩
theorem Ext.cons {h₀ h h' : Heap} {L l : Addr} {o : Obj} {m : Str → Option Value} {news : List (Addr × Obj)} (F : Fr h₀ L h m) (N : News h₀ L h' news) (hn : h.get? l = none) (ho : h'.get? l = some o) : News h₀ L h' ((l, o) :: news) := by
  intro p hp
  rcases List.mem_cons.mp hp with rfl | hp
  · refine ⟨ho, ?_, ?_⟩
    · intro q
      obtain ⟨oL, _, _, hL, _⟩ := F.ns
      dsimp only at q
      rw [q] at hn; rw [hn] at hL; cases hL
    · cases q : h₀.get? l with
      | none => rfl
      | some o' => have := F.keep l o' q; rw [hn] at this; cases this
  · exact N p hp
noncomputable def AllNe (l : Nat) : List (Addr × Obj) → Prop
  | [] => True
  | p :: r => @Ne Nat p.1 l ∧ AllNe l r
theorem allNe_of {h₀ h : Heap} {L l : Addr} (hn : h.get? l = none) : ∀ {news : List (Addr × Obj)}, News h₀ L h news → AllNe l news
  | [], _ => trivial
  | p :: r, N => by
    refine ⟨fun e => ?_, allNe_of hn fun q hq => N q (.tail _ hq)⟩
    have h1 := (N p (.head _)).1
    rw [show p.1 = l from e, hn] at h1
    cases h1
section
variable {prog : Program} {w : World} {mean : ExcName → Option Value} {mg mb : Str → Option Value} {dp un : Nat} {gd : Option (List Code)} {cn : Str} {cs : Scope} {a : Addr} {ccd : Value} {cl : List (Str × Addr)} {outer : List Env} {A₀ : Around} {base h₀ : Heap} {L : Addr} {m : Str → Option Value} {s : Shared} {Q E : Value → Shared → Prop}
  {news : List (Addr × Obj)} {f : Addr} {dn : Nat} {vs : List Value} {ns : List Int}
theorem PureCall.any {P : Value → Heap → Prop} (B : Below A₀ base outer h₀ := by k_asm) (F : Fr h₀ L s.heap m := by k_asm) (X : (Mine.hd.heap_1 w.params).In h₀ := by k_asm) (T : Top Mine.hd.view_1 (looseW Mine.hd.view_1 []) mean mg mb h₀ := by k_asm) (N : News h₀ L s.heap news := by k_asm) (hk : cs.kind = .function := by first | exact rfl | assumption)
    (C : PureCall w f dn vs s.heap P) (hd : dp + dn < recursionLimit := by ktr_room) (hu : un + 8 * dn < cLine := by ktr_units)
    (h : ∀ v h' tk', P v h' → Ext s.heap h' → Fr h₀ L h' m → News h₀ L h' news → Q v { s with heap := h', toks := tk' }) :
    wpAny (model prog w) (ktrTop dp un gd cn cs L a ccd cl outer) (call (.ref f) vs) Q E s :=
  C _ _ _ _ _ _ _ _ _ _ _ _ _ _ _ _ _ _ _ _ _ rfl B F X T hk hd hu fun v h' tk' x p => h v h' tk' p x (x.fr F) (x.news N)
theorem PureCall.int {n : Int} (B : Below A₀ base outer h₀ := by k_asm) (F : Fr h₀ L s.heap m := by k_asm) (X : (Mine.hd.heap_1 w.params).In h₀ := by k_asm) (T : Top Mine.hd.view_1 (looseW Mine.hd.view_1 []) mean mg mb h₀ := by k_asm) (N : News h₀ L s.heap news := by k_asm) (hk : cs.kind = .function := by first | exact rfl | assumption)
    (C : PureCall w f dn vs s.heap (fun v _ => ∃ t, v = .int n t)) (hd : dp + dn < recursionLimit := by ktr_room) (hu : un + 8 * dn < cLine := by ktr_units)
    (h : ∀ t h' tk', Fr h₀ L h' m → News h₀ L h' news → Q (.int n t) { s with heap := h', toks := tk' }) :
    wpAny (model prog w) (ktrTop dp un gd cn cs L a ccd cl outer) (call (.ref f) vs) Q E s := by
  refine PureCall.any B F X T N hk C hd hu fun v h' tk' p x F' N' => ?_
  obtain ⟨t, rfl⟩ := p
  exact h t h' tk' F' N'
theorem PureCall.text {x : Str} (B : Below A₀ base outer h₀ := by k_asm) (F : Fr h₀ L s.heap m := by k_asm) (X : (Mine.hd.heap_1 w.params).In h₀ := by k_asm) (T : Top Mine.hd.view_1 (looseW Mine.hd.view_1 []) mean mg mb h₀ := by k_asm) (N : News h₀ L s.heap news := by k_asm) (hk : cs.kind = .function := by first | exact rfl | assumption)
    (C : PureCall w f dn vs s.heap (fun v _ => ∃ t, v = .str x t)) (hd : dp + dn < recursionLimit := by ktr_room) (hu : un + 8 * dn < cLine := by ktr_units)
    (h : ∀ t h' tk', Fr h₀ L h' m → News h₀ L h' news → Q (.str x t) { s with heap := h', toks := tk' }) :
    wpAny (model prog w) (ktrTop dp un gd cn cs L a ccd cl outer) (call (.ref f) vs) Q E s := by
  refine PureCall.any B F X T N hk C hd hu fun v h' tk' p x F' N' => ?_
  obtain ⟨t, rfl⟩ := p
  exact h t h' tk' F' N'
theorem PureCall.ints (B : Below A₀ base outer h₀ := by k_asm) (F : Fr h₀ L s.heap m := by k_asm) (X : (Mine.hd.heap_1 w.params).In h₀ := by k_asm) (T : Top Mine.hd.view_1 (looseW Mine.hd.view_1 []) mean mg mb h₀ := by k_asm) (N : News h₀ L s.heap news := by k_asm) (hk : cs.kind = .function := by first | exact rfl | assumption)
    (C : PureCall w f dn vs s.heap (NewInts s.heap ns)) (hd : dp + dn < recursionLimit := by ktr_room) (hu : un + 8 * dn < cLine := by ktr_units)
    (h : ∀ l ws e h' tk', IntsAre ws ns → Fr h₀ L h' m → News h₀ L h' ((l, W.listOf (List.toArray ws) e) :: news) → AllNe l news → Q (.ref l) { s with heap := h', toks := tk' }) :
    wpAny (model prog w) (ktrTop dp un gd cn cs L a ccd cl outer) (call (.ref f) vs) Q E s := by
  refine C _ _ _ _ _ _ _ _ _ _ _ _ _ _ _ _ _ _ _ _ _ rfl B F X T hk hd hu fun v h' tk' x p => ?_
  obtain ⟨l, ws, e, rfl, hn, ho, hi⟩ := p
  exact h l ws e h' tk' hi (x.fr F) (Ext.cons F (x.news N) hn ho) (allNe_of hn N)
end
theorem atc (f : Addr) {M : Model} {A : Around} {vs : List Value} {Q E : Value → Shared → Prop} {s : Shared} (h : wpAny M A (call (.ref f) vs) Q E s) : wpAny M A (call (.ref f) vs) Q E s := h
theorem form2 {m m₀ : Str → Option Value} {a b : Str} {v : Option Value} (h1 : m a = v) (h2 : ∀ y, y ≠ a → y ≠ b → m y = m₀ y) : m = fun y => if y = a then v else if y = b then m b else m₀ y := by
  funext y
  by_cases e1 : y = a
  · subst e1; simp [h1]
  · by_cases e2 : y = b
    · subst e2; simp [e1]
    · simp [e1, e2, h2 y e1 e2]
theorem form3 {m m₀ : Str → Option Value} {a b c : Str} {v u : Option Value} (h1 : m a = v) (h2 : m b = u) (h3 : ∀ y, y ≠ a → y ≠ b → y ≠ c → m y = m₀ y) : m = fun y => if y = a then v else if y = b then u else if y = c then m c else m₀ y := by
  funext y
  by_cases e1 : y = a
  · subst e1; simp [h1]
  · by_cases e2 : y = b
    · subst e2; simp [e1, h2]
    · by_cases e3 : y = c
      · subst e3; simp [e1, e2]
      · simp [e1, e2, e3, h3 y e1 e2 e3]
theorem upd_same {m : Str → Option Value} {x : Str} {v : Value} (h : m x = some v) : m = fun y => if y = x then some v else m y := by
  funext y
  by_cases e : y = x
  · subst e; simp [h]
  · simp [e]
theorem upd_upd {m : Str → Option Value} {x : Str} {u v v' : Option Value} (h : v = v') : (fun y => if y = x then v else (fun y => if y = x then u else m y) y) = fun y => if y = x then v' else m y := by
  funext y
  by_cases e : y = x <;> simp [e, h]
theorem ints_snoc {ws : List Value} {ns : List Int} {i j : Int} {t : Tok} (h : IntsAre ws ns) (e : i = j) : IntsAre (ws ++ [.int i t]) (ns ++ [j]) := e ▸ h.append (.cons i t .nil)
section
variable {prog : Program} {w : World} {A : Around} {E : Value → Shared → Prop} {Q : Flow → Shared → Prop} {s : Shared} {env : Env} {h₀ : Heap} {L : Addr}
theorem While_my {test : Expr} {body : List Stmt} {pos : Pos} {m₀ : Str → Option Value} {news : List (Addr × Obj)} (J : (Str → Option Value) → Nat → (Str → Option Value) → List (Addr × Obj) → Prop)
    (F : Fr h₀ L s.heap m₀) (N : News h₀ L s.heap news) (n₀ : Nat) (nx₀ : List (Addr × Obj)) (hN : ∀ p ∈ nx₀, p ∈ news) (hJ : J m₀ n₀ m₀ nx₀)
    (turn : ∀ n m₁ news₁ h₁ tk₁, Fr h₀ L h₁ m₁ → News h₀ L h₁ news₁ → J m₀ n m₁ news₁ →
      wpAny (model prog w) A (isTrue test env (eval test env)) (fun b s₂ =>
        if b = true then wpAny (model prog w) A (execs body env) (WhileStep2 h₀ L s (J m₀) Q n) E s₂ else Q .next s₂) E { s with heap := h₁, toks := tk₁ })
    (hE : PassesOwn (model prog w) A env E := by passes_own) :
    wpAny (model prog w) A (exec (.While test body [] pos) env) Q E s :=
  While_inv2 (J m₀) F (fun p hp => N p (hN p hp)) hJ turn hE
theorem WhileStep2.go {J : Nat → (Str → Option Value) → List (Addr × Obj) → Prop} {n n' : Nat} {h' : Heap} {tk : Nat} {m : Str → Option Value} {news nx : List (Addr × Obj)} (F : Fr h₀ L h' m) (N : News h₀ L h' news) (hn : n' < n) (hs : ∀ p ∈ nx, p ∈ news) (hJ : J n' m nx) :
    WhileStep2 h₀ L s J Q n .next { s with heap := h', toks := tk } := ⟨h', tk, m, nx, n', rfl, F, fun p hp => N p (hs p hp), hn, hJ⟩
end
theorem get_none {h : Heap} {a : Addr} (ha : h.objs.size ≤ a) : h.get? a = none := by
  cases q : h.get? a with
  | none => rfl
  | some o => exact absurd (Heap.lt_size q) (Nat.not_lt.mpr ha)
theorem divmod_my {prog : Program} {w : World} {A : Around} {E Q : Value → Shared → Prop} {s : Shared} {h₀ : Heap} {L : Addr} {m : Str → Option Value} {news : List (Addr × Obj)} {x y : Nat} {t u : Tok} (F : Fr h₀ L s.heap m) (N : News h₀ L s.heap news) (hy0 : 0 < y) (hy : y < 2 ^ 64)
    (h : ∀ D h' tk, Fr h₀ L h' m → News h₀ L h' ((D, { cls := .type "tuple", data := .seq #[.int ((x / y : Nat) : Int) tk, .int ((x % y : Nat) : Int) (tk + 1)] }) :: news) → AllNe D news → Q (.ref D) { s with heap := h', toks := tk + 1 + 1 }) :
    wpAny (model prog w) A (call (.builtin "divmod") [.int (x : Int) t, .int (y : Int) u]) Q E s := by
  refine divmod_N F N (by omega) (fun h' F' N' => ?_) (Or.inl (PyProof.noPylong_of_log2 ?_))
  · rw [← Int.ofNat_fdiv, ← Int.ofNat_fmod] at N'
    exact h _ _ _ F' N' (allNe_of (get_none (Nat.le_refl _)) N)
  · rw [Int.natAbs_natCast]
    exact (Nat.log2_lt (by omega)).mpr (Nat.lt_of_lt_of_le hy (Nat.pow_le_pow_right (by omega) (by omega)))
noncomputable def Hold (P : Prop) : Prop := P
theorem Hold.intro {P : Prop} (h : P) : Hold P := h
theorem Hold.out {P : Prop} (h : Hold P) : P := h
example : True := by
  k_with "my enter" => (refine' enterP ?k1_8126 ?k2_8126 ?k3_8126 ?k5_8126 ?kA_8126 ?kF_8126 ?kK_8126 ?k6_8126 ?k7_8126 ?k8_8126 ?kZ_8126 ?k9_8126 ?kB_8126 ?_ ?c2_8126 ?c3_8126 ?c4_8126 ?c5_8126; (case kA_8126 => exact rfl); (case kF_8126 => exact rfl); (case kK_8126 => assumption); (case k1_8126 => k_asm); (case k2_8126 => k_asm); (case k3_8126 => k_asm); (case k5_8126 => k_asm); (case k6_8126 => k_is); (case k7_8126 => k_is); (case k8_8126 => ktr_room); (case kZ_8126 => simp only [List.map_cons, List.map_nil, List.zip_cons_cons, List.zip_nil_left, List.zip_nil_right, List.reverse_cons, List.reverse_nil, List.nil_append, List.cons_append]; exact rfl); (case k9_8126 => exact BindsTo.of_eq rfl); (case c5_8126 => decide); (case kB_8126 => exact locs rfl); (case c2_8126 => exact rfl); (case c3_8126 => exact rfl); (case c4_8126 => exact rfl); k_whole; intro L' h' tk' F' N' B' X' T'; (try dsimp only); (try k_lift B'); (try k_fold))
  trivial
example : True := by
  k_with "my enterC" => (refine' enterPC ?k1_8392 ?k2_8392 ?k3_8392 ?k5_8392 ?kA_8392 ?kF_8392 ?kK_8392 ?k6_8392 ?k7_8392 ?k8_8392 ?k9_8392 ?kB_8392 ?kD_8392 ?_ ?c2_8392 ?c3_8392 ?c4_8392; (case kA_8392 => exact rfl); (case kF_8392 => exact rfl); (case kK_8392 => assumption); (case k1_8392 => k_asm); (case k2_8392 => k_asm); (case k3_8392 => k_asm); (case k5_8392 => k_asm); (case k6_8392 => k_is); (case k7_8392 => k_is); (case k8_8392 => ktr_room); (case k9_8392 => exact BindsTo.of_eq rfl); (case kB_8392 => exact rfl); (case kD_8392 => decide +kernel); (case c2_8392 => exact rfl); (case c3_8392 => exact rfl); (case c4_8392 => exact rfl); k_whole; intro L' h' tk' cells' F' N' Y' B' X' T'; k_cells Y'; (try simp only [List.cons_append, List.nil_append] at N'); (try dsimp only); (try k_lift B'); (try k_fold))
  trivial
noncomputable def HoldSt : Prop := True
noncomputable def StEnd (h₀ : Heap) (L : Addr) (s : Shared) (J : (Str → Option Value) → List (Addr × Obj) → Prop) (fl : Flow) (s' : Shared) : Prop :=
  fl = .next ∧ ∃ h' tk m' nx, s' = { s with heap := h', toks := tk } ∧ Fr h₀ L h' m' ∧ News h₀ L h' nx ∧ J m' nx
theorem St_cut {prog : Program} {w : World} {A : Around} {E : Value → Shared → Prop} {Q : Flow → Shared → Prop} {s : Shared} {env : Env} {h₀ : Heap} {L : Addr} {m₀ : Str → Option Value} {st : Stmt} (J : (Str → Option Value) → (Str → Option Value) → List (Addr × Obj) → Prop)
    (_F : Fr h₀ L s.heap m₀) (body : wpAny (model prog w) A (exec st env) (StEnd h₀ L s (J m₀)) E s)
    (rest : ∀ h' tk m' nx, Fr h₀ L h' m' → News h₀ L h' nx → J m₀ m' nx → Q .next { s with heap := h', toks := tk }) :
    wpAny (model prog w) A (exec st env) Q E s :=
  wpAny_mono body (fun fl s' h => by
    obtain ⟨rfl, h', tk, m', nx, rfl, F, N, hJ⟩ := h
    exact rest h' tk m' nx F N hJ) fun _ _ e => e
theorem StEnd.go {h₀ : Heap} {L : Addr} {s : Shared} {J : (Str → Option Value) → List (Addr × Obj) → Prop} {h' : Heap} {tk : Nat} {m' : Str → Option Value} {nx : List (Addr × Obj)}
    (F : Fr h₀ L h' m') (N : News h₀ L h' nx) (hJ : J m' nx) : StEnd h₀ L s J .next { s with heap := h', toks := tk } :=
  ⟨rfl, h', tk, m', nx, rfl, F, N, hJ⟩
theorem three_named {h₀ h : Heap} {L D lt lf : Addr} {o : Obj} {wt : List Value} {et : Nat} (_N : News h₀ L h [(D, o), (lt, W.listOf wt.toArray et), (lf, W.listOf #[] 0)]) : ∃ (lf' lt' : Addr) (wt' : List Value) (et' : Nat) (D' : Addr), lf' = lf ∧ lt' = lt ∧ wt' = wt ∧ et' = et ∧ D' = D := ⟨_, _, _, _, _, rfl, rfl, rfl, rfl, rfl⟩
section OLaw
open PySem PyProof.Rows
noncomputable def limbs (w n : Nat) : List Int := if h : 0 < n ∧ 0 < w then ((n % 2 ^ w : Nat) : Int) :: limbs w (n / 2 ^ w) else []
termination_by n
decreasing_by exact Nat.div_lt_self h.1 (Nat.one_lt_two_pow (by omega))
theorem limbs_zero (w : Nat) : limbs w 0 = [] := by rw [limbs]; simp
theorem limbs_pos {w n : Nat} (hn : 0 < n) (hw : 0 < w) : limbs w n = ((n % 2 ^ w : Nat) : Int) :: limbs w (n / 2 ^ w) := by rw [limbs]; simp [hn, hw]
theorem limbs_len {w : Nat} : ∀ {b n : Nat}, n < 2 ^ b → (limbs w n).length ≤ b
  | 0, n, h => by have : n = 0 := by omega
                  subst this; simp [limbs_zero]
  | b + 1, n, h => by
    by_cases hn : 0 < n ∧ 0 < w
    · rw [limbs_pos hn.1 hn.2, List.length_cons]
      have h2 : 2 ≤ 2 ^ w := by
        have := Nat.pow_le_pow_right (n := 2) (by omega) (show 1 ≤ w from hn.2)
        simpa using this
      have : n / 2 ^ w < 2 ^ b := by
        rw [Nat.div_lt_iff_lt_mul (by omega)]
        calc n < 2 ^ (b + 1) := h
          _ = 2 ^ b * 2 := by rw [Nat.pow_succ]
          _ ≤ 2 ^ b * 2 ^ w := Nat.mul_le_mul_left _ h2
      have := limbs_len this (w := w)
      omega
    · rw [limbs]; simp [hn]
theorem bitAnd_mask (x k : Nat) : Builtin.bitAnd (x : Int) (1 * 2 ^ ((k : Nat) : Int).toNat - 1) = ((x % 2 ^ k : Nat) : Int) := by
  have e : (1 * 2 ^ ((k : Nat) : Int).toNat - 1 : Int) = ((2 ^ k - 1 : Nat) : Int) := by
    have := Nat.two_pow_pos k
    rw [Int.toNat_natCast, Int.one_mul, Int.natCast_sub this]
    simp
  rw [e]
  unfold Builtin.bitAnd
  simp only [Int.natCast_nonneg, decide_true, Int.toNat_natCast]
  rw [Nat.and_two_pow_sub_one_eq_mod]
theorem fdiv_shift (x k : Nat) : (x : Int).fdiv (2 ^ ((k : Nat) : Int).toNat) = ((x / 2 ^ k : Nat) : Int) := by
  rw [Int.toNat_natCast]
  have e : ((2 : Int) ^ k) = ((2 ^ k : Nat) : Int) := by simp
  rw [e, Int.ofNat_fdiv]
theorem fmod_shift (x k : Nat) : (x : Int).fmod (2 ^ ((k : Nat) : Int).toNat) = ((x % 2 ^ k : Nat) : Int) := by
  rw [Int.toNat_natCast]
  have e : ((2 : Int) ^ k) = ((2 ^ k : Nat) : Int) := by simp
  rw [e, Int.ofNat_fmod]
theorem limbs_mem {w : Nat} : ∀ {n : Nat} {x : Int}, x ∈ limbs w n → 0 ≤ x ∧ x < 2 ^ w := by
  intro n
  induction n using Nat.strongRecOn with
  | ind n ih =>
    intro x hx
    by_cases h : 0 < n ∧ 0 < w
    · rw [limbs_pos h.1 h.2] at hx
      rcases List.mem_cons.mp hx with rfl | hx
      · have := Nat.mod_lt n (Nat.two_pow_pos w)
        refine ⟨Int.natCast_nonneg _, ?_⟩
        have e : ((2 : Int) ^ w) = ((2 ^ w : Nat) : Int) := by simp
        rw [e]; exact Int.ofNat_lt.mpr this
      · exact ih _ (Nat.div_lt_self h.1 (Nat.one_lt_two_pow (by omega))) hx
    · rw [limbs] at hx; simp [h] at hx
theorem limbs_whole {w : Nat} (hw : 0 < w) : ∀ (n c : Nat), ((limbs w n).mapIdx fun i x => x * 2 ^ (w * (i + c))).sum = (n : Int) * 2 ^ (w * c) := by
  intro n
  induction n using Nat.strongRecOn with
  | ind n ih =>
    intro c
    by_cases h : 0 < n
    · rw [limbs_pos h hw, List.mapIdx_cons, List.sum_cons]
      have e : (fun (i : Nat) (x : Int) => x * 2 ^ (w * (i + 1 + c))) = fun i x => x * 2 ^ (w * (i + (c + 1))) := by
        funext i x; rw [Nat.add_assoc, Nat.add_comm 1 c]
      rw [e, ih _ (Nat.div_lt_self h (Nat.one_lt_two_pow (by omega))) (c + 1), Nat.zero_add, Nat.mul_add w c 1, Nat.mul_one, Int.pow_add]
      have h1 := Nat.div_add_mod n (2 ^ w)
      generalize n / 2 ^ w = q at *
      generalize n % 2 ^ w = r at *
      rw [← h1]
      push_cast
      generalize (2 : Int) ^ (w * c) = P
      generalize (2 : Int) ^ w = B
      rw [Int.add_mul, ← Int.mul_assoc, Int.mul_right_comm, Int.mul_comm (q : Int) B]
      omega
    · have : n = 0 := by omega
      subst this; simp [limbs_zero]
theorem limbs_ne_nil {w n : Nat} (hw : 0 < w) (hn : 0 < n) : limbs w n ≠ [] := by rw [limbs_pos hn hw]; simp
theorem limbs_last {w : Nat} (hw : 0 < w) : ∀ (n : Nat), 0 < (limbs w n).length → (limbs w n).getD ((limbs w n).length - 1) 0 ≠ 0 := by
  intro n
  induction n using Nat.strongRecOn with
  | ind n ih =>
    intro hl
    by_cases h : 0 < n
    · rw [limbs_pos h hw]
      by_cases h2 : 0 < n / 2 ^ w
      · have h3 : 0 < (limbs w (n / 2 ^ w)).length := List.length_pos_iff.mpr (limbs_ne_nil hw h2)
        have := ih _ (Nat.div_lt_self h (Nat.one_lt_two_pow (by omega))) h3
        rw [List.length_cons]
        obtain ⟨j, hj⟩ : ∃ j, (limbs w (n / 2 ^ w)).length = j + 1 := ⟨_, (Nat.succ_pred_eq_of_pos h3).symm⟩
        rw [hj] at this ⊢
        simpa using this
      · have h3 : n / 2 ^ w = 0 := Nat.eq_zero_of_not_pos h2
        rw [h3, limbs_zero]
        have h4 : n < 2 ^ w := by
          rcases Nat.lt_or_ge n (2 ^ w) with q | q
          · exact q
          · exact absurd (Nat.div_pos q (Nat.two_pow_pos w)) h2
        simp [Nat.mod_eq_of_lt h4]; omega
    · have : n = 0 := by omega
      subst this; simp [limbs_zero] at hl
theorem limbs_get {w : Nat} (hw : 0 < w) : ∀ (n j : Nat) (v : Int), (limbs w n)[j]? = some v → v = ((n / 2 ^ (w * j) % 2 ^ w : Nat) : Int) := by
  intro n
  induction n using Nat.strongRecOn with
  | ind n ih =>
    intro j v hv
    by_cases h : 0 < n
    · rw [limbs_pos h hw] at hv
      cases j with
      | zero => simp at hv; simp [← hv]
      | succ j =>
        rw [List.getElem?_cons_succ] at hv
        rw [ih _ (Nat.div_lt_self h (Nat.one_lt_two_pow (by omega))) j v hv, Nat.div_div_eq_div_mul, ← Nat.pow_add, Nat.mul_add, Nat.mul_one, Nat.add_comm]
    · have : n = 0 := by omega
      subst this; simp [limbs_zero] at hv
theorem limbs_small {w : Nat} (hw : 0 < w) : ∀ (n : Nat), n / 2 ^ (w * (limbs w n).length) = 0 := by
  intro n
  induction n using Nat.strongRecOn with
  | ind n ih =>
    by_cases h : 0 < n
    · rw [limbs_pos h hw, List.length_cons, Nat.mul_add, Nat.mul_one, Nat.add_comm, Nat.pow_add, ← Nat.div_div_eq_div_mul]
      exact ih _ (Nat.div_lt_self h (Nat.one_lt_two_pow (by omega)))
    · have : n = 0 := by omega
      subst this; simp
theorem limbs_big {w : Nat} (hw : 0 < w) : ∀ (n j : Nat), j < (limbs w n).length → 0 < n / 2 ^ (w * j) := by
  intro n
  induction n using Nat.strongRecOn with
  | ind n ih =>
    intro j hj
    by_cases h : 0 < n
    · rw [limbs_pos h hw, List.length_cons] at hj
      cases j with
      | zero => simpa using h
      | succ j =>
        rw [Nat.mul_add, Nat.mul_one, Nat.add_comm, Nat.pow_add, ← Nat.div_div_eq_div_mul]
        exact ih _ (Nat.div_lt_self h (Nat.one_lt_two_pow (by omega))) j (by omega)
    · have : n = 0 := by omega
      subst this; simp [limbs_zero] at hj
theorem digit_step (x w j : Nat) : x / 2 ^ (w * j) = x / 2 ^ (w * (j + 1)) * 2 ^ w + x / 2 ^ (w * j) % 2 ^ w := by
  rw [Nat.mul_add, Nat.mul_one, Nat.pow_add, ← Nat.div_div_eq_div_mul]
  have := Nat.div_add_mod (x / 2 ^ (w * j)) (2 ^ w)
  rw [Nat.mul_comm] at this
  exact this.symm
theorem pow_toNat (k : Nat) : (2 : Int) ^ ((k : Nat) : Int).toNat = ((2 ^ k : Nat) : Int) := by rw [Int.toNat_natCast]; simp
theorem add_step {B Z X Y c : Nat} (hB : 0 < B) (hc : c ≤ 1) (hZ : Z = X + Y + c) :
    Z % B = (c + (X % B + Y % B)) % B ∧ Z / B = X / B + Y / B + (c + (X % B + Y % B)) / B ∧ (c + (X % B + Y % B)) / B ≤ 1 := by
  have h1 := Nat.div_add_mod X B
  have h2 := Nat.div_add_mod Y B
  have h3 := Nat.mod_lt X hB
  have h4 := Nat.mod_lt Y hB
  generalize X / B = p at *
  generalize X % B = a at *
  generalize Y / B = q at *
  generalize Y % B = b at *
  have e : Z = (c + (a + b)) + B * (p + q) := by rw [hZ, ← h1, ← h2, Nat.mul_add]; omega
  refine ⟨by rw [e, Nat.add_mul_mod_self_left], by rw [e, Nat.add_mul_div_left _ _ hB]; omega, ?_⟩
  have : (c + (a + b)) / B < 2 := by rw [Nat.div_lt_iff_lt_mul hB]; omega
  omega
theorem small_range {a b : Int} (ha : 0 ≤ a) (hb : b < 2 ^ 32) (ha2 : a < 2 ^ 32) (hb2 : 0 ≤ b) : Builtin.Range.small a b 1 = true := by
  unfold Builtin.Range.small
  rw [PyProof.Rows.rangeSize_nat]
  simp only [Builtin.Range.rangeFitsLong]
  simp
  omega
structure AddAt (k X Y i c : Nat) (pre : List Int) : Prop where
  len : pre.length = i
  out : pre ++ limbs k ((X + Y) / 2 ^ (k * i)) = limbs k (X + Y)
  le : c ≤ 1
  sum : (X + Y) / 2 ^ (k * i) = X / 2 ^ (k * i) + Y / 2 ^ (k * i) + c
theorem AddAt.zero (k X Y : Nat) : AddAt k X Y 0 0 [] := ⟨rfl, by simp, by omega, by simp⟩
theorem AddAt.step {k X Y i c : Nat} {pre : List Int} (hk : 0 < k) (h : AddAt k X Y i c pre) (hpos : 0 < X / 2 ^ (k * i)) :
    AddAt k X Y (i + 1) ((c + (X / 2 ^ (k * i) % 2 ^ k + Y / 2 ^ (k * i) % 2 ^ k)) / 2 ^ k) (pre ++ [(((c + (X / 2 ^ (k * i) % 2 ^ k + Y / 2 ^ (k * i) % 2 ^ k)) % 2 ^ k : Nat) : Int)]) := by
  obtain ⟨h1, h2, h3⟩ := add_step (Nat.two_pow_pos k) h.le h.sum
  have e : ∀ n : Nat, n / 2 ^ (k * (i + 1)) = n / 2 ^ (k * i) / 2 ^ k := fun n => by rw [Nat.mul_add, Nat.mul_one, Nat.pow_add, ← Nat.div_div_eq_div_mul]
  refine ⟨by simp [h.len], ?_, h3, by rw [e, e, e]; exact h2⟩
  rw [e, ← h1, List.append_assoc]
  have hz : 0 < (X + Y) / 2 ^ (k * i) := by rw [h.sum, Nat.add_assoc]; exact Nat.lt_of_lt_of_le hpos (Nat.le_add_right _ _)
  have := limbs_pos hz hk
  rw [← h.out, this]
  rfl
theorem AddAt.done {k X Y c : Nat} {pre : List Int} (hk : 0 < k) {i : Nat} (h : AddAt k X Y i c pre) (hX : X / 2 ^ (k * i) = 0) (hY : Y / 2 ^ (k * i) = 0) : (if 0 < c then pre ++ [(c : Int)] else pre) = limbs k (X + Y) := by
  have h1 := h.sum
  have h2 := h.le
  rw [hX, hY, Nat.zero_add] at h1
  rw [← h.out, h1]
  have hB : 2 ≤ 2 ^ k := by simpa using Nat.pow_le_pow_right (n := 2) (by omega) (show 1 ≤ k from hk)
  by_cases hc : 0 < c
  · rw [if_pos hc, limbs_pos hc hk, Nat.mod_eq_of_lt (by omega), Nat.div_eq_of_lt (by omega), limbs_zero]
  · have : c = 0 := by omega
    subst this; simp [limbs_zero]
end OLaw
section OLaw2
open PySem PyProof.Rows
noncomputable def dgc (d : Nat) : Nat := if d < 10 then 48 + d else 87 + d
noncomputable def digs (b n : Nat) : List Nat := if _h : 0 < n ∧ 1 < b then dgc (n % b) :: digs b (n / b) else []
termination_by n
decreasing_by exact Nat.div_lt_self _h.1 _h.2
noncomputable def shownN (b n : Nat) : Str := if n = 0 then ⟨#[48]⟩ else ⟨(digs b n).reverse.toArray⟩
theorem digs_zero (b : Nat) : digs b 0 = [] := by rw [digs]; simp
theorem digs_pos {b n : Nat} (hn : 0 < n) (hb : 1 < b) : digs b n = dgc (n % b) :: digs b (n / b) := by rw [digs]; simp [hn, hb]
theorem digs_len {b : Nat} (hb : 1 < b) : ∀ {k n : Nat}, n < 2 ^ k → (digs b n).length ≤ k
  | 0, n, h => by
    have : n = 0 := by simpa using h
    rw [this, digs_zero]; simp
  | k + 1, n, h => by
    rcases Nat.eq_zero_or_pos n with q | q
    · rw [q, digs_zero]; simp
    · rw [digs_pos q hb, List.length_cons]
      have h2 : n / b < 2 ^ k := by
        have h1 : n / b ≤ n / 2 := Nat.div_le_div_left hb (by omega)
        have : n / 2 < 2 ^ k := by rw [Nat.div_lt_iff_lt_mul (by omega)]; rw [Nat.pow_succ] at h; exact h
        omega
      have := digs_len hb h2
      omega
theorem digs_ne {b n : Nat} (hn : 0 < n) (hb : 1 < b) : digs b n ≠ [] := by rw [digs_pos hn hb]; simp
theorem join_signs_aux : ∀ (l : List Nat) (acc : Array Nat), (l.map fun c => (⟨#[c]⟩ : Str)).foldl (fun a p => a ++ (Str.ofString "").cps ++ p.cps) acc = acc ++ l.toArray
  | [], acc => by simp
  | c :: r, acc => by
    rw [List.map_cons, List.foldl_cons, join_signs_aux r]
    have e : (Str.ofString "").cps = #[] := by decide +kernel
    rw [e]
    apply Array.ext'
    simp
theorem join_signs : ∀ l : List Nat, Txt.join (Str.ofString "") (l.map fun c => (⟨#[c]⟩ : Str)) = ⟨l.toArray⟩
  | [] => by decide +kernel
  | c :: r => by
    unfold Txt.join
    rw [StrLaws.glued_eq_join, List.map_cons, ← StrLaws.glued_cons, join_signs_aux]
    congr 1
    apply Array.ext'
    simp
theorem shownN_of {b x : Nat} {ds : List Nat} (h : digs b x = ds) (hp : 0 < ds.length) : shownN b x = ⟨ds.reverse.toArray⟩ := by
  unfold shownN
  rw [if_neg, h]
  rintro rfl
  rw [digs_zero] at h
  rw [← h] at hp
  exact absurd hp (by simp)
theorem shownN_zero {b x : Nat} {ds : List Nat} (h : digs b x = ds) (hb : 1 < b) (hp : ¬ 0 < ds.length) : shownN b x = Str.ofString "0" := by
  have hx : x = 0 := by
    rcases Nat.eq_zero_or_pos x with q | q
    · exact q
    · have := digs_ne q hb
      rw [h] at this
      exact absurd (List.length_pos_iff.mpr this) hp
  subst hx
  unfold shownN
  rw [if_pos rfl]
  decide +kernel
theorem slen_app (x y : Str) : (x ++ y).length = x.length + y.length := by
  show (x.cps ++ y.cps).size = _
  rw [Array.size_append]; rfl
theorem slen_minus : (Str.ofString "-").length = 1 := by decide +kernel
theorem slen_slash : (Str.ofString "/").length = 1 := by decide +kernel
theorem slen_none : (Str.ofString "").length = 0 := by decide +kernel
theorem slen_empty : Str.empty.length = 0 := by decide +kernel
theorem shownN_len {b x : Nat} (hb : 1 < b) (hx : x < 2 ^ 64) : (shownN b x).length ≤ 64 := by
  unfold shownN
  split
  · show (1 : Nat) ≤ 64; omega
  · have := digs_len hb hx
    show ((digs b x).reverse.toArray).size ≤ 64
    simpa using this
end OLaw2
section OLaw3
open PySem PyProof.Rows
open Builtin Builtin.Str
noncomputable abbrev SG : Str := Str.ofString "0123456789abcdefghijklmnopqrstuvwxyz"
noncomputable abbrev SGU : Str := Str.ofString "0123456789ABCDEFGHIJKLMNOPQRSTUVWXYZ"
noncomputable def sdig (c : Nat) : Option Nat := if 48 ≤ c ∧ c ≤ 57 then some (c - 48) else if 97 ≤ c ∧ c ≤ 122 then some (c - 87) else if 65 ≤ c ∧ c ≤ 90 then some (c - 55) else none
noncomputable def dfind (c : Nat) : Int := match sdig c with
  | some d => (d : Int)
  | none => -1
noncomputable def scan (b : Nat) : List Nat → Nat → Nat → Sum Nat Nat
  | [], _, acc => .inr acc
  | c :: r, p, acc => match sdig c with
    | some d => if d < b then scan b r (p + 1) (acc * b + d) else .inl p
    | none => .inl p
noncomputable def readNat (b : Nat) (l : List Nat) (spot : Nat) : Sum Nat Nat := if l = [] then .inl spot else scan b l spot 0
theorem sub_one (x : Str) : (∀ i, i < x.length → (x.cps.toList.getD i 0) < 123) → ∀ c i, 123 ≤ c → i + 1 ≤ x.length → strSub x i (i + 1) ≠ ⟨#[c]⟩ := by
  intro hx c i hc hi h
  have h1 := congrArg (fun s : Str => s.cps.toList) h
  simp only [StrLaws.strSub_toList] at h1
  have h2 := hx i (by omega)
  have hl : i < x.cps.toList.length := by rw [Array.length_toList]; exact hi
  rw [List.drop_eq_getElem_cons hl, show i + 1 - i = 1 by omega] at h1
  simp only [List.take_succ_cons, List.take_zero, List.cons.injEq, and_true] at h1
  rw [List.getD_eq_getElem?_getD, List.getElem?_eq_getElem hl, Option.getD_some, h1] at h2
  omega
theorem find_none (x : Str) (hx : ∀ i, i < x.length → (x.cps.toList.getD i 0) < 123) (c : Nat) (hc : 123 ≤ c) : Txt.find x ⟨#[c]⟩ = -1 := by
  rcases find_spec x ⟨#[c]⟩ with h | ⟨i, _, h1, h2⟩
  · exact h
  · exact absurd h2 (sub_one x hx c i hc h1)
theorem sg_small : ∀ i, i < SG.length → (SG.cps.toList.getD i 0) < 123 := by decide +kernel
theorem sgu_small : ∀ i, i < SGU.length → (SGU.cps.toList.getD i 0) < 123 := by decide +kernel
theorem dfind_big {c : Nat} (hc : 123 ≤ c) : dfind c = -1 := by
  unfold dfind sdig
  rw [if_neg (by omega), if_neg (by omega), if_neg (by omega)]
theorem find_ge_small : ∀ c, c < 123 → 97 ≤ c → Txt.find SG ⟨#[c]⟩ = dfind c := by decide +kernel
theorem find_lt_small : ∀ c, c < 97 → Txt.find SG ⟨#[lo1 c]⟩ = dfind c := by decide +kernel
theorem find_max_small : ∀ c, c < 123 → max (Txt.find SG ⟨#[c]⟩) (Txt.find SGU ⟨#[c]⟩) = dfind c := by decide +kernel
theorem find_ge {c : Nat} (hc : 97 ≤ c) : Txt.find SG ⟨#[c]⟩ = dfind c := by
  rcases Nat.lt_or_ge c 123 with h | h
  · exact find_ge_small c h hc
  · rw [dfind_big h]; exact find_none SG sg_small c h
theorem find_lt {c : Nat} (hc : c < 97) : Txt.find SG (Txt.lower ⟨#[c]⟩) = dfind c := by
  rw [lower_ascii (by intro x hx; simp at hx; omega)]
  rw [show Array.map lo1 (⟨#[c]⟩ : Str).cps = #[lo1 c] by simp]
  exact find_lt_small c hc
theorem find_max (c : Nat) : max (Txt.find SG ⟨#[c]⟩) (Txt.find SGU ⟨#[c]⟩) = dfind c := by
  rcases Nat.lt_or_ge c 123 with h | h
  · exact find_max_small c h
  · rw [dfind_big h, find_none SG sg_small c h, find_none SGU sgu_small c h]; rfl
theorem lt_a (c : Nat) : ((⟨#[c]⟩ : Str).cps.toList < (Str.ofString "a").cps.toList) ↔ c < 97 := by
  have e : (Str.ofString "a").cps.toList = [97] := by decide +kernel
  rw [e]
  simp [List.cons_lt_cons_iff]
theorem scan_step {b c d p acc : Nat} {r : List Nat} (h : sdig c = some d) (hd : d < b) : scan b (c :: r) p acc = scan b r (p + 1) (acc * b + d) := by rw [scan, h]; simp [hd]
theorem scan_big {b c d p acc : Nat} {r : List Nat} (h : sdig c = some d) (hd : ¬ d < b) : scan b (c :: r) p acc = .inl p := by rw [scan, h]; simp [hd]
theorem scan_none {b c p acc : Nat} {r : List Nat} (h : sdig c = none) : scan b (c :: r) p acc = .inl p := by rw [scan, h]
theorem readNat_some {b spot : Nat} {l : List Nat} (h : l ≠ []) : readNat b l spot = scan b l spot 0 := if_neg h
end OLaw3
section OLaw4
open PySem PyProof.Rows
open Builtin Builtin.Str
inductive Heard
  | bad (n : Nat)
  | nought
  | told (neg : Bool) (x y : Nat)
noncomputable def barOf (x : Str) : Nat := if Txt.find x (Str.ofString "/") < 0 then x.length else (Txt.find x (Str.ofString "/")).toNat
noncomputable def negOf (x : Str) : Bool := x.cps.toList.head? == some 45
noncomputable def begOf (x : Str) : Nat := if negOf x = true then 1 else 0
noncomputable def topOf (x : Str) : List Nat := (x.cps.toList.take (barOf x)).drop (begOf x)
noncomputable def botOf (x : Str) : List Nat := x.cps.toList.drop (barOf x + 1)
noncomputable def readR (b : Nat) (x : Str) : Heard := match readNat b (topOf x) (begOf x) with
  | .inl n => .bad n
  | .inr N => if barOf x = x.length then .told (negOf x) N 1 else match readNat b (botOf x) (barOf x + 1) with
    | .inl n => .bad n
    | .inr M => if M = 0 then .nought else .told (negOf x) N M
theorem readR_bad1 {b n : Nat} {x : Str} (h : readNat b (topOf x) (begOf x) = .inl n) : readR b x = .bad n := by unfold readR; rw [h]
theorem readR_whole {b N : Nat} {x : Str} (h : readNat b (topOf x) (begOf x) = .inr N) (hb : barOf x = x.length) : readR b x = .told (negOf x) N 1 := by unfold readR; rw [h]; simp [hb]
theorem readR_bad2 {b N n : Nat} {x : Str} (h : readNat b (topOf x) (begOf x) = .inr N) (hb : barOf x ≠ x.length) (h2 : readNat b (botOf x) (barOf x + 1) = .inl n) : readR b x = .bad n := by unfold readR; rw [h]; simp [hb, h2]
theorem readR_zero {b N M : Nat} {x : Str} (h : readNat b (topOf x) (begOf x) = .inr N) (hb : barOf x ≠ x.length) (h2 : readNat b (botOf x) (barOf x + 1) = .inr M) (hm : M = 0) : readR b x = .nought := by unfold readR; rw [h]; simp [hb, h2, hm]
theorem readR_told {b N M : Nat} {x : Str} (h : readNat b (topOf x) (begOf x) = .inr N) (hb : barOf x ≠ x.length) (h2 : readNat b (botOf x) (barOf x + 1) = .inr M) (hm : 0 < M) : readR b x = .told (negOf x) N M := by
  have : M ≠ 0 := by omega
  unfold readR; rw [h]; simp [hb, h2, this]
theorem sl_ss {x : Str} {a c : Nat} (h1 : a ≤ c) (h2 : c ≤ x.length) : (Txt.slice x (some (a : Int)) (some (c : Int))).cps.toList = (x.cps.toList.take c).drop a := by
  have := beq_iff_eq.mp (slice_closesL (x := x) (i := (a : Int)) (j := (c : Int)) (by omega) (by omega) (by omega))
  rw [this, List.drop_take]
  simp only [Int.toNat_natCast]
  rw [show ((c : Int) - (a : Int)).toNat = c - a by omega]
theorem sl_s {x : Str} {a : Nat} (h1 : a ≤ x.length) : (Txt.slice x (some (a : Int)) none).cps.toList = x.cps.toList.drop a := by
  have := slice_from_eq (x := x) (i := (a : Int)) (b := (x.length : Int)) (by omega) (by omega) rfl
  rw [this]
  simp only [Int.toNat_natCast]
  refine List.take_of_length_le ?_
  rw [List.length_drop, Array.length_toList]
  show x.length - a ≤ _
  omega
theorem str_nil {x : Str} (h : x.length = 0) : x = ⟨#[]⟩ := by
  obtain ⟨l⟩ := x
  have h' : l.size = 0 := h
  rw [Array.size_eq_zero_iff.mp h']
theorem sl_one (x : Str) : (Txt.slice x none (some 1) == Str.ofString "-") = negOf x := by
  rcases Nat.eq_zero_or_pos x.length with h | h
  · rw [str_nil h]
    decide +kernel
  · have e := beq_iff_eq.mp (slice_closes_toL (x := x) (j := 1) (by omega) (by omega))
    rw [e]
    unfold negOf
    have e2 : Str.ofString "-" = ⟨#[45]⟩ := by decide +kernel
    rw [e2]
    obtain ⟨l⟩ := x
    obtain ⟨l⟩ := l
    cases l with
    | nil => exact absurd h (by decide)
    | cons c r =>
      simp only [List.drop_zero, Int.toNat_zero, show ((1 : Int) - 0).toNat = 1 from rfl, List.take_succ_cons, List.take_zero, List.head?_cons]
      by_cases q : c = 45
      · subst q; simp
      · have : (⟨#[c]⟩ : Str) ≠ ⟨#[45]⟩ := fun z => q (by injection z with z; injection z with z; injection z)
        have h2 : (some c == some 45) = false := by simp [q]
        rw [h2]
        exact beq_eq_false_iff_ne.mpr this
theorem neg_len {x : Str} (h : negOf x = true) : 1 ≤ x.length := by
  obtain ⟨l⟩ := x
  obtain ⟨l⟩ := l
  cases l with
  | nil => exact absurd h (by decide)
  | cons c r => show 1 ≤ (c :: r).length; simp
theorem bar_none {x : Str} (h : Txt.find x (Str.ofString "/") = -1) : barOf x = x.length := by unfold barOf; rw [h]; rfl
theorem bar_some {x : Str} {i : Nat} (h : Txt.find x (Str.ofString "/") = (i : Int)) : barOf x = i := by unfold barOf; rw [h, if_neg (by omega), Int.toNat_natCast]
theorem bar_at {x : Str} {i : Nat} (h1 : i + (Str.ofString "/").length ≤ x.length) (h2 : strSub x i (i + (Str.ofString "/").length) = Str.ofString "/") : i < x.length ∧ x.cps.toList[i]? = some 47 := by
  have e : (Str.ofString "/").length = 1 := by decide +kernel
  have e2 : Str.ofString "/" = ⟨#[47]⟩ := by decide +kernel
  rw [e] at h1 h2
  refine ⟨by omega, ?_⟩
  have h3 := congrArg (fun s : Str => s.cps.toList) h2
  rw [e2] at h3
  simp only [StrLaws.strSub_toList] at h3
  have hl : i < x.cps.toList.length := by rw [Array.length_toList]; exact h1
  rw [List.drop_eq_getElem_cons hl, show i + 1 - i = 1 by omega] at h3
  simp only [List.take_succ_cons, List.take_zero, List.cons.injEq, and_true] at h3
  rw [List.getElem?_eq_getElem hl, h3]
theorem neg_bar {x : Str} {i : Nat} (h : negOf x = true) (h2 : x.cps.toList[i]? = some 47) : 1 ≤ i := by
  rcases Nat.eq_zero_or_pos i with q | q
  · subst q
    unfold negOf at h
    rw [List.head?_eq_getElem?, h2] at h
    exact absurd h (by decide)
  · exact q
end OLaw4
section OLaw5
open PySem PyProof.Rows
open Builtin Builtin.Str
inductive Out
  | bad (n : Nat)
  | nought
  | told (top : Int) (bottom : Nat)
noncomputable def Heard.out : Heard → Out
  | .bad n => .bad n
  | .nought => .nought
  | .told neg N M => .told (if (neg && decide (0 < N)) = true then 0 - ((N / Nat.gcd N M : Nat) : Int) else ((N / Nat.gcd N M : Nat) : Int)) (M / Nat.gcd N M)
noncomputable def rd (b : Nat) : List Nat → Nat → List Nat → Option Nat → Sum Nat (List Nat)
  | [], p, nums, num => match num with
    | none => .inl p
    | some m => .inr (nums ++ [m])
  | c :: l, p, nums, num => if c = 47 ∧ nums = [] then (match num with
      | none => .inl p
      | some m => rd b l (p + 1) (nums ++ [m]) none) else match sdig c with
      | none => .inl p
      | some d => if d < b then rd b l (p + 1) nums (some (d + num.getD 0 * b)) else .inl p
theorem rd_end_none {b p : Nat} {nums : List Nat} : rd b [] p nums none = .inl p := rfl
theorem rd_end_some {b p m : Nat} {nums : List Nat} : rd b [] p nums (some m) = .inr (nums ++ [m]) := rfl
theorem rd_bar_none {b p : Nat} {l : List Nat} : rd b (47 :: l) p [] none = .inl p := rfl
theorem rd_bar_some {b p m : Nat} {l : List Nat} : rd b (47 :: l) p [] (some m) = rd b l (p + 1) [m] none := rfl
theorem rd_none {b c p : Nat} {l nums : List Nat} {num : Option Nat} (hn : ¬ (c = 47 ∧ nums = [])) (hs : sdig c = none) : rd b (c :: l) p nums num = .inl p := by
  rw [rd.eq_def]
  dsimp only
  rw [if_neg hn, hs]
theorem rd_big {b c p d : Nat} {l nums : List Nat} {num : Option Nat} (hn : ¬ (c = 47 ∧ nums = [])) (hs : sdig c = some d) (hd : ¬ d < b) : rd b (c :: l) p nums num = .inl p := by
  rw [rd.eq_def]
  dsimp only
  rw [if_neg hn, hs]
  exact if_neg hd
theorem rd_dig {b c p d : Nat} {l nums : List Nat} {num : Option Nat} (hn : ¬ (c = 47 ∧ nums = [])) (hs : sdig c = some d) (hd : d < b) : rd b (c :: l) p nums num = rd b l (p + 1) nums (some (d + num.getD 0 * b)) := by
  rw [rd.eq_def]
  dsimp only
  rw [if_neg hn, hs]
  exact if_pos hd
noncomputable def outOf (neg : Bool) (nums : List Nat) : Out := if nums.getD 1 1 = 0 then .nought else
  .told ((if neg = true then 0 - ((nums.getD 0 0 : Nat) : Int) else ((nums.getD 0 0 : Nat) : Int)).fdiv ((Nat.gcd (nums.getD 0 0) (nums.getD 1 1) : Nat) : Int)) (nums.getD 1 1 / Nat.gcd (nums.getD 0 0) (nums.getD 1 1))
noncomputable def lawOut (b : Nat) (x : Str) : Out := match rd b (x.cps.toList.drop (begOf x)) (begOf x) [] none with
  | .inl n => .bad n
  | .inr nums => outOf (negOf x) nums
end OLaw5
section OLaw6
open PySem PyProof.Rows
open Builtin Builtin.Str
theorem str_ext {x y : Str} (h : x.cps.toList = y.cps.toList) : x = y := by
  obtain ⟨a⟩ := x
  obtain ⟨b⟩ := y
  have : a = b := Array.ext' h
  rw [this]
theorem slice_at {x : Str} {a c : Nat} {I J : Int} (hI : I = (a : Int)) (hJ : J = (a : Int) + 1) (h : x.cps.toList[a]? = some c) : Txt.slice x (some I) (some J) = ⟨#[c]⟩ := by
  obtain ⟨hl, he⟩ := List.getElem?_eq_some_iff.mp h
  have hl' : a < x.length := by rw [Array.length_toList] at hl; exact hl
  apply str_ext
  have := sl_ss (x := x) (a := a) (c := a + 1) (by omega) (by omega)
  rw [hI, hJ]
  rw [show ((a : Int) + 1) = ((a + 1 : Nat) : Int) by omega, this, List.drop_take, List.drop_eq_getElem_cons hl, he]
  simp
theorem clip_end {n : Nat} {i j : Int} (h : (n : Int) ≤ j) : strSliceIndices (some i) (some j) 1 n = strSliceIndices (some i) (some (n : Int)) 1 n := by
  have h0 : ¬ j < 0 := by omega
  have h1 : ¬ ((n : Int) < 0) := by omega
  have h2 : (1 : Int) > 0 := by decide
  simp only [strSliceIndices, h0, h1, h2, if_false, if_true, Int.min_eq_right h, Int.min_self]
theorem slice_end {x : Str} {I J : Int} (hI : I = (x.length : Int)) (hJ : J = (x.length : Int) + 1) : Txt.slice x (some I) (some J) = Str.ofString "" := by
  have e : Txt.slice x (some I) (some J) = Txt.slice x (some (x.length : Int)) (some (x.length : Int)) := by
    rw [hI]
    unfold Txt.slice
    rw [clip_end (by omega)]
  rw [e]
  apply str_ext
  rw [sl_ss (Nat.le_refl _) (Nat.le_refl _), show (Str.ofString "").cps.toList = [] by decide +kernel]
  apply List.drop_eq_nil_of_le
  rw [List.length_take]
  exact Nat.min_le_left _ _
theorem one_not_nil (c : Nat) : ((⟨#[c]⟩ : Str) == Str.ofString "") = false := by
  rw [show Str.ofString "" = ⟨#[]⟩ by decide +kernel]
  refine beq_eq_false_iff_ne.mpr fun h => ?_
  have := congrArg (fun s : Str => s.length) h
  exact absurd this (by show ¬ (1 = 0); decide)
theorem one_bar (c : Nat) : ((⟨#[c]⟩ : Str) == Str.ofString "/") = decide (c = 47) := by
  rw [show Str.ofString "/" = ⟨#[47]⟩ by decide +kernel]
  by_cases h : c = 47
  · subst h; simp
  · rw [decide_eq_false h]
    refine beq_eq_false_iff_ne.mpr fun z => h ?_
    injection z with z
    injection z with z
    injection z
end OLaw6
section OLaw7
open PySem PyProof.Rows
open Builtin Builtin.Str
theorem rd_seg {b : Nat} : ∀ (l r : List Nat) (p : Nat) (num : Option Nat), (∀ c ∈ l, c ≠ 47) → rd b (l ++ r) p [] num = match scan b l p (num.getD 0) with
    | .inl q => .inl q
    | .inr n => rd b r (p + l.length) [] (if l = [] then num else some n)
  | [], r, p, num, _ => by simp [scan]
  | c :: l, r, p, num, h => by
    have hc : c ≠ 47 := h c (.head _)
    have hn : ¬ (c = 47 ∧ ([] : List Nat) = []) := fun q => hc q.1
    rw [List.cons_append]
    cases hs : sdig c with
    | none => rw [rd_none hn hs, scan_none hs]
    | some d =>
      by_cases hd : d < b
      · rw [rd_dig hn hs hd, rd_seg l r (p + 1) _ (fun x hx => h x (.tail _ hx)), scan_step hs hd, show (some (d + num.getD 0 * b)).getD 0 = num.getD 0 * b + d by simp [Nat.add_comm], List.length_cons]
        cases hq : scan b l (p + 1) (num.getD 0 * b + d) with
        | inl q => rfl
        | inr n =>
          dsimp only
          rw [show p + 1 + l.length = p + (l.length + 1) by omega, if_neg (by simp : ¬ (c :: l) = [])]
          by_cases hl : l = []
          · subst hl
            rw [if_pos rfl]
            rw [scan] at hq
            injection hq with hq
            rw [show d + num.getD 0 * b = num.getD 0 * b + d from Nat.add_comm _ _, hq]
          · rw [if_neg hl]
      · rw [rd_big hn hs hd, scan_big hs hd]
theorem rd_two {b n0 : Nat} : ∀ (l : List Nat) (p : Nat) (num : Option Nat), rd b l p [n0] num = match scan b l p (num.getD 0) with
    | .inl q => .inl q
    | .inr n => if l = [] then (match num with | none => .inl p | some m => .inr [n0, m]) else .inr [n0, n]
  | [], p, none => by rw [rd_end_none]; simp [scan]
  | [], p, some m => by rw [rd_end_some]; simp [scan]
  | c :: l, p, num => by
    have hn : ¬ (c = 47 ∧ [n0] = []) := fun q => by simp at q
    cases hs : sdig c with
    | none => rw [rd_none hn hs, scan_none hs]
    | some d =>
      by_cases hd : d < b
      · rw [rd_dig hn hs hd, rd_two l (p + 1) _, scan_step hs hd, show (some (d + num.getD 0 * b)).getD 0 = num.getD 0 * b + d by simp [Nat.add_comm]]
        cases hq : scan b l (p + 1) (num.getD 0 * b + d) with
        | inl q => rfl
        | inr n =>
          dsimp only
          rw [if_neg (by simp : ¬ (c :: l) = [])]
          by_cases hl : l = []
          · subst hl
            rw [if_pos rfl]
            rw [scan] at hq
            injection hq with hq
            rw [show d + num.getD 0 * b = num.getD 0 * b + d from Nat.add_comm _ _, hq]
          · rw [if_neg hl]
      · rw [rd_big hn hs hd, scan_big hs hd]
theorem at_of {x : Str} {k : Nat} (h : x.cps.toList[k]? = some 47) : StrLaws.At x (Str.ofString "/") x.length k := by
  obtain ⟨hl, he⟩ := List.getElem?_eq_some_iff.mp h
  have e2 : Str.ofString "/" = ⟨#[47]⟩ := by decide +kernel
  rw [Array.length_toList] at hl
  refine ⟨by rw [e2]; exact hl, ?_⟩
  rw [e2]
  have hs : strSub x k (k + 1) = ⟨#[47]⟩ := by
    apply str_ext
    rw [StrLaws.strSub_toList, List.drop_eq_getElem_cons (by rw [Array.length_toList]; exact hl), he, show k + 1 - k = 1 by omega]
    rfl
  show (x.cps.extract k (k + 1) == #[47]) = true
  rw [show x.cps.extract k (k + 1) = #[47] from congrArg Str.cps hs]
  rfl
theorem bar_cases (x : Str) : (barOf x = x.length ∧ ∀ c ∈ x.cps.toList, c ≠ 47) ∨ (barOf x < x.length ∧ x.cps.toList[barOf x]? = some 47 ∧ ∀ c ∈ x.cps.toList.take (barOf x), c ≠ 47) := by
  rcases find_whole x (Str.ofString "/") with ⟨hf, hn⟩ | ⟨i, hf, ha, hn⟩
  · refine .inl ⟨bar_none hf, fun c hc q => ?_⟩
    subst q
    obtain ⟨k, hk, he⟩ := List.getElem_of_mem hc
    exact hn k (at_of (by rw [List.getElem?_eq_getElem hk, he]))
  · have hb := bar_some hf
    obtain ⟨h1, h2⟩ := bar_at ha.1 (strSub_of_subAt ha.2)
    refine .inr ⟨by omega, by rw [hb]; exact h2, fun c hc q => ?_⟩
    subst q
    obtain ⟨k, hk, he⟩ := List.getElem_of_mem hc
    rw [List.getElem_take] at he
    rw [List.length_take] at hk
    refine hn k (by omega) (at_of ?_)
    rw [List.getElem?_eq_getElem (by omega), he]
theorem fdiv_neg_out {neg : Bool} {N g : Nat} (hg : 0 < g) (hd : g ∣ N) : (if neg = true then 0 - (N : Int) else (N : Int)).fdiv (g : Int) = if (neg && decide (0 < N)) = true then 0 - ((N / g : Nat) : Int) else ((N / g : Nat) : Int) := by
  obtain ⟨q, rfl⟩ := hd
  rw [Nat.mul_div_cancel_left q hg]
  have hgi : (g : Int) ≠ 0 := by omega
  cases neg with
  | false =>
    simp only [Bool.false_eq_true, if_false, Bool.false_and]
    rw [Int.natCast_mul, Int.mul_fdiv_cancel_left _ hgi]
  | true =>
    simp only [if_true, Bool.true_and]
    have e : (0 : Int) - ((g * q : Nat) : Int) = (g : Int) * (0 - (q : Int)) := by rw [Int.natCast_mul, Int.mul_sub]; simp
    rw [e, Int.mul_fdiv_cancel_left _ hgi]
    rcases Nat.eq_zero_or_pos q with h | h
    · subst h; simp
    · rw [if_pos (decide_eq_true (Nat.mul_pos hg h))]
theorem out_two {neg : Bool} {N M : Nat} : outOf neg [N, M] = if M = 0 then .nought else (Heard.told neg N M).out := by
  unfold outOf Heard.out
  show (if M = 0 then _ else Out.told ((if neg = true then 0 - (N : Int) else (N : Int)).fdiv ((Nat.gcd N M : Nat) : Int)) (M / Nat.gcd N M)) = _
  by_cases h : M = 0
  · rw [if_pos h, if_pos h]
  · rw [if_neg h, if_neg h, fdiv_neg_out (Nat.gcd_pos_of_pos_right _ (Nat.pos_of_ne_zero h)) (Nat.gcd_dvd_left _ _)]
theorem out_one {neg : Bool} {N : Nat} : outOf neg [N] = (Heard.told neg N 1).out := by
  unfold outOf Heard.out
  show (if (1 : Nat) = 0 then _ else Out.told ((if neg = true then 0 - (N : Int) else (N : Int)).fdiv ((Nat.gcd N 1 : Nat) : Int)) (1 / Nat.gcd N 1)) = _
  rw [if_neg (by decide), fdiv_neg_out (Nat.gcd_pos_of_pos_right _ (by decide)) (Nat.gcd_dvd_left _ _)]
theorem law_is (b : Nat) (x : Str) : lawOut b x = (readR b x).out := by
  have hbl : begOf x ≤ x.length := by
    unfold begOf
    split
    · exact neg_len (by assumption)
    · exact Nat.zero_le _
  rcases bar_cases x with ⟨hb, hn⟩ | ⟨hb, hc, hn⟩
  · have ht : topOf x = x.cps.toList.drop (begOf x) := by
      unfold topOf
      rw [hb, List.take_of_length_le (by rw [Array.length_toList]; exact Nat.le_refl _)]
    have h1 := rd_seg (b := b) (topOf x) [] (begOf x) none (fun c h => hn c (List.mem_of_mem_drop (ht ▸ h)))
    rw [List.append_nil] at h1
    unfold lawOut
    rw [← ht, h1]
    by_cases he : topOf x = []
    · rw [he, scan]
      dsimp only
      rw [if_pos rfl, rd_end_none]
      dsimp only
      rw [readR_bad1 (by unfold readNat; rw [if_pos he])]
      rfl
    · have hr := readNat_some (b := b) (spot := begOf x) he
      cases hq : scan b (topOf x) (begOf x) 0 with
      | inl q =>
        rw [show scan b (topOf x) (begOf x) ((none : Option Nat).getD 0) = .inl q from hq]
        dsimp only
        rw [readR_bad1 (hr.trans hq)]
        rfl
      | inr n =>
        rw [show scan b (topOf x) (begOf x) ((none : Option Nat).getD 0) = .inr n from hq]
        dsimp only
        rw [if_neg he, rd_end_some]
        dsimp only
        rw [readR_whole (hr.trans hq) hb]
        exact out_one
  · have hbb : begOf x ≤ barOf x := by
      by_cases hg : negOf x = true
      · have := neg_bar hg hc
        unfold begOf
        rw [if_pos hg]; exact this
      · unfold begOf
        rw [if_neg hg]; exact Nat.zero_le _
    have hl : barOf x < x.cps.toList.length := by rw [Array.length_toList]; exact hb
    have hsp : x.cps.toList.drop (begOf x) = topOf x ++ 47 :: botOf x := by
      have h0 : x.cps.toList = x.cps.toList.take (barOf x) ++ 47 :: botOf x := by
        unfold botOf
        obtain ⟨_, he⟩ := List.getElem?_eq_some_iff.mp hc
        rw [← he, ← List.drop_eq_getElem_cons hl, List.take_append_drop]
      have hlt : begOf x ≤ (x.cps.toList.take (barOf x)).length := by rw [List.length_take]; omega
      conv => lhs; rw [h0]
      rw [List.drop_append_of_le_length hlt]
      rfl
    have hlen : begOf x + (topOf x).length = barOf x := by
      unfold topOf
      rw [List.length_drop, List.length_take]
      omega
    have h1 := rd_seg (b := b) (topOf x) (47 :: botOf x) (begOf x) none (fun c h => hn c (List.mem_of_mem_drop h))
    unfold lawOut
    rw [hsp, h1]
    have hne : barOf x ≠ x.length := by omega
    by_cases he : topOf x = []
    · rw [he, scan]
      dsimp only
      rw [if_pos rfl, rd_bar_none]
      dsimp only
      rw [readR_bad1 (n := begOf x) (by unfold readNat; rw [if_pos he])]
      rw [he] at hlen
      simp at hlen
      rw [show begOf x + ([] : List Nat).length = begOf x by simp]
      rfl
    · have hr := readNat_some (b := b) (spot := begOf x) he
      cases hq : scan b (topOf x) (begOf x) 0 with
      | inl q =>
        rw [show scan b (topOf x) (begOf x) ((none : Option Nat).getD 0) = .inl q from hq]
        dsimp only
        rw [readR_bad1 (hr.trans hq)]
        rfl
      | inr n =>
        rw [show scan b (topOf x) (begOf x) ((none : Option Nat).getD 0) = .inr n from hq]
        dsimp only
        rw [if_neg he, rd_bar_some, hlen, rd_two]
        by_cases hv : botOf x = []
        · rw [hv, scan]
          dsimp only
          rw [if_pos rfl]
          dsimp only
          rw [readR_bad2 (hr.trans hq) hne (n := barOf x + 1) (by unfold readNat; rw [if_pos hv])]
          rfl
        · have hr2 := readNat_some (b := b) (spot := barOf x + 1) hv
          cases hq2 : scan b (botOf x) (barOf x + 1) 0 with
          | inl q =>
            rw [show scan b (botOf x) (barOf x + 1) ((none : Option Nat).getD 0) = .inl q from hq2]
            dsimp only
            rw [readR_bad2 (hr.trans hq) hne (hr2.trans hq2)]
            rfl
          | inr M =>
            rw [show scan b (botOf x) (barOf x + 1) ((none : Option Nat).getD 0) = .inr M from hq2]
            dsimp only
            rw [if_neg hv]
            dsimp only
            rw [out_two]
            by_cases hM : M = 0
            · rw [if_pos hM, readR_zero (hr.trans hq) hne (hr2.trans hq2) hM]
              rfl
            · rw [if_neg hM, readR_told (hr.trans hq) hne (hr2.trans hq2) (Nat.pos_of_ne_zero hM)]
end OLaw7
section OLaw8
open PySem PyProof.Rows
open Builtin Builtin.Str
theorem scan_lt {b : Nat} (hb : 0 < b) : ∀ (l : List Nat) (p acc n : Nat), scan b l p acc = .inr n → n < (acc + 1) * b ^ l.length
  | [], p, acc, n, h => by
    rw [scan] at h
    injection h with h
    simp; omega
  | c :: l, p, acc, n, h => by
    cases hs : sdig c with
    | none => rw [scan_none hs] at h; cases h
    | some d =>
      by_cases hd : d < b
      · rw [scan_step hs hd] at h
        have := scan_lt hb l _ _ _ h
        have h1 : (acc * b + d + 1) ≤ (acc + 1) * b := by rw [Nat.succ_mul]; omega
        have h2 := Nat.mul_le_mul_right (b ^ l.length) h1
        rw [List.length_cons, Nat.pow_succ, Nat.mul_comm (b ^ l.length) b, ← Nat.mul_assoc]
        omega
      · rw [scan_big hs hd] at h; cases h
theorem readNat_lt {b n spot : Nat} {l : List Nat} (hb : 0 < b) (h : readNat b l spot = .inr n) : n < b ^ l.length := by
  unfold readNat at h
  split at h
  · cases h
  · have := scan_lt hb _ _ _ _ h
    simpa using this
theorem told_inv {b : Nat} {x : Str} {a : Int} {c : Nat} (hb : 2 ≤ b) (hx : x.length ≤ 8) (h : (readR b x).out = .told a c) : ∃ (sg : Bool) (P : Nat), a = (if sg = true then 0 - (P : Int) else (P : Int)) ∧ (sg = true → 0 < P) ∧ Nat.gcd P c = 1 ∧ 0 < c ∧ P < b ^ 8 ∧ c < b ^ 8 := by
  have pw : ∀ n k, k ≤ 8 → n < b ^ k → n < b ^ 8 := fun n k hk q => Nat.lt_of_lt_of_le q (Nat.pow_le_pow_right (by omega) hk)
  have key : ∀ neg N M, (Heard.told neg N M).out = .told a c → 0 < M → N < b ^ 8 → M < b ^ 8 → ∃ (sg : Bool) (P : Nat), a = (if sg = true then 0 - (P : Int) else (P : Int)) ∧ (sg = true → 0 < P) ∧ Nat.gcd P c = 1 ∧ 0 < c ∧ P < b ^ 8 ∧ c < b ^ 8 := by
    intro neg N M he hM h1 h2
    unfold Heard.out at he
    injection he with e1 e2
    have hg := Nat.gcd_pos_of_pos_right N hM
    refine ⟨neg && decide (0 < N), N / Nat.gcd N M, e1.symm, fun q => ?_, ?_, ?_, Nat.lt_of_le_of_lt (Nat.div_le_self _ _) h1, ?_⟩
    · have hN : 0 < N := by simp at q; exact q.2
      exact Nat.div_pos (Nat.le_of_dvd hN (Nat.gcd_dvd_left _ _)) hg
    · rw [← e2, Nat.gcd_div (Nat.gcd_dvd_left _ _) (Nat.gcd_dvd_right _ _), Nat.div_self hg]
    · rw [← e2]; exact Nat.div_pos (Nat.le_of_dvd hM (Nat.gcd_dvd_right _ _)) hg
    · rw [← e2]; exact Nat.lt_of_le_of_lt (Nat.div_le_self _ _) h2
  have hlt : (topOf x).length ≤ 8 := by
    unfold topOf
    rw [List.length_drop, List.length_take, Array.length_toList]
    have : x.cps.size ≤ 8 := hx
    omega
  have hlb : (botOf x).length ≤ 8 := by
    unfold botOf
    rw [List.length_drop, Array.length_toList]
    have : x.cps.size ≤ 8 := hx
    omega
  unfold readR at h
  cases h1 : readNat b (topOf x) (begOf x) with
  | inl n => rw [h1] at h; cases h
  | inr N =>
    rw [h1] at h
    have hN := pw N _ hlt (readNat_lt (by omega) h1)
    dsimp only at h
    split at h
    · exact key _ _ _ h Nat.one_pos hN (Nat.lt_of_lt_of_le (show 1 < b by omega) (Nat.le_self_pow (by decide) b))
    · cases h2 : readNat b (botOf x) (barOf x + 1) with
      | inl n => rw [h2] at h; cases h
      | inr M =>
        rw [h2] at h
        dsimp only at h
        have hM := pw M _ hlb (readNat_lt (by omega) h2)
        split at h
        · cases h
        · exact key _ _ _ h (by omega) hN hM
noncomputable def fullN (b n : Nat) : List Nat := if n = 0 then [48] else (digs b n).reverse
theorem shownN_full (b n : Nat) : shownN b n = ⟨(fullN b n).toArray⟩ := by unfold shownN fullN; split <;> rfl
theorem sdig_dgc : ∀ d, d < 36 → sdig (dgc d) = some d := by decide
theorem dgc_ok : ∀ d, d < 36 → dgc d ≠ 47 ∧ dgc d ≠ 45 := by decide
theorem digs_ok {b : Nat} (hb : 2 ≤ b ∧ b ≤ 36) : ∀ (k n : Nat), n ≤ k → ∀ c ∈ digs b n, c ≠ 47 ∧ c ≠ 45
  | k, n, hk, c, hc => by
    rcases Nat.eq_zero_or_pos n with h | h
    · subst h; rw [digs_zero] at hc; cases hc
    · rw [digs_pos h (by omega)] at hc
      have hm : n % b < b := Nat.mod_lt _ (by omega)
      rcases List.mem_cons.mp hc with rfl | hc
      · exact dgc_ok _ (by omega)
      · have hlt : n / b < n := Nat.div_lt_self h (by omega)
        cases k with
        | zero => omega
        | succ k => exact digs_ok hb k (n / b) (by omega) c hc
theorem full_ok {b n : Nat} (hb : 2 ≤ b ∧ b ≤ 36) : ∀ c ∈ fullN b n, c ≠ 47 ∧ c ≠ 45 := by
  intro c hc
  unfold fullN at hc
  split at hc
  · rw [List.mem_singleton.mp hc]; decide
  · exact digs_ok hb n n (Nat.le_refl _) c (List.mem_reverse.mp hc)
theorem full_ne {b n : Nat} (hb : 2 ≤ b) : fullN b n ≠ [] := by
  unfold fullN
  split
  · simp
  · intro h
    have := digs_ne (b := b) (n := n) (by omega) (by omega)
    exact this (List.reverse_eq_nil_iff.mp h)
theorem digs_pow {b : Nat} (hb : 1 < b) : ∀ {k n : Nat}, n < b ^ k → (digs b n).length ≤ k
  | 0, n, h => by
    have : n = 0 := by simpa using h
    rw [this, digs_zero]; simp
  | k + 1, n, h => by
    rcases Nat.eq_zero_or_pos n with q | q
    · rw [q, digs_zero]; simp
    · rw [digs_pos q hb, List.length_cons]
      have h2 : n / b < b ^ k := by rw [Nat.div_lt_iff_lt_mul (by omega)]; rw [Nat.pow_succ] at h; exact h
      have := digs_pow hb h2
      omega
theorem full_len8 {b n : Nat} (hb : 1 < b) (hn : n < b ^ 8) : (fullN b n).length ≤ 8 := by
  unfold fullN
  split
  · simp
  · have := digs_pow hb hn
    simpa using this
theorem scan_digs {b : Nat} (hb : 2 ≤ b ∧ b ≤ 36) : ∀ (k n : Nat), n ≤ k → ∀ (r : List Nat) (p acc : Nat), scan b ((digs b n).reverse ++ r) p acc = scan b r (p + (digs b n).length) (acc * b ^ (digs b n).length + n)
  | k, n, hk, r, p, acc => by
    rcases Nat.eq_zero_or_pos n with h | h
    · subst h; rw [digs_zero]; simp
    · have hm : n % b < b := Nat.mod_lt _ (by omega)
      have hlt : n / b < n := Nat.div_lt_self h (by omega)
      rw [digs_pos h (by omega), List.reverse_cons, List.append_assoc]
      cases k with
      | zero => omega
      | succ k =>
        rw [scan_digs hb k (n / b) (by omega), List.cons_append, List.nil_append, scan_step (sdig_dgc _ (by omega)) hm, List.length_cons, ← Nat.add_assoc]
        congr 1
        rw [Nat.add_mul, Nat.mul_assoc, ← Nat.pow_succ, Nat.add_assoc, Nat.mul_comm (n / b) b, Nat.div_add_mod]
theorem read_full {b n spot : Nat} (hb : 2 ≤ b ∧ b ≤ 36) : readNat b (fullN b n) spot = .inr n := by
  rw [readNat_some (full_ne hb.1)]
  unfold fullN
  split
  · rename_i h
    subst h
    rw [scan_step (d := 0) (by decide) (by omega), scan]
    simp
  · have := scan_digs hb n n (Nat.le_refl _) [] spot 0
    rw [List.append_nil] at this
    rw [this, scan]
    simp
end OLaw8
section OLaw9
open PySem PyProof.Rows
open Builtin Builtin.Str
theorem slist_app (x y : Str) : (x ++ y).cps.toList = x.cps.toList ++ y.cps.toList := by
  show (x.cps ++ y.cps).toList = _
  simp
noncomputable def ratText (b : Nat) (neg : Bool) (x y : Nat) : Str := (if neg = true then Str.ofString "-" else Str.ofString "") ++ shownN b x ++ (if y = 1 then Str.empty else Str.ofString "/" ++ shownN b y)
noncomputable def signL (neg : Bool) : List Nat := if neg = true then [45] else []
theorem rat_list (b : Nat) (neg : Bool) (P R : Nat) : (ratText b neg P R).cps.toList = signL neg ++ fullN b P ++ (if R = 1 then [] else 47 :: fullN b R) := by
  unfold ratText
  rw [slist_app, slist_app, shownN_full]
  have e1 : (if neg = true then Str.ofString "-" else Str.ofString "").cps.toList = signL neg := by
    cases neg with
    | true => show (Str.ofString "-").cps.toList = [45]; decide +kernel
    | false => show (Str.ofString "").cps.toList = []; decide +kernel
  rw [e1]
  congr 1
  split
  · show Str.empty.cps.toList = []
    decide +kernel
  · rw [slist_app, shownN_full, show (Str.ofString "/").cps.toList = [47] by decide +kernel]
    rfl
section
variable {b P R : Nat} {sg : Bool}
theorem rat_neg (hb : 2 ≤ b ∧ b ≤ 36) : negOf (ratText b sg P R) = sg := by
  unfold negOf
  rw [rat_list]
  cases sg with
  | true => rfl
  | false =>
    show ((([] : List Nat) ++ fullN b P ++ _).head? == some 45) = false
    rw [List.nil_append]
    cases hq : fullN b P with
    | nil => exact absurd hq (full_ne hb.1)
    | cons c l =>
      have := (full_ok hb c (by rw [hq]; exact .head _)).2
      show ((some c : Option Nat) == some 45) = false
      simp [this]
theorem rat_beg (hb : 2 ≤ b ∧ b ≤ 36) : begOf (ratText b sg P R) = (signL sg).length := by
  unfold begOf signL
  rw [rat_neg hb]
  cases sg <;> rfl
theorem sign_ok : ∀ c ∈ signL sg, c ≠ 47 := by
  intro c hc
  unfold signL at hc
  split at hc
  · rw [List.mem_singleton.mp hc]; decide
  · cases hc
theorem rat_bar_one (hb : 2 ≤ b ∧ b ≤ 36) (h : R = 1) : barOf (ratText b sg P R) = (ratText b sg P R).length := by
  rcases bar_cases (ratText b sg P R) with ⟨q, _⟩ | ⟨_, q, _⟩
  · exact q
  · have hm := List.mem_of_getElem? q
    rw [rat_list, if_pos h, List.append_nil] at hm
    rcases List.mem_append.mp hm with z | z
    · exact absurd rfl (sign_ok _ z)
    · exact absurd rfl (full_ok hb _ z).1
theorem bar_unique {pre post : List Nat} {k : Nat} (h1 : ∀ c ∈ pre, c ≠ 47) (h2 : (pre ++ 47 :: post)[k]? = some 47) (h3 : ∀ c ∈ (pre ++ 47 :: post).take k, c ≠ 47) : k = pre.length := by
  rcases Nat.lt_trichotomy k pre.length with q | q | q
  · rw [List.getElem?_append_left q] at h2
    exact absurd rfl (h1 _ (List.mem_of_getElem? h2))
  · exact q
  · refine absurd rfl (h3 47 ?_)
    refine List.mem_iff_getElem?.mpr ⟨pre.length, ?_⟩
    rw [List.getElem?_take_of_lt q, List.getElem?_append_right (Nat.le_refl _), Nat.sub_self]
    rfl
theorem rat_bar_two (hb : 2 ≤ b ∧ b ≤ 36) (h : R ≠ 1) : barOf (ratText b sg P R) = (signL sg ++ fullN b P).length := by
  have hl := rat_list b sg P R
  rw [if_neg h] at hl
  rcases bar_cases (ratText b sg P R) with ⟨_, q⟩ | ⟨_, q1, q2⟩
  · refine absurd rfl (q 47 ?_)
    rw [hl]
    exact List.mem_append_right _ (.head _)
  · rw [hl] at q1 q2
    refine bar_unique (fun c hc => ?_) q1 q2
    rcases List.mem_append.mp hc with z | z
    · exact sign_ok _ z
    · exact (full_ok hb _ z).1
theorem rat_top (hb : 2 ≤ b ∧ b ≤ 36) : topOf (ratText b sg P R) = fullN b P := by
  unfold topOf
  rw [rat_beg hb]
  by_cases h : R = 1
  · rw [rat_bar_one hb h, List.take_of_length_le (by rw [Array.length_toList]; exact Nat.le_refl _), rat_list, if_pos h, List.append_nil, List.drop_left]
  · rw [rat_bar_two hb h, rat_list, if_neg h, List.take_left, List.drop_left]
theorem rat_bot (hb : 2 ≤ b ∧ b ≤ 36) (h : R ≠ 1) : botOf (ratText b sg P R) = fullN b R := by
  unfold botOf
  rw [rat_bar_two hb h, rat_list, if_neg h]
  rw [show (signL sg ++ fullN b P).length + 1 = (signL sg ++ fullN b P ++ [47]).length by simp; omega]
  rw [show signL sg ++ fullN b P ++ 47 :: fullN b R = (signL sg ++ fullN b P ++ [47]) ++ fullN b R by simp, List.drop_left]
theorem rat_len (hb : 2 ≤ b ∧ b ≤ 36) (hP : P < b ^ 8) (hR : R < b ^ 8) : (ratText b sg P R).length ≤ 64 := by
  have h1 := full_len8 (by omega) hP
  have h2 := full_len8 (by omega) hR
  have h3 : (signL sg).length ≤ 1 := by unfold signL; split <;> simp
  have : (ratText b sg P R).cps.toList.length ≤ 64 := by
    rw [rat_list]
    split <;> simp <;> omega
  rwa [Array.length_toList] at this
theorem rat_bot_len (hb : 2 ≤ b ∧ b ≤ 36) (hR : R < b ^ 8) : (botOf (ratText b sg P R)).length ≤ 12 := by
  by_cases h : R = 1
  · unfold botOf
    rw [rat_bar_one hb h, List.drop_eq_nil_of_le (by rw [Array.length_toList]; exact Nat.le_succ _)]
    simp
  · rw [rat_bot hb h]
    exact Nat.le_trans (full_len8 (by omega) hR) (by decide)
theorem rat_top_len (hb : 2 ≤ b ∧ b ≤ 36) (hP : P < b ^ 8) : (topOf (ratText b sg P R)).length ≤ 12 := by
  rw [rat_top hb]
  exact Nat.le_trans (full_len8 (by omega) hP) (by decide)
theorem rat_read (hb : 2 ≤ b ∧ b ≤ 36) (hg : Nat.gcd P R = 1) (hs : sg = true → 0 < P) (hR : 0 < R) : (readR b (ratText b sg P R)).out = .told (if sg = true then 0 - (P : Int) else (P : Int)) R := by
  have ho : (Heard.told sg P R).out = .told (if sg = true then 0 - (P : Int) else (P : Int)) R := by
    show Out.told (if (sg && decide (0 < P)) = true then 0 - ((P / Nat.gcd P R : Nat) : Int) else ((P / Nat.gcd P R : Nat) : Int)) (R / Nat.gcd P R) = _
    rw [hg, Nat.div_one, Nat.div_one]
    congr 1
    cases sg with
    | false => rfl
    | true => rw [show (true && decide (0 < P)) = true by simp [hs rfl]]
  have h1 : readNat b (topOf (ratText b sg P R)) (begOf (ratText b sg P R)) = .inr P := by rw [rat_top hb]; exact read_full hb
  by_cases h : R = 1
  · rw [readR_whole h1 (rat_bar_one hb h), rat_neg hb]
    rw [h] at ho ⊢
    exact ho
  · have hne : barOf (ratText b sg P R) ≠ (ratText b sg P R).length := by
      rw [rat_bar_two hb h]
      have hlen : (ratText b sg P R).length = (ratText b sg P R).cps.toList.length := (Array.length_toList ..).symm
      rw [hlen, rat_list, if_neg h]
      simp
    have h2 : readNat b (botOf (ratText b sg P R)) (barOf (ratText b sg P R) + 1) = .inr R := by rw [rat_bot hb h]; exact read_full hb
    rw [readR_told h1 hne h2 hR, rat_neg hb]
    exact ho
end
end OLaw9
noncomputable def Keeps {α : Type} : Sem α → Prop
  | .pure _ => True
  | .raise _ => True
  | .unsupported _ => True
  | .finish _ => True
  | .rule _ k => Keeps (k ())
  | .at _ k => Keeps (k ())
  | .load _ _ k => ∀ o, Keeps (k o)
  | .update _ _ f k => (∀ o, (f o).dict = o.dict ∧ (f o).isFreed = o.isFreed) ∧ Keeps (k ())
  | .alloc _ k => ∀ a, Keeps (k a)
  | .loadIfAlive _ k => ∀ o, Keeps (k o)
  | .point _ k => Keeps (k ())
  | .fresh k => ∀ t, Keeps (k t)
  | .stack k => ∀ l, Keeps (k l)
  | .register _ _ => True
  | _ => False
theorem Keeps.bind {α β : Type} {m : Sem α} {f : α → Sem β} (h : Keeps m) (k : ∀ a, Keeps (f a)) : Keeps (m >>= f) := by
  show Keeps (m.bind f)
  induction m with
  | pure a => exact k a
  | raise | unsupported | finish | register => trivial
  | rule _ q ih | «at» _ q ih | point _ q ih => exact ih () h
  | load _ _ q ih | alloc _ q ih | loadIfAlive _ q ih | fresh q ih | stack q ih => exact fun o => ih o (h o)
  | update _ _ f q ih => exact ⟨h.1, ih () h.2⟩
  | _ => exact h.elim
noncomputable def KD (e : Addr) (d : Option Addr) (h : Heap) : Prop := ∃ o, h.get? e = some o ∧ o.dict = d
theorem Keeps.wp {α : Type} {M : Model} {Γ : Ctx} {e : Addr} {d : Option Addr} {t : Sem α} {Q : α → Pos → Shared → Prop} {E : Value → Pos → Shared → Prop} {p : Pos} {s : Shared} (h : Keeps t) (hd : KD e d s.heap)
    (w : Sem.wp M Γ t (fun a p s' => KD e d s'.heap → Q a p s') E p s) : Sem.wp M Γ t Q E p s := by
  induction t generalizing p s with
  | pure a => exact w hd
  | raise v => exact w
  | unsupported | finish | register => exact w
  | rule _ q ih | «at» _ q ih | point _ q ih => exact ih () h hd w
  | load _ _ q ih =>
    obtain ⟨o, ho, w⟩ := w
    exact ⟨o, ho, ih o (h o) hd w⟩
  | alloc o q ih =>
    refine ih _ (h _) ?_ w
    obtain ⟨x, hx, hxd⟩ := hd
    exact ⟨x, Heap.get?_push_of_some _ hx, hxd⟩
  | loadIfAlive _ q ih => exact ih _ (h _) hd w
  | fresh q ih => exact ih _ (h _) hd w
  | stack q ih => exact ih _ (h _) hd w
  | update a _ f q ih =>
    refine ⟨w.1, ih () h.2 ?_ w.2⟩
    obtain ⟨x, hx, hxd⟩ := hd
    by_cases hae : a = e
    · subst hae
      refine ⟨f x, Heap.get?_update_self f hx ?_, ((h.1 x).1).trans hxd⟩
      rw [(h.1 x).2]
      exact (Heap.get?_some_iff.mp hx).2
    · exact ⟨x, (Heap.get?_update_ne _ _ _ _ (Ne.symm hae)).trans hx, hxd⟩
  | _ => exact h.elim
theorem Keeps.any {α : Type} {M : Model} {A : Around} {e : Addr} {d : Option Addr} {t : Sem α} {Q : α → Shared → Prop} {E : Value → Shared → Prop} {s : Shared} (h : Keeps t) (hd : KD e d s.heap)
    (w : wpAny M A t (fun a s' => KD e d s'.heap → Q a s') E s) : wpAny M A t Q E s := fun Γ p hΓ => Keeps.wp h hd (w Γ p hΓ)
theorem mapFields_kd (f : Array Value → Array Value) (o : Obj) : (Obj.mapFields f o).dict = o.dict ∧ (Obj.mapFields f o).isFreed = o.isFreed := by
  obtain ⟨c, d, dt, s⟩ := o
  cases dt <;> exact ⟨rfl, rfl⟩
example : True := by
  k_with "my keeps" => (first
  | exact True.intro
  | exact fun _ => True.intro
  | exact And.intro (fun o => mapFields_kd _ o) True.intro
  | exact And.intro (fun _ => And.intro rfl rfl) True.intro
  | assumption
  | (refine Keeps.bind ?_ fun _ => ?_ <;> walk_at "my keeps")
  | (split <;> walk_at "my keeps"))
  trivial
theorem Keeps.field (v : Value) (i : Nat) : Keeps (field v i) := by
  unfold PySem.field fieldsOf
  walk_at "my keeps"
theorem Keeps.setField (v : Value) (i : Nat) (x : Value) : Keeps (setField v i x) := by
  unfold PySem.setField updateField
  walk_at "my keeps"
theorem Keeps.setFlight (e : Value) (f : Option Addr) : Keeps (setFlight e f) := by
  have h1 := Keeps.field e 1
  unfold PySem.setFlight
  refine .bind h1 fun tb => ?_
  have h2 := Keeps.setField tb 3 (f.elim .none fun f => rawInt f)
  walk_at "my keeps"
theorem Keeps.caller : Keeps underTheClaimsCaller := by
  unfold underTheClaimsCaller
  walk_at "my keeps"
theorem Keeps.back (env : Env) (i : Bool) (l : List Env) : Keeps (keptBack env i l) := by
  have h := Keeps.caller
  unfold keptBack
  walk_at "my keeps"
theorem Keeps.behind (env : Env) (l : List Env) : Keeps (behindIsImport env l) := by
  have h := Keeps.field env.code 12
  unfold behindIsImport
  walk_at "my keeps"
theorem Keeps.ready : ∀ l : List Env, Keeps (readyFrames l)
  | [] => trivial
  | env :: outer => by
    have ih := Keeps.ready outer
    have h1 := Keeps.behind env outer
    have h2 := fun i => Keeps.back env i outer
    unfold readyFrames
    split
    · refine .bind (fun _ => trivial) fun o => ?_
      split
      · trivial
      · refine .bind h1 fun i => .bind (h2 i) fun b => .bind ⟨fun o => ⟨rfl, by obtain ⟨c, d, dt, sl⟩ := o; cases dt <;> rfl⟩, trivial⟩ fun _ => ih
    · trivial
theorem Keeps.frameOf (env : Env) : Keeps (frameOf env) := by
  unfold PySem.frameOf frameObject frameEnvs
  have h := Keeps.ready
  refine .bind ?_ fun l => .bind ?_ fun r => ?_
  · exact fun _ => trivial
  · split
    · trivial
    · exact .bind (h _) fun _ => trivial
  · split <;> trivial
theorem Keeps.place (f : Addr) (b : Bool) : Keeps (entryPlaceOf f b) := by
  unfold entryPlaceOf
  refine .bind (fun _ => trivial) fun l => ?_
  split
  · split <;> trivial
  · trivial
theorem Keeps.newFields (ty : String) (vs : List Value) : Keeps (newFields ty vs) := by
  unfold PySem.newFields newObj newObjAsIs
  walk_at "my keeps"
theorem Keeps.newEntry (a b c d e : Value) (l : List Value) : Keeps (EntryCells.newEntry a b c d e l) := Keeps.newFields _ _
theorem Keeps.noteFrame (e : Value) (env : Env) : Keeps (noteFrame e env) := by
  unfold PySem.noteFrame
  split
  · rename_i f _
    refine .bind (.field _ _) fun head => ?_
    have tl : Keeps (do let a ← PySem.frameOf env; let pl ← entryPlaceOf f (head != .none); let b ← EntryCells.newEntry head a .none (rawInt f) .none pl; PySem.setField e 1 b) :=
      .bind (.frameOf _) fun a => .bind (.place _ _) fun pl => .bind (.newEntry _ _ _ _ _ _) fun b => .setField _ _ _
    split
    · refine .bind (.field _ _) fun x => ?_
      split
      · trivial
      · exact .bind (.setField _ _ _) fun _ => tl
    · exact tl
  · trivial
theorem Keeps.leaving (env : Env) (e : Value) : Keeps (leaving env e) := .bind (.noteFrame _ _) fun _ => .setFlight _ _
section OCmp
open PyProof.Rows.LCg PyProof.Rows.LCp
section
variable {prog : Program} {w : World} {A : Around} {E : Value → Shared → Prop} {s : Shared} {env : Env}
noncomputable def EnumSrc (s : Shared) (l : Addr) (xv : Value) (s₁ : Shared) : Prop :=
  ∃ h' tk e it, s₁ = { s with heap := h', toks := tk } ∧ xv = .ref e ∧ IsEnum h' e it 0 .none ∧ h'.IsListIter it l 0 ∧ e ≠ it ∧ s.heap.get? e = none ∧ s.heap.get? it = none ∧ Ext s.heap h'
theorem mapIdx_take_snoc {α β : Type} (f : Nat → α → β) (ns : List α) (i : Nat) (n : α) (h : ns[i]? = some n) : (ns.take (i + 1)).mapIdx f = (ns.take i).mapIdx f ++ [f i n] := by
  have hl : i < ns.length := (List.getElem?_eq_some_iff.mp h).1
  have : (ns.take i).length = i := by rw [List.length_take]; omega
  rw [List.take_add_one, h, Option.toList_some, List.mapIdx_append, this]
  simp
theorem nne {a b : Nat} (h : a < b ∨ b < a) : a ≠ b := by omega
theorem nlt {a b c : Nat} (h : a < b) (k : b < c) : a < c := by omega
theorem comp_enum {elt iter : Expr} {xi xv : Str} {pi pv tp : Pos} {tk} {scope : Scope} {cl : List (Str × Addr)} {pos : Pos} {Q : Value → Shared → Prop} {l : Addr} {vs : List Value} {ns : List Int} (f : Nat → Int → Int)
    (hh : A.handled = none) (hl : s.heap.IsList l vs.toArray) (hi : IntsAre vs ns) (hsz : ns.length ≤ sizeLine)
    (hclos : closureFor scope env = pure cl) (hcell : ∀ y ∈ scope.names, y.2 ≠ .cell) (hkind : scope.kind = .function)
    (hnames : ∀ y ∈ scope.names, y.2 = .local → scope.names.lookup y.1 = some .local) (hx : scope.names.lookup xi = some .local) (hx₂ : scope.names.lookup xv = some .local) (hxx : xi ≠ xv)
    (h : wpAny (model prog w) A (eval iter env) (EnumSrc s l) E s)
    (elt_ok : ∀ (i : Nat) n t t2 C s₂ m₂ E', ns[i]? = some n → s₂.heap.Ns C m₂ → m₂ xi = some (.int i t2) → m₂ xv = some (.int n t) → Ext s.heap s₂.heap →
       wpAny (model prog w) A (eval elt (compEnvC scope cl C env)) (fun y s' => (∃ t', y = .int (f i n) t') ∧ ∃ tk, s' = { s₂ with toks := tk }) E' s₂)
    (fin : ∀ D h' tk ys, Ext s.heap h' → s.heap.get? D = none → h'.get? D = some (lst ys) → IntsAre ys (ns.mapIdx f) → Q (.ref D) { s with heap := h', toks := tk })
    (hs : ∀ x, foldedSetIterable iter env x = pure x := by intro _; rfl) :
    wpAny (model prog w) A (eval (.ListComp elt [⟨.Tuple [.Name xi pi, .Name xv pv] tk tp, iter, [], 0⟩] scope pos) env) Q E s := by
  rw [eval_ListComp]
  refine wpAny_comprehension_free (use := none) rfl hs hclos hkind hnames (wpAny_mono h (fun xvv s₁ h₁ => ?_) fun _ _ e => e)
  obtain ⟨g₁, tk₀, e, it, rfl, rfl, he, hit, hei, hen, hitn, hext⟩ := h₁
  refine wpAny_pyIter_enum he ?_
  obtain ⟨ol, hol, hcl', hdl⟩ := id hl
  have hlt : l < s.heap.objs.size := Heap.lt_size hol
  have hle : l ≠ e := fun q => by rw [← q, hol] at hen; cases hen
  have hli : l ≠ it := fun q => by rw [← q, hol] at hitn; cases hitn
  have hlen : vs.toArray.size = ns.length := by simp [hi.length]
  have W := WalksT.enumerate (prog := prog) (w := w) hh e it l hei hle hli vs.toArray
  rw [hlen] at W
  have hst : (∃ old, IsEnum g₁ e it (0 : Nat) old) ∧ g₁.IsListIter it l 0 ∧ g₁.IsList l vs.toArray := ⟨⟨_, by simpa using he⟩, hit, ⟨ol, hext _ _ hol, hcl', hdl⟩⟩
  refine wpAny_newObj_type (wpAny_newFunctionEnv hcell (by intro y hy; simp at hy) (fun h₁ hns₁ hsb₁ => ?_) hkind)
  dsimp only at hns₁ hsb₁ ⊢
  generalize hH2 : g₁.push { cls := .type "list", dict := none, data := .seq ([] : List Value).toArray } = H2 at hns₁ hsb₁ ⊢
  have hC : H2.objs.size = g₁.objs.size + 1 := by rw [← hH2, Heap.size_push]
  have hacc' : H2.get? g₁.objs.size = some (lst []) := by rw [← hH2]; exact Heap.get?_push_size _ rfl
  generalize hDd : g₁.objs.size = D at *
  generalize hCc : H2.objs.size = C at *
  have below : ∀ (b : Nat) o, g₁.get? b = some o → b < D := fun b o x => hDd ▸ Heap.lt_size x
  have hDCl : D < C := hC ▸ Nat.lt_succ_self _
  have old : ∀ b o, g₁.get? b = some o → h₁.get? b = some o := fun b o x => hsb₁.extBut b o (nne (.inl (nlt (below b o x) hDCl))) (Heap.get?_push_of_some _ (hH2 ▸ Heap.get?_push_of_some _ x))
  have hDC : D ≠ C := nne (.inl hDCl)
  have hacc : h₁.get? D = some (lst []) := hsb₁.extBut _ _ hDC (Heap.get?_push_of_some _ hacc')
  have hst₁ := W.frame _ _ _ hst fun b _ o x => old b o x
  have fresh : ∀ a, D ≤ a → s.heap.get? a = none := fun a ha => by
    cases q : s.heap.get? a with
    | none => rfl
    | some o' => exact absurd (below _ _ (hext _ _ q)) (Nat.not_lt.mpr ha)
  have heD : @LT.lt Nat _ e D := below _ _ he
  have hiD : @LT.lt Nat _ it D := by obtain ⟨_, x, _⟩ := hit; exact below _ _ x
  have hlD : @LT.lt Nat _ l D := below _ _ (hext _ _ hol)
  have heC := nlt heD hDCl
  have hiC := nlt hiD hDCl
  have hlC := nlt hlD hDCl
  have loop : ∀ s₃ : Shared, s₃ = { s with heap := h₁, toks := tk₀ + ([] : List (Str × Value)).length } →
      codeAny (model prog w) A (.compLoop (.ListComp elt [⟨.Tuple [.Name xi pi, .Name xv pv] tk tp, iter, [], 0⟩] scope pos) 0 (.ref e) (.ref D) (compEnvC scope cl C env))
        (compPost (model prog w) A E none Q (.ref D) C) s₃ := by
    rintro s₃ rfl
    refine codeAny_compLoop_pair
      (fun k s' => ∃ h' tk i ys m', s' = { s with heap := h', toks := tk } ∧ i ≤ ns.length ∧ k = ns.length + 1 - i ∧ ys.length = i ∧ ((∃ old, IsEnum h' e it (i : Nat) old) ∧ h'.IsListIter it l i ∧ h'.IsList l vs.toArray) ∧
        Ext s.heap h' ∧ h'.Ns C m' ∧ h'.get? D = some (lst ys) ∧ IntsAre ys ((ns.take i).mapIdx f)) ?_ (ns.length + 1)
      ⟨h₁, _, 0, [], _, rfl, Nat.zero_le _, rfl, rfl, hst₁, hext.trans old, hns₁, hacc, .nil⟩
    rintro k s' ⟨h', tk', i, ys, m', rfl, hi', rfl, hyl, hst', hx', hn', hD', hI'⟩
    by_cases hlt' : i < ns.length
    · refine W.item i _ _ _ hlt' hst' fun T vals h₂ tk₂ hP hTs hT hM hk₂ => ?_
      refine W.go _ _ _ i T _ _ _ hM fun h₃ hst₃ hk₃ => ?_
      obtain ⟨t, x, hx0, rfl⟩ := hP
      have hx1 : vs[i]? = some x := by simpa using hx0
      obtain ⟨n, t', rfl, hn0⟩ := hi.at i x hx1
      have hTw := W.apart _ _ _ hM
      have sz' : C < h'.objs.size := hn'.lt
      have hDh : D < h'.objs.size := Heap.lt_size hD'
      have hCe : C ≠ e := nne (.inr heC)
      have hCi : C ≠ it := nne (.inr hiC)
      have k13 : ∀ b o, b ≠ e → b ≠ it → h'.get? b = some o → h₃.get? b = some o := fun b o a1 a2 x => hk₃ b o (by simp [a1, a2]) (hk₂ b o (by simp [a1, a2]) x)
      have hT3 : IsTup h₃ T #[.int i t, .int n t'] := by obtain ⟨o, ho, r⟩ := hT; exact ⟨o, hk₃ _ _ hTw ho, r⟩
      refine assign_Tuple_tuple hh hT3 rfl rfl fun h₅ he5 => ?_
      have he' : ∀ b o, h₃.get? b = some o → h₅.get? b = some o := fun b o x => he5 b o (Nat.ne_of_lt (Heap.lt_size x)) x
      refine assignInOrder_cons (wpAny_assign_Name (wpAny_storeName_local (lookup_relabel_local hx) ((hn'.at' fun o x => k13 _ o hCe hCi x).at' fun o x => he' _ o x) (fun h₆ hn₆ hs₆ => ?_) (by simp [compEnvC, relabel, hkind])))
      refine assignInOrder_cons (wpAny_assign_Name (wpAny_storeName_local (lookup_relabel_local hx₂) hn₆ (fun h₇ hn₇ hs₇ => ?_) (by simp [compEnvC, relabel, hkind])))
      refine assignInOrder_nil ?_
      have k37 : ∀ b o, b ≠ C → h₃.get? b = some o → h₇.get? b = some o := fun b o hb x => hs₇.extBut b o hb (hs₆.extBut b o hb (he' b o x))
      have hst₇ := W.frame _ _ h₇ hst₃ fun b hb o x => k37 b o (fun q => by
        simp only [List.mem_cons, List.not_mem_nil, or_false] at hb
        rcases hb with rfl | rfl | rfl
        · exact nne (.inr heC) q.symm
        · exact nne (.inr hiC) q.symm
        · exact nne (.inr hlC) q.symm) x
      have hx7 : Ext s.heap h₇ := fun b o x => by
        have hb := hx' b o x
        have hbD := below _ _ (hext b o x)
        refine k37 b o (nne (.inl (nlt hbD hDCl))) (k13 b o (fun q => ?_) (fun q => ?_) hb)
        · rw [q, hen] at x; cases x
        · rw [q, hitn] at x; cases x
      refine wpAny_mono (elt_ok i n t' t C _ _ _ hn0 hn₇ (by simp [hxx]) (by simp) hx7) (fun y s₄ h₄ => ?_) fun _ _ e => e
      obtain ⟨⟨t'', rfl⟩, tk₄, rfl⟩ := h₄
      have hD7 : h₇.get? D = some (lst ys) := k37 D _ hDC (k13 D _ (nne (.inr heD)) (nne (.inr hiD)) hD')
      refine append_at (hsz := by show ys.toArray.size ≤ sizeLine; rw [List.size_toArray, hyl]; exact Nat.le_trans hi' hsz) hD7 fun h₈ hs₈ hD₈ => ?_
      refine ⟨ns.length + 1 - (i + 1), by omega, h₈, _, i + 1, ys ++ [.int (f i n) t''], _, rfl, hlt', rfl, by simp [hyl], ?_, ?_, hn₇.sameBut hs₈ (Ne.symm hDC), hD₈.trans (congrArg some (lst_snoc _ _)), ?_⟩
      · exact W.frame _ _ _ hst₇ fun b hb o x => hs₈.extBut b o (fun q => by
          simp only [List.mem_cons, List.not_mem_nil, or_false] at hb
          rcases hb with rfl | rfl | rfl
          · exact nne (.inr heD) q.symm
          · exact nne (.inr hiD) q.symm
          · exact nne (.inr hlD) q.symm) x
      · exact fun b o x => hs₈.extBut b o (nne (.inl (below _ _ (hext b o x)))) (hx7 b o x)
      · rw [mapIdx_take_snoc f ns i n hn0]
        exact hI'.append (.cons _ _ .nil)
    · obtain rfl : i = ns.length := by omega
      refine W.done _ _ _ hst' fun h₂ tk₂ hk₂ => ?_
      have sz' : C < h'.objs.size := hn'.lt
      have k2 : ∀ b o, b ≠ e → b ≠ it → h'.get? b = some o → h₂.get? b = some o := fun b o a1 a2 x => hk₂ b o (by simp [a1, a2]) x
      rw [List.take_length] at hI'
      refine ⟨m', hn'.at' fun o x => k2 _ _ (nne (.inr heC)) (nne (.inr hiC)) x, fun h'' hs'' => fin D h'' _ ys (fun b o x => ?_) (fresh D (Nat.le_refl _)) ?_ hI'⟩
      · have hbD := below _ _ (hext b o x)
        refine hs''.extBut b o (nne (.inl (nlt hbD hDCl))) (k2 b o (fun q => ?_) (fun q => ?_) (hx' b o x))
        · rw [q, hen] at x; cases x
        · rw [q, hitn] at x; cases x
      · exact hs''.extBut _ _ hDC (k2 D _ (nne (.inr heD)) (nne (.inr hiD)) hD')
  exact codeAny_compStart_list (loop _ rfl) (W.self 0 _ _ _ hst₁ (loop _ rfl))
end
end OCmp
noncomputable def StepMy (h₀ : Heap) (L : Addr) (O : List (Addr × Obj)) (J' : (Str → Option Value) → List (Addr × Obj) → Prop) (s₁ : Shared) (Q : Flow → Shared → Prop) (f : Flow) (s₂ : Shared) : Prop := match f with
  | .ret v => Q (.ret v) s₂
  | .brk => Q .next s₂
  | _ => ∃ h' tk m₂ nx, s₂ = { s₁ with heap := h', toks := tk } ∧ Fr h₀ L h' m₂ ∧ News h₀ L h' (O ++ nx) ∧ (∀ p ∈ nx, ∀ q ∈ O, p.1 ≠ q.1) ∧ J' m₂ nx
theorem StepMy.go {h₀ : Heap} {L : Addr} {O : List (Addr × Obj)} {J' : (Str → Option Value) → List (Addr × Obj) → Prop} {s₁ : Shared} {Q : Flow → Shared → Prop} {h' : Heap} {tk : Nat} {m : Str → Option Value} {news : List (Addr × Obj)} (nx : List (Addr × Obj))
    (F : Fr h₀ L h' m) (N : News h₀ L h' news) (hs : ∀ p ∈ O ++ nx, p ∈ news) (hne : ∀ p ∈ nx, ∀ q ∈ O, p.1 ≠ q.1) (hJ : J' m nx) : StepMy h₀ L O J' s₁ Q .next { s₁ with heap := h', toks := tk } :=
  ⟨h', tk, m, nx, rfl, F, fun p hp => N p (hs p hp), hne, hJ⟩
section
variable {prog : Program} {w : World} {A : Around} {E : Value → Shared → Prop} {Q : Flow → Shared → Prop} {s : Shared} {env : Env} {h₀ : Heap}
noncomputable def At1 (prog : Program) (w : World) (A : Around) (h₀ : Heap) (env : Env) (x : Str) (body : List Stmt) (Q : Flow → Shared → Prop) (E : Value → Shared → Prop) (it : Value) (s₂ : Shared) : Prop :=
  ∃ (I : Addr) (fp : List Addr) (n : Nat) (P : Nat → Value → Prop) (St : Nat → Heap → Prop) (m : Str → Option Value) (news : List (Addr × Obj)) (J : Nat → (Str → Option Value) → List (Addr × Obj) → Prop),
    it = .ref I ∧ Walks prog w A I fp [I] n P St ∧ (∀ b ∈ fp, b = I ∨ ∃ o, h₀.get? b = some o) ∧ (∀ i h, St i h → ∃ o, h.get? I = some o) ∧ h₀.get? I = none ∧ env.locals ≠ I ∧ St 0 s₂.heap ∧ Fr h₀ env.locals s₂.heap m ∧ News h₀ env.locals s₂.heap news ∧ (∀ p ∈ news, p.1 ≠ I) ∧ J 0 m news ∧
    (∀ i v m₁ nx h tk oI, i < n → P i v → J i m₁ nx → Fr h₀ env.locals h (fun y => if y = x then some v else m₁ y) → News h₀ env.locals h ((I, oI) :: nx) → (∀ p ∈ nx, p.1 ≠ I) →
      wpAny (model prog w) A (execs body env) (StepMy h₀ env.locals [(I, oI)] (J (i + 1)) { s₂ with heap := h, toks := tk } Q) E { s₂ with heap := h, toks := tk }) ∧
    ∀ h' tk m' nx, Fr h₀ env.locals h' m' → News h₀ env.locals h' nx → J n m' nx → Q .next { s₂ with heap := h', toks := tk }
theorem At1.toV {x : Str} {body : List Stmt} {it : Value} {s₂ : Shared} (h : At1 prog w A h₀ env x body Q E it s₂) : LoopAtV prog w A h₀ env x body Q E it s₂ := by
  obtain ⟨I, fp, n, P, St, m, news, J, e, W, hfp, hlive, hI, hL, hst, F, N, hnw, h0, step, done⟩ := h
  refine ⟨I, fp, [I], n, P, St, m, news, J, e, W, fun hm => ?_, fun b hb => by rw [List.mem_singleton.mp hb]; exact hI, fun p hp hb => hnw p hp (List.mem_singleton.mp hb), hst, F, N, h0, ?_, fun h' tk m' nx F' N' _ hJ => done h' tk m' nx F' N' hJ⟩
  · rcases hfp _ hm with q | ⟨o, q⟩
    · exact hL q
    · exact absurd (Nat.lt_of_lt_of_le (Heap.lt_size q) F.above) (Nat.lt_irrefl _)
  · rintro i v m₁ nx s₁ own ⟨h, tk, rfl⟩ hi hP hJ hoff hsub hget hall hst₁ F₁ N₁
    obtain ⟨oI, ho⟩ := hlive _ _ hst₁
    have hIfp : I ∈ fp := W.sub I (List.mem_singleton.mpr rfl)
    have hm : (I, oI) ∈ own := hall I hIfp hI oI ho
    have hne : ∀ p ∈ nx, p.1 ≠ I := fun p hp q => hoff p hp (List.mem_singleton.mpr q)
    have own_eq : ∀ p ∈ own, p = (I, oI) := fun p hp => by
      rcases hfp _ (hsub p hp) with q | ⟨o, q⟩
      · have := hget p hp
        rw [q] at this
        have h2 : some p.2 = some oI := this.symm.trans ho
        exact Prod.ext q (Option.some.inj h2)
      · have := (N₁ p (List.mem_append_left _ hp)).2.2
        rw [q] at this; cases this
    refine wpAny_mono (step i v m₁ nx h tk oI hi hP hJ F₁ (fun p hp => ?_) hne) (fun f s₃ p => ?_) fun _ _ x => x
    · rcases List.mem_cons.mp hp with rfl | hp
      · exact N₁ _ (List.mem_append_left _ hm)
      · exact N₁ _ (List.mem_append_right _ hp)
    · have fin : (∃ h' tk' m₂ nx', s₃ = { s₂ with heap := h', toks := tk' } ∧ Fr h₀ env.locals h' m₂ ∧ News h₀ env.locals h' ([(I, oI)] ++ nx') ∧ (∀ p ∈ nx', ∀ q ∈ [(I, oI)], p.1 ≠ q.1) ∧ J (i + 1) m₂ nx') →
          LoopStepU h₀ env.locals [I] own (J (i + 1)) { s₂ with heap := h, toks := tk } .next s₃ := by
        rintro ⟨h', tk', m₂, nx', rfl, F', N', hne', hJ'⟩
        refine ⟨rfl, h', tk', m₂, nx', rfl, F', fun p hp => ?_, fun p hp q => hne' p hp _ (List.mem_singleton.mpr rfl) (List.mem_singleton.mp q), hJ'⟩
        rcases List.mem_append.mp hp with hp | hp
        · rw [own_eq p hp]; exact N' _ (.head _)
        · exact N' _ (List.mem_append_right _ hp)
      cases f with
      | ret v => exact .ret p
      | brk => exact .brk p
      | next => exact .next (fin p)
      | cont => exact .cont (fin p)
theorem For1_my {x : Str} {px pos : Pos} {iter : Expr} {body : List Stmt} {m : Str → Option Value} (_F : Fr h₀ env.locals s.heap m) (hx : env.kindOf x = some .local)
    (hp : (env.scope.kind == .class || (env.scope.kind == .module && env.locals != env.globals)) = false)
    (h : wpAny (model prog w) A (eval iter env) (fun xv s₁ => wpAny (model prog w) A (pyIter xv) (fun it s₂ => At1 prog w A h₀ env x body Q E it s₂) E s₁) E s)
    (hs : ∀ x, foldedSetIterable iter env x = pure x := by intro _; rfl)
    (hE : PassesOwn (model prog w) A env E := by passes_own) :
    wpAny (model prog w) A (exec (.For (.Name x px) iter body [] pos) env) Q E s :=
  For_invV h₀ hx hp (wpAny_mono h (fun xv s₁ h₁ => wpAny_mono h₁ (fun it s₂ h₂ => h₂.toV) fun _ _ e => e) fun _ _ e => e) hs hE
theorem at_range {x : Str} {body : List Stmt} {r : Addr} {a₀ b₀ : Int} {t₀ u₀ v₀ : Tok} (n : Nat) {m₀ : Str → Option Value} {news : List (Addr × Obj)} (J : (Str → Option Value) → Nat → (Str → Option Value) → List (Addr × Obj) → Prop)
    (hh : A.handled = none) (hr : IsRange s.heap r a₀ b₀ 1 t₀ u₀ v₀) (hsmall : Builtin.Range.small a₀ b₀ 1 = true) (hn : Builtin.Range.rangeSize a₀ b₀ 1 = (n : Int)) (F : Fr h₀ env.locals s.heap m₀) (N : News h₀ env.locals s.heap news)
    (nx₀ : List (Addr × Obj)) (hsub : ∀ p ∈ nx₀, p ∈ news) (hJ : J m₀ 0 m₀ nx₀)
    (step : ∀ (i : Nat) t m₁ nx h tk I oI, i < n → J m₀ i m₁ nx → Fr h₀ env.locals h (fun y => if y = x then some (.int (a₀ + i) t) else m₁ y) → News h₀ env.locals h ((I, oI) :: nx) → (∀ p ∈ nx, p.1 ≠ I) →
      wpAny (model prog w) A (execs body env) (StepMy h₀ env.locals [(I, oI)] (J m₀ (i + 1)) { s with heap := h, toks := tk } Q) E { s with heap := h, toks := tk })
    (done : ∀ m₁ nx h tk, J m₀ n m₁ nx → Fr h₀ env.locals h m₁ → News h₀ env.locals h nx → Q .next { s with heap := h, toks := tk }) :
    wpAny (model prog w) A (pyIter (.ref r)) (fun it s₂ => At1 prog w A h₀ env x body Q E it s₂) E s := by
  refine wpAny_pyIter_range hr hsmall ?_
  have W : Walks prog w A s.heap.objs.size [s.heap.objs.size] [s.heap.objs.size] n (fun i v => ∃ t, v = .int (a₀ + i * 1) t)
      (fun i h => IsRangeIter h s.heap.objs.size (a₀ + (i : Nat) * 1) ((n : Int) - (i : Nat)) 1) := Walks.range hh _ a₀ 1 n
  refine ⟨_, _, n, _, _, m₀, nx₀, J m₀, rfl, W, fun b hb => .inl (List.mem_singleton.mp hb), fun i h st => ⟨_, st⟩, next_is_new F, Nat.ne_of_lt F.ns.lt, (by show IsRangeIter _ _ _ _ _; rw [hn]; simpa using Heap.get?_push_size _ rfl), F.push _,
    (fun p hp => ⟨Heap.get?_push_of_some _ (N p (hsub p hp)).1, (N p (hsub p hp)).2⟩), (fun p hp => Nat.ne_of_lt (Heap.lt_size (N p (hsub p hp)).1)), hJ, ?_, fun h' tk m' nx F' N' hJ' => done m' nx h' tk hJ' F' N'⟩
  rintro i v m₁ nx h tk oI hi ⟨t, rfl⟩ hJ' F' N' hne
  have e1 : a₀ + (i : Int) * 1 = a₀ + (i : Int) := by omega
  rw [e1] at F'
  exact step i t m₁ nx h tk _ oI hi hJ' F' N' hne
theorem at_rev {x : Str} {body : List Stmt} {D l : Addr} {vs : List Value} {m₀ : Str → Option Value} {news : List (Addr × Obj)} (J : (Str → Option Value) → Nat → (Str → Option Value) → List (Addr × Obj) → Prop)
    (hh : A.handled = none) (hl : h₀.IsList l vs.toArray) (hm : (D, revObj l ((vs.length : Int) - 1)) ∈ news) (F : Fr h₀ env.locals s.heap m₀) (N : News h₀ env.locals s.heap news)
    (nx₀ : List (Addr × Obj)) (hsub : ∀ p ∈ nx₀, p ∈ news) (hD : ∀ p ∈ nx₀, p.1 ≠ D) (hJ : J m₀ 0 m₀ nx₀)
    (step : ∀ (i : Nat) v m₁ nx h tk I oI, i < vs.length → vs[vs.length - 1 - i]? = some v → J m₀ i m₁ nx → Fr h₀ env.locals h (fun y => if y = x then some v else m₁ y) → News h₀ env.locals h ((I, oI) :: nx) → (∀ p ∈ nx, p.1 ≠ I) →
      wpAny (model prog w) A (execs body env) (StepMy h₀ env.locals [(I, oI)] (J m₀ (i + 1)) { s with heap := h, toks := tk } Q) E { s with heap := h, toks := tk })
    (done : ∀ m₁ nx h tk, J m₀ vs.length m₁ nx → Fr h₀ env.locals h m₁ → News h₀ env.locals h nx → Q .next { s with heap := h, toks := tk }) :
    wpAny (model prog w) A (pyIter (.ref D)) (fun it s₂ => At1 prog w A h₀ env x body Q E it s₂) E s := by
  have ND := N _ hm
  obtain ⟨ol, hol, hcl⟩ := id hl
  have hne : l ≠ D := fun q => by have := ND.2.2; dsimp only at this; rw [← q, hol] at this; cases this
  have hit : s.heap.IsRevIter D l ((vs.length : Int) - 1) := by exact ⟨_, ND.1, rfl, rfl⟩
  refine wpAny_pyIter_revIter hit ?_
  have W := Walks.listRev (prog := prog) (w := w) hh D l hne vs.toArray
  have hsz : vs.toArray.size = vs.length := by simp
  rw [hsz] at W
  refine ⟨D, _, vs.length, _, _, m₀, nx₀, J m₀, rfl, W, fun b hb => ?_, fun i h st => ?_, ND.2.2, fun q => ND.2.1 q.symm, ⟨Nat.zero_le _, ?_, ⟨ol, F.keep _ _ hol, hcl⟩⟩, F, fun p hp => N p (hsub p hp), hD, hJ, ?_, fun h' tk m' nx F' N' hJ' => done m' nx h' tk hJ' F' N'⟩
  · rcases List.mem_cons.mp hb with q | hb
    · exact .inl q
    · rw [List.mem_singleton.mp hb]; exact .inr ⟨ol, hol⟩
  · obtain ⟨_, ⟨o, ho, _⟩, _⟩ := st
    exact ⟨o, ho⟩
  · simpa using hit
  rintro i v m₁ nx h tk oI hi hv hJ' F' N' hne'
  exact step i v m₁ nx h tk _ oI hi (by simpa using hv) hJ' F' N' hne'
theorem For2_str {xi xc : Str} {pk pv pt pos : Pos} {x1 : Nat} {iter : Expr} {body : List Stmt} {x : Str} {m₀ : Str → Option Value} {news : List (Addr × Obj)} (J : (Str → Option Value) → Nat → (Str → Option Value) → List (Addr × Obj) → Prop)
    (hh : A.handled = none) (hxi : env.kindOf xi = some .local) (hxc : env.kindOf xc = some .local)
    (hp : (env.scope.kind == .class || (env.scope.kind == .module && env.locals != env.globals)) = false)
    (F : Fr h₀ env.locals s.heap m₀) (N : News h₀ env.locals s.heap news) (nx₀ : List (Addr × Obj)) (hsub : ∀ p ∈ nx₀, p ∈ news) (hJ : J m₀ 0 m₀ nx₀)
    (h : wpAny (model prog w) A (eval iter env) (fun xv s₁ => ∃ h' tk t, s₁ = { s with heap := h', toks := tk } ∧ xv = .ref (s.heap.objs.size + 1) ∧ IsEnum h' (s.heap.objs.size + 1) s.heap.objs.size 0 .none ∧ h'.IsStrIter s.heap.objs.size (strIterType x) x t 0 ∧ Ext s.heap h') E s)
    (step : ∀ (i : Nat) c t t2 m₁ nx h tk e oe I oI, x.cps[i]? = some c → J m₀ i m₁ nx → Fr h₀ env.locals h (fun y => if y = xc then some (.str ⟨#[c]⟩ t2) else if y = xi then some (.int i t) else m₁ y) → News h₀ env.locals h ((e, oe) :: (I, oI) :: nx) →
      (∀ p ∈ nx, p.1 ≠ e ∧ p.1 ≠ I) → @Ne Nat e I →
      wpAny (model prog w) A (execs body env) (StepMy h₀ env.locals [(e, oe), (I, oI)] (J m₀ (i + 1)) { s with heap := h, toks := tk } Q) E { s with heap := h, toks := tk })
    (done : ∀ m₁ nx h tk, J m₀ x.cps.size m₁ nx → Fr h₀ env.locals h m₁ → News h₀ env.locals h nx → Q .next { s with heap := h, toks := tk })
    (hs : ∀ x, foldedSetIterable iter env x = pure x := by intro _; rfl)
    (hE : PassesOwn (model prog w) A env E := by passes_own) :
    wpAny (model prog w) A (exec (.For (.Tuple [.Name xi pk, .Name xc pv] x1 pt) iter body [] pos) env) Q E s := by
  refine wpAny_For (wpAny_mono h (fun xv s₁ h₁ => ?_) fun _ _ e => e) hs
  obtain ⟨g, tk₀, t, rfl, rfl, he, hit, hx⟩ := h₁
  refine wpAny_pyIter_enum he ?_
  generalize hsz : s.heap.objs.size = it at *
  have hin : s.heap.get? it = none := get_none (Nat.le_of_eq hsz)
  have hen : s.heap.get? (it + 1) = none := get_none (by rw [hsz]; exact Nat.le_succ _)
  have hei : it + 1 ≠ it := Nat.succ_ne_self _
  have base_none : ∀ b, s.heap.get? b = none → h₀.get? b = none := fun b hb => by
    cases q : h₀.get? b with
    | none => rfl
    | some o => have := F.keep b o q; rw [hb] at this; cases this
  have hLlt : @LT.lt Nat _ env.locals it := hsz ▸ F.ns.lt
  have hLi : env.locals ≠ it := Nat.ne_of_lt hLlt
  have hLe : env.locals ≠ it + 1 := Nat.ne_of_lt (Nat.lt_succ_of_lt hLlt)
  have hD : ∃ (St : Nat → Heap → Prop), Draws prog w A.in1 it [it] x.cps.size (fun i v => ∃ c t, x.cps[i]? = some c ∧ v = .str ⟨#[c]⟩ t) St ∧ St 0 g := by
    cases ha : x.cps.all (· < 128) with
    | true =>
      refine ⟨_, Draws.strAscii (by exact hh) it x t, ?_⟩
      simpa [strIterType, ha] using hit
    | false =>
      refine ⟨_, Draws.strWide (by exact hh) it x t, ?_⟩
      simpa [strIterType, ha] using hit
  obtain ⟨St, D, hst0⟩ := hD
  have W := WalksT.enumerateD D (it + 1) hei (by simpa using hei) (List.mem_singleton.mpr rfl)
  have hfp : ∀ b ∈ [it + 1, it], b = it + 1 ∨ b = it := fun b hb => by simpa using hb
  have wr_ne : ∀ b : Nat, b ≠ it + 1 → b ≠ it → b ∉ [it + 1, it] := fun b h1 h2 hb => by simp at hb; omega
  refine codeAny_forLoop_any (R := fun r s' => match r with | .ok f => Q f s' | .error e => cameBackBy (model prog w) A env E e s')
    (fun k s' => ∃ h' tk m' nx i, s' = { s with heap := h', toks := tk } ∧ ((∃ old, IsEnum h' (it + 1) it (i : Nat) old) ∧ St i h') ∧ Fr h₀ env.locals h' m' ∧ News h₀ env.locals h' nx ∧ (∀ p ∈ nx, p.1 ≠ it + 1 ∧ p.1 ≠ it) ∧ J m₀ i m' nx ∧ i ≤ x.cps.size ∧ k = x.cps.size + 1 - i) ?_ (x.cps.size + 1)
    ⟨g, tk₀, m₀, nx₀, 0, rfl, ⟨⟨_, by simpa using he⟩, hst0⟩, hx.fr F, fun p hp => hx.news N p (hsub p hp), fun p hp => ?_, hJ, Nat.zero_le _, rfl⟩
  · rintro k s' ⟨H, tk, m', nx, i, rfl, hst', F', N', hnx, hJ', hi, rfl⟩
    have next : ∀ h₁ : Heap, (∀ b o, b ∉ [it + 1, it] → H.get? b = some o → h₁.get? b = some o) → Fr h₀ env.locals h₁ m' ∧ News h₀ env.locals h₁ nx := fun h₁ hk₁ =>
      ⟨⟨F'.ns.at' fun o e => hk₁ _ o (wr_ne _ hLe hLi) e, fun b o e => hk₁ b o (wr_ne b (fun q => by rw [q, base_none _ hen] at e; cases e) (fun q => by rw [q, base_none _ hin] at e; cases e)) (F'.keep b o e), F'.above⟩,
        fun p hp => ⟨hk₁ _ _ (wr_ne _ (hnx p hp).1 (hnx p hp).2) (N' p hp).1, (N' p hp).2⟩⟩
    by_cases hlt : i < x.cps.size
    · refine W.item i _ _ _ hlt hst' fun T vals h₁ tk₁ hPt _ hT hMid hk₁ => ?_
      obtain ⟨t1, v1, ⟨c, t2, hc, rfl⟩, rfl⟩ := hPt
      refine W.go _ x1 pt i T _ _ _ hMid fun h₂ hst₂ hk₂ => ?_
      have ht₂ : h₂.IsTuple T #[.int i t1, .str ⟨#[c]⟩ t2] := hT.at fun o e => hk₂ T o (W.apart i T h₁ hMid) e
      refine wpAny_assign_Tuple hh ht₂ rfl rfl fun h₃ hx₃ => ?_
      replace hx₃ : Heap.ExtBut h₂.objs.size h₂ h₃ := hx₃
      have up₃ : ∀ b o, h₂.get? b = some o → h₃.get? b = some o := fun b o x => hx₃ b o (Nat.ne_of_lt (Heap.lt_size x)) x
      obtain ⟨F₃, N₃⟩ := next h₃ fun b o hb x => up₃ b o (hk₂ b o hb (hk₁ b o hb x))
      show wpAny _ A (do holding [Value.str ⟨#[c]⟩ t2] (assign (.Name xi pk) env (.int i t1)); do holding [] (assign (.Name xc pv) env (.str ⟨#[c]⟩ t2)); pure ()) _ _ _
      refine wpAny_bind (wpAny_holding (wpAny_assign_Name (wpAny_storeName_local hxi F₃.ns (fun h₄ hn₄ hs₄ => ?_) hp)))
      replace hs₄ : Heap.SameBut env.locals h₃ h₄ := hs₄
      have F₄ := F₃.set hn₄ hs₄
      refine wpAny_bind (wpAny_holding (wpAny_assign_Name (wpAny_storeName_local hxc F₄.ns (fun h₅ hn₅ hs₅ => wpAny_pure ?_) hp)))
      replace hs₅ : Heap.SameBut env.locals h₄ h₅ := hs₅
      have F₅ := F₄.set hn₅ hs₅
      have N₅ : News h₀ env.locals h₅ nx := (N₃.set hs₄).set hs₅
      have hst₅ := W.frame _ _ h₅ hst₂ fun b hb o e => hs₅.extBut b o (fun q => by
        rcases hfp b hb with r | r
        · exact hLe (q ▸ r)
        · exact hLi (q ▸ r)) (hs₄.extBut b o (fun q => by
        rcases hfp b hb with r | r
        · exact hLe (q ▸ r)
        · exact hLi (q ▸ r)) (up₃ b o e))
      obtain ⟨⟨old, hold'⟩, hSt5⟩ := id hst₅
      obtain ⟨oe, hold⟩ : ∃ oe, h₅.get? (it + 1) = some oe := ⟨_, hold'⟩
      obtain ⟨oI, hoI⟩ := D.live _ _ hSt5
      refine wpAny_passesOwn hE (wpAny_mono (step i c t1 t2 m' nx h₅ _ (it + 1) oe it oI hc hJ' F₅ (fun p hp => ?_) hnx (Nat.succ_ne_self _)) (fun f s₃ h₆ => ?_) fun _ _ e => e)
      · rcases List.mem_cons.mp hp with rfl | hp
        · exact ⟨hold, fun q => hLe q.symm, base_none _ hen⟩
        · rcases List.mem_cons.mp hp with rfl | hp
          · exact ⟨hoI, fun q => hLi q.symm, base_none _ hin⟩
          · exact N₅ p hp
      · have fin : ∀ h₆ tk₆ m₂ nx₂, Fr h₀ env.locals h₆ m₂ → News h₀ env.locals h₆ ([(it + 1, oe), (it, oI)] ++ nx₂) → (∀ p ∈ nx₂, ∀ q ∈ [(it + 1, oe), (it, oI)], p.1 ≠ q.1) → J m₀ (i + 1) m₂ nx₂ →
            ∃ k', k' < x.cps.size + 1 - i ∧ ∃ h' tk m' nx i', ({ s with heap := h₆, toks := tk₆ } : Shared) = { s with heap := h', toks := tk } ∧ ((∃ old, IsEnum h' (it + 1) it (i' : Nat) old) ∧ St i' h') ∧ Fr h₀ env.locals h' m' ∧ News h₀ env.locals h' nx ∧ (∀ p ∈ nx, p.1 ≠ it + 1 ∧ p.1 ≠ it) ∧ J m₀ i' m' nx ∧ i' ≤ x.cps.size ∧ k' = x.cps.size + 1 - i' := by
          intro h₆ tk₆ m₂ nx₂ F₆ N₆ hne₆ hJ₆
          refine ⟨x.cps.size + 1 - (i + 1), by omega, h₆, tk₆, m₂, nx₂, i + 1, rfl, ?_, F₆, fun p hp => N₆ p (List.mem_append_right _ hp), fun p hp => ⟨hne₆ p hp _ (.head _), hne₆ p hp _ (.tail _ (.head _))⟩, hJ₆, hlt, rfl⟩
          refine W.frame _ _ _ hst₅ fun b hb o e => ?_
          rcases hfp b hb with rfl | rfl
          · have q := (N₆ _ (.head _)).1
            rw [hold] at e
            exact q.trans e
          · have q := (N₆ _ (.tail _ (.head _))).1
            rw [hoI] at e
            exact q.trans e
        cases f with
        | ret v => exact h₆
        | brk => exact h₆
        | next =>
          obtain ⟨h₆', tk₆, m₂, nx₂, rfl, F₆, N₆, ha₆, hJ₆⟩ := h₆
          exact fin h₆' tk₆ m₂ nx₂ F₆ N₆ ha₆ hJ₆
        | cont =>
          obtain ⟨h₆', tk₆, m₂, nx₂, rfl, F₆, N₆, ha₆, hJ₆⟩ := h₆
          exact fin h₆' tk₆ m₂ nx₂ F₆ N₆ ha₆ hJ₆
    · have hin : i = x.cps.size := by omega
      subst hin
      refine W.done _ _ _ hst' fun h₁ tk₁ hk₁ => wpAny_execs_nil ?_
      obtain ⟨F₁, N₁⟩ := next h₁ hk₁
      exact done m' nx h₁ tk₁ hJ' F₁ N₁
  · have hlt : @LT.lt Nat _ p.1 it := hsz ▸ Heap.lt_size (N p (hsub p hp)).1
    exact ⟨Nat.ne_of_lt (Nat.lt_succ_of_lt hlt), Nat.ne_of_lt hlt⟩
end
noncomputable def Jnat (n k : Nat) (m₀ : Str → Option Value) (i : Nat) (m : Str → Option Value) (nx : List (Addr × Obj)) : Prop :=
  ∃ (l : Addr) (x : Nat) (pre : List Int) (ws : List Value) (e : Nat) (t : Tok), m₀ (Str.ofString "found") = some (.ref l) ∧ i = x ∧ x ≤ n ∧ pre ++ limbs k x = limbs k n ∧ IntsAre ws pre ∧ nx = [(l, W.listOf (List.toArray ws) e)] ∧ m = fun y => if y = Str.ofString "number" then some (.int x t) else m₀ y
section SN1
example : True := by
  k_with_none
  k_with "my enter" => (refine' enterP ?k1_8126 ?k2_8126 ?k3_8126 ?k5_8126 ?kA_8126 ?kF_8126 ?kK_8126 ?k6_8126 ?k7_8126 ?k8_8126 ?kZ_8126 ?k9_8126 ?kB_8126 ?_ ?c2_8126 ?c3_8126 ?c4_8126 ?c5_8126; (case kA_8126 => exact rfl); (case kF_8126 => exact rfl); (case kK_8126 => assumption); (case k1_8126 => k_asm); (case k2_8126 => k_asm); (case k3_8126 => k_asm); (case k5_8126 => k_asm); (case k6_8126 => k_is); (case k7_8126 => k_is); (case k8_8126 => ktr_room); (case kZ_8126 => simp only [List.map_cons, List.map_nil, List.zip_cons_cons, List.zip_nil_left, List.zip_nil_right, List.reverse_cons, List.reverse_nil, List.nil_append, List.cons_append]; exact rfl); (case k9_8126 => exact BindsTo.of_eq rfl); (case c5_8126 => decide); (case kB_8126 => exact locs rfl); (case c2_8126 => exact rfl); (case c3_8126 => exact rfl); (case c4_8126 => exact rfl); k_whole; intro L' h' tk' F' N' B' X' T'; (try dsimp only); (try k_lift B'); (try k_fold))
  k_with "my enterC" => (refine' enterPC ?k1_8392 ?k2_8392 ?k3_8392 ?k5_8392 ?kA_8392 ?kF_8392 ?kK_8392 ?k6_8392 ?k7_8392 ?k8_8392 ?k9_8392 ?kB_8392 ?kD_8392 ?_ ?c2_8392 ?c3_8392 ?c4_8392; (case kA_8392 => exact rfl); (case kF_8392 => exact rfl); (case kK_8392 => assumption); (case k1_8392 => k_asm); (case k2_8392 => k_asm); (case k3_8392 => k_asm); (case k5_8392 => k_asm); (case k6_8392 => k_is); (case k7_8392 => k_is); (case k8_8392 => ktr_room); (case k9_8392 => exact BindsTo.of_eq rfl); (case kB_8392 => exact rfl); (case kD_8392 => decide +kernel); (case c2_8392 => exact rfl); (case c3_8392 => exact rfl); (case c4_8392 => exact rfl); k_whole; intro L' h' tk' cells' F' N' Y' B' X' T'; k_cells Y'; (try simp only [List.cons_append, List.nil_append] at N'); (try dsimp only); (try k_lift B'); (try k_fold))
  k_with "my keeps" => (first
  | exact True.intro
  | exact fun _ => True.intro
  | exact And.intro (fun o => mapFields_kd _ o) True.intro
  | exact And.intro (fun _ => And.intro rfl rfl) True.intro
  | assumption
  | (refine Keeps.bind ?_ fun _ => ?_ <;> walk_at "my keeps")
  | (split <;> walk_at "my keeps"))
  k_with "exec While Compare cons nil" => (refine Hold.out ?_)
  trivial
set_option maxHeartbeats 4000000 in
theorem c_nat_of (w : World) (h : Heap) (n k : Nat) (t u : Tok) (hb : n < 2 ^ 64) (hk : 2 ≤ k ∧ k ≤ 9) : PureCall w 86 2 [.int n t, .int k u] h (NewInts h (limbs k n)) := by
  unfold PureCall
  intro prog mean mg mb dp un gd cn cs a ccd cl outer A₀ base h₀ L m s Q E hs B F X T hkd hd hu hret
  subst hs
  k_dflt (walk_at "my enter")
  k_steps
  refine While_my (Jnat n k) (by assumption) (by assumption) n [(_, W.listOf #[] 0)] ?_ ⟨_, n, [], [], 0, t, rfl, rfl, Nat.le_refl _, rfl, .nil, rfl, upd_same rfl⟩ ?_
  · intro p hp
    rw [List.mem_singleton.mp hp]
    k_mem
  rintro k1 m1 nx1 h1 tk1 F2 N2 ⟨l, x, pre, ws, e, t', hl, rfl, hxn, hpre, hI, rfl, rfl⟩
  have hl' : some (Value.ref _) = some (Value.ref l) := hl
  injection hl' with hl'
  injection hl' with hl'
  subst hl'
  have hlen := limbs_len hb (w := k)
  rw [← hpre, List.length_append] at hlen
  have hws := hI.length
  k_steps
  · rename Fr _ _ _ _ => F9
    rename News _ _ _ _ => N9
    rw [List.push_toArray] at N9
    have hp : 0 < k1 := by omega
    have hlt : k1 / 2 ^ k < k1 := Nat.div_lt_self hp (Nat.one_lt_two_pow (by omega))
    refine WhileStep2.go F9 N9 hlt (fun p h => h) ⟨_, k1 / 2 ^ k, pre ++ [_], _, _, _, hl, rfl, by omega, ?_, ints_snoc hI (bitAnd_mask _ _), rfl, upd_upd (congrArg (fun z => some (Value.int z _)) (fdiv_shift k1 k))⟩
    rw [← hpre, limbs_pos hp (by omega : 0 < k), List.append_assoc]
    rfl
  · refine hret _ _ _ F2.keep ⟨_, ws, e, rfl, (N2 _ (.head _)).2.2, (N2 _ (.head _)).1, ?_⟩
    have e0 : k1 = 0 := by omega
    subst e0
    rw [limbs_zero, List.append_nil] at hpre
    exact hpre ▸ hI
example : True := by
  k_with_none
  k_with "my enter" => (refine' enterP ?k1_8126 ?k2_8126 ?k3_8126 ?k5_8126 ?kA_8126 ?kF_8126 ?kK_8126 ?k6_8126 ?k7_8126 ?k8_8126 ?kZ_8126 ?k9_8126 ?kB_8126 ?_ ?c2_8126 ?c3_8126 ?c4_8126 ?c5_8126; (case kA_8126 => exact rfl); (case kF_8126 => exact rfl); (case kK_8126 => assumption); (case k1_8126 => k_asm); (case k2_8126 => k_asm); (case k3_8126 => k_asm); (case k5_8126 => k_asm); (case k6_8126 => k_is); (case k7_8126 => k_is); (case k8_8126 => ktr_room); (case kZ_8126 => simp only [List.map_cons, List.map_nil, List.zip_cons_cons, List.zip_nil_left, List.zip_nil_right, List.reverse_cons, List.reverse_nil, List.nil_append, List.cons_append]; exact rfl); (case k9_8126 => exact BindsTo.of_eq rfl); (case c5_8126 => decide); (case kB_8126 => exact locs rfl); (case c2_8126 => exact rfl); (case c3_8126 => exact rfl); (case c4_8126 => exact rfl); k_whole; intro L' h' tk' F' N' B' X' T'; (try dsimp only); (try k_lift B'); (try k_fold))
  k_with "my enterC" => (refine' enterPC ?k1_8392 ?k2_8392 ?k3_8392 ?k5_8392 ?kA_8392 ?kF_8392 ?kK_8392 ?k6_8392 ?k7_8392 ?k8_8392 ?k9_8392 ?kB_8392 ?kD_8392 ?_ ?c2_8392 ?c3_8392 ?c4_8392; (case kA_8392 => exact rfl); (case kF_8392 => exact rfl); (case kK_8392 => assumption); (case k1_8392 => k_asm); (case k2_8392 => k_asm); (case k3_8392 => k_asm); (case k5_8392 => k_asm); (case k6_8392 => k_is); (case k7_8392 => k_is); (case k8_8392 => ktr_room); (case k9_8392 => exact BindsTo.of_eq rfl); (case kB_8392 => exact rfl); (case kD_8392 => decide +kernel); (case c2_8392 => exact rfl); (case c3_8392 => exact rfl); (case c4_8392 => exact rfl); k_whole; intro L' h' tk' cells' F' N' Y' B' X' T'; k_cells Y'; (try simp only [List.cons_append, List.nil_append] at N'); (try dsimp only); (try k_lift B'); (try k_fold))
  k_with "my keeps" => (first
  | exact True.intro
  | exact fun _ => True.intro
  | exact And.intro (fun o => mapFields_kd _ o) True.intro
  | exact And.intro (fun _ => And.intro rfl rfl) True.intro
  | assumption
  | (refine Keeps.bind ?_ fun _ => ?_ <;> walk_at "my keeps")
  | (split <;> walk_at "my keeps"))
  trivial
end SN1
noncomputable def Jlim (n k : Nat) (m₀ : Str → Option Value) (i : Nat) (m : Str → Option Value) (nx : List (Addr × Obj)) : Prop :=
  ∃ (l : Addr) (x : Nat) (pre : List Int) (ws : List Value) (e : Nat) (t : Tok), m₀ (Str.ofString "found") = some (.ref l) ∧ i = x ∧ x ≤ n ∧ pre ++ limbs k x = limbs k n ∧ IntsAre ws pre ∧ nx = [(l, W.listOf (List.toArray ws) e)] ∧ m = fun y => if y = Str.ofString "number" then some (.int x t) else m₀ y
section SN2
example : True := by
  k_with_none
  k_with "my enter" => (refine' enterP ?k1_8126 ?k2_8126 ?k3_8126 ?k5_8126 ?kA_8126 ?kF_8126 ?kK_8126 ?k6_8126 ?k7_8126 ?k8_8126 ?kZ_8126 ?k9_8126 ?kB_8126 ?_ ?c2_8126 ?c3_8126 ?c4_8126 ?c5_8126; (case kA_8126 => exact rfl); (case kF_8126 => exact rfl); (case kK_8126 => assumption); (case k1_8126 => k_asm); (case k2_8126 => k_asm); (case k3_8126 => k_asm); (case k5_8126 => k_asm); (case k6_8126 => k_is); (case k7_8126 => k_is); (case k8_8126 => ktr_room); (case kZ_8126 => simp only [List.map_cons, List.map_nil, List.zip_cons_cons, List.zip_nil_left, List.zip_nil_right, List.reverse_cons, List.reverse_nil, List.nil_append, List.cons_append]; exact rfl); (case k9_8126 => exact BindsTo.of_eq rfl); (case c5_8126 => decide); (case kB_8126 => exact locs rfl); (case c2_8126 => exact rfl); (case c3_8126 => exact rfl); (case c4_8126 => exact rfl); k_whole; intro L' h' tk' F' N' B' X' T'; (try dsimp only); (try k_lift B'); (try k_fold))
  k_with "my enterC" => (refine' enterPC ?k1_8392 ?k2_8392 ?k3_8392 ?k5_8392 ?kA_8392 ?kF_8392 ?kK_8392 ?k6_8392 ?k7_8392 ?k8_8392 ?k9_8392 ?kB_8392 ?kD_8392 ?_ ?c2_8392 ?c3_8392 ?c4_8392; (case kA_8392 => exact rfl); (case kF_8392 => exact rfl); (case kK_8392 => assumption); (case k1_8392 => k_asm); (case k2_8392 => k_asm); (case k3_8392 => k_asm); (case k5_8392 => k_asm); (case k6_8392 => k_is); (case k7_8392 => k_is); (case k8_8392 => ktr_room); (case k9_8392 => exact BindsTo.of_eq rfl); (case kB_8392 => exact rfl); (case kD_8392 => decide +kernel); (case c2_8392 => exact rfl); (case c3_8392 => exact rfl); (case c4_8392 => exact rfl); k_whole; intro L' h' tk' cells' F' N' Y' B' X' T'; k_cells Y'; (try simp only [List.cons_append, List.nil_append] at N'); (try dsimp only); (try k_lift B'); (try k_fold))
  k_with "my keeps" => (first
  | exact True.intro
  | exact fun _ => True.intro
  | exact And.intro (fun o => mapFields_kd _ o) True.intro
  | exact And.intro (fun _ => And.intro rfl rfl) True.intro
  | assumption
  | (refine Keeps.bind ?_ fun _ => ?_ <;> walk_at "my keeps")
  | (split <;> walk_at "my keeps"))
  k_with "exec While Compare cons nil" => (refine Hold.out ?_)
  k_with "eval ListComp" => (refine Hold.out ?_)
  k_with "call type:enumerate" => (refine Hold.out ?_)
  trivial
set_option maxHeartbeats 4000000 in
theorem c_limbs (w : World) (h : Heap) (n k : Nat) (t u : Tok) (hb : n < 2 ^ 64) (hk : 2 ≤ k ∧ k ≤ 9) : PureCall w 163 2 [.int n t, .int k u] h (NewInts h (limbs k n)) := by
  unfold PureCall
  intro prog mean mg mb dp un gd cn cs a ccd cl outer A₀ base h₀ L m s Q E hs B F X T hkd hd hu hret
  subst hs
  k_dflt (walk_at "my enter")
  k_steps
  refine While_my (Jlim n k) (by assumption) (by assumption) n [(_, W.listOf #[] 0)] ?_ ⟨_, n, [], [], 0, t, rfl, rfl, Nat.le_refl _, rfl, .nil, rfl, upd_same rfl⟩ ?_
  · intro p hp
    rw [List.mem_singleton.mp hp]
    k_mem
  rintro k1 m1 nx1 h1 tk1 F2 N2 ⟨l, x, pre, ws, e, t', hl, rfl, hxn, hpre, hI, rfl, rfl⟩
  have hl' : some (Value.ref _) = some (Value.ref l) := hl
  injection hl' with hl'
  injection hl' with hl'
  subst hl'
  have hlen := limbs_len hb (w := k)
  rw [← hpre, List.length_append] at hlen
  have hws := hI.length
  k_steps
  · rename Fr _ _ _ _ => F9
    rename News _ _ _ _ => N9
    rw [List.push_toArray] at N9
    have hp : 0 < k1 := by omega
    have hlt : k1 / 2 ^ k < k1 := Nat.div_lt_self hp (Nat.one_lt_two_pow (by omega))
    refine WhileStep2.go F9 N9 hlt (fun p h => h) ⟨_, k1 / 2 ^ k, pre ++ [_], _, _, _, hl, rfl, by omega, ?_, ints_snoc hI (fmod_shift _ _), rfl, upd_upd (congrArg (fun z => some (Value.int z _)) (fdiv_shift k1 k))⟩
    rw [← hpre, limbs_pos hp (by omega : 0 < k), List.append_assoc]
    rfl
  · refine hret _ _ _ F2.keep ⟨_, ws, e, rfl, (N2 _ (.head _)).2.2, (N2 _ (.head _)).1, ?_⟩
    have e0 : k1 = 0 := by omega
    subst e0
    rw [limbs_zero, List.append_nil] at hpre
    exact hpre ▸ hI
set_option maxHeartbeats 4000000 in
theorem c_whole (w : World) (h : Heap) (n k : Nat) (a1 : Addr) (ws : List Value) (e : Nat) (u : Tok) (ha : h.get? a1 = some (W.listOf ws.toArray e)) (hI : IntsAre ws (limbs k n)) (hb : n < 2 ^ 64) (hk : 2 ≤ k ∧ k ≤ 9) : PureCall w 168 2 [.ref a1, .int k u] h (fun v _ => ∃ t, v = .int n t) := by
  unfold PureCall
  intro prog mean mg mb dp un gd cn cs a ccd cl outer A₀ base h₀ L m s Q E hs B F X T hkd hd hu hret
  subst hs
  have hL : s.heap.IsList a1 ws.toArray := ⟨_, ha, rfl, _, rfl⟩
  have hlen := limbs_len hb (w := k)
  have hws := hI.length
  clear hb
  k_dflt (walk_at "my enterC")
  k_steps
  refine Hold.intro ?_
  rename Fr _ _ _ _ => F1
  rename News _ _ _ _ => N1
  rename Obj.data _ = _ => hcell
  have hL1 := hL.at fun o e => F1.keep _ _ e
  refine comp_enum (l := a1) (vs := ws) (ns := limbs k n) (fun i x => x * 2 ^ (k * i)) rfl hL1 hI (by size_fits) (by with_unfolding_all rfl) (by decide) rfl (by decide) rfl rfl (by decide) ?_ ?_ ?_
  · k_steps
    refine Hold.intro (call_enumerate_list hL1 fun h9 he hi9 hz hk => ⟨h9, _, _, _, rfl, rfl, he, hi9, Nat.succ_ne_self _, get_none (Nat.le_succ _), get_none (Nat.le_refl _), hk⟩)
  · intro i x t1 t2 C s2 m2 E' hx hn h1 h2 hext
    have hc2 := (N1 _ (.head _)).1
    have hc3 := hext _ _ hc2
    have hxm := limbs_mem (List.mem_of_getElem? hx)
    have hil : i < (limbs k n).length := (List.getElem?_eq_some_iff.mp hx).1
    have hk9 : (2 : Int) ^ k ≤ 2 ^ 9 := by exact_mod_cast Nat.pow_le_pow_right (by omega : 0 < 2) hk.2
    have hki : k * i ≤ 9 * 64 := Nat.mul_le_mul hk.2 (by omega)
    have hki' : ((k : Int) * (i : Int)).toNat = k * i := by rw [← Int.natCast_mul, Int.toNat_natCast]
    have hki2 : (k : Int) * (i : Int) ≤ 1000000 := by rw [← Int.natCast_mul]; omega
    refine wpAny_BinOp (wpAny_Name (wpAny_loadName_local rfl rfl hn h2 ?_) (by decide))
    refine wpAny_BinOp (wpAny_Constant_int ?_)
    refine wpAny_BinOp (wpAny_Name (wpAny_loadName_cell rfl rfl rfl ⟨_, hc3, hcell⟩ ?_) (by decide))
    refine wpAny_Name (wpAny_loadName_local rfl rfl hn h1 ?_) (by decide)
    refine mul_int ?_ (.of_left (intBits_le_64 (by omega) (by omega)))
    refine pow_int_small (Int.mul_nonneg (by omega) (by omega)) hki2 (by decide) ?_
    refine mul_int ?_ (.of_left (intBits_le_64 (by omega) (by omega)))
    rw [hki']
    exact ⟨⟨_, rfl⟩, _, rfl⟩
  · intro D h9 tk9 ys hx hD hl hi
    have F9 := hx.fr F1
    have N9 := Ext.cons F1 (hx.news N1) hD hl
    clear F1 N1
    k_steps
    rename Fr _ _ _ _ => F8
    have e1 := limbs_whole (w := k) (by omega) n 0
    simp only [Nat.add_zero, Nat.mul_zero, Int.pow_zero, Int.mul_one] at e1
    exact hret _ _ _ F8.keep ⟨_, congrArg (fun z => Value.int z _) e1⟩
example : True := by
  k_with_none
  k_with "my enter" => (refine' enterP ?k1_8126 ?k2_8126 ?k3_8126 ?k5_8126 ?kA_8126 ?kF_8126 ?kK_8126 ?k6_8126 ?k7_8126 ?k8_8126 ?kZ_8126 ?k9_8126 ?kB_8126 ?_ ?c2_8126 ?c3_8126 ?c4_8126 ?c5_8126; (case kA_8126 => exact rfl); (case kF_8126 => exact rfl); (case kK_8126 => assumption); (case k1_8126 => k_asm); (case k2_8126 => k_asm); (case k3_8126 => k_asm); (case k5_8126 => k_asm); (case k6_8126 => k_is); (case k7_8126 => k_is); (case k8_8126 => ktr_room); (case kZ_8126 => simp only [List.map_cons, List.map_nil, List.zip_cons_cons, List.zip_nil_left, List.zip_nil_right, List.reverse_cons, List.reverse_nil, List.nil_append, List.cons_append]; exact rfl); (case k9_8126 => exact BindsTo.of_eq rfl); (case c5_8126 => decide); (case kB_8126 => exact locs rfl); (case c2_8126 => exact rfl); (case c3_8126 => exact rfl); (case c4_8126 => exact rfl); k_whole; intro L' h' tk' F' N' B' X' T'; (try dsimp only); (try k_lift B'); (try k_fold))
  k_with "my enterC" => (refine' enterPC ?k1_8392 ?k2_8392 ?k3_8392 ?k5_8392 ?kA_8392 ?kF_8392 ?kK_8392 ?k6_8392 ?k7_8392 ?k8_8392 ?k9_8392 ?kB_8392 ?kD_8392 ?_ ?c2_8392 ?c3_8392 ?c4_8392; (case kA_8392 => exact rfl); (case kF_8392 => exact rfl); (case kK_8392 => assumption); (case k1_8392 => k_asm); (case k2_8392 => k_asm); (case k3_8392 => k_asm); (case k5_8392 => k_asm); (case k6_8392 => k_is); (case k7_8392 => k_is); (case k8_8392 => ktr_room); (case k9_8392 => exact BindsTo.of_eq rfl); (case kB_8392 => exact rfl); (case kD_8392 => decide +kernel); (case c2_8392 => exact rfl); (case c3_8392 => exact rfl); (case c4_8392 => exact rfl); k_whole; intro L' h' tk' cells' F' N' Y' B' X' T'; k_cells Y'; (try simp only [List.cons_append, List.nil_append] at N'); (try dsimp only); (try k_lift B'); (try k_fold))
  k_with "my keeps" => (first
  | exact True.intro
  | exact fun _ => True.intro
  | exact And.intro (fun o => mapFields_kd _ o) True.intro
  | exact And.intro (fun _ => And.intro rfl rfl) True.intro
  | assumption
  | (refine Keeps.bind ?_ fun _ => ?_ <;> walk_at "my keeps")
  | (split <;> walk_at "my keeps"))
  trivial
end SN2
example : True := by
  k_with "my get" => (first | exact News.get (by k_asm) (by assumption) | exact News.get (by k_asm) (by k_mem) | exact Fr.keep (by k_asm) _ _ (by assumption))
  trivial
example : True := by
  k_with "om" => (first | assumption | omega)
  trivial
example : True := by
  k_with "int" => (intro t' h' tk' F' N'; (try k_sweep); (try dsimp only))
  trivial
example : True := by
  k_with "call ref" => (with_reducible refine atc 168 ?_; k_dflt (refine PureCall.int (C := c_whole _ _ _ _ _ _ _ _ (by walk_at "my get") (by assumption) (by walk_at "om") (by walk_at "om")) (h := ?_); walk_at "int"))
  trivial
example : True := by
  k_with "ints" => (intro l' ws' e' h' tk' I' F' N' l1; (try simp only [AllNe, and_true] at l1); (try k_sweep); (try dsimp only))
  trivial
example : True := by
  k_with "call ref" => (with_reducible refine atc 163 ?_; k_dflt (refine PureCall.ints (C := c_limbs _ _ _ _ _ _ (by walk_at "om") (by walk_at "om")) (h := ?_); walk_at "ints"))
  trivial
section SN3
example : True := by
  k_with_none
  k_with "my enter" => (refine' enterP ?k1_8126 ?k2_8126 ?k3_8126 ?k5_8126 ?kA_8126 ?kF_8126 ?kK_8126 ?k6_8126 ?k7_8126 ?k8_8126 ?kZ_8126 ?k9_8126 ?kB_8126 ?_ ?c2_8126 ?c3_8126 ?c4_8126 ?c5_8126; (case kA_8126 => exact rfl); (case kF_8126 => exact rfl); (case kK_8126 => assumption); (case k1_8126 => k_asm); (case k2_8126 => k_asm); (case k3_8126 => k_asm); (case k5_8126 => k_asm); (case k6_8126 => k_is); (case k7_8126 => k_is); (case k8_8126 => ktr_room); (case kZ_8126 => simp only [List.map_cons, List.map_nil, List.zip_cons_cons, List.zip_nil_left, List.zip_nil_right, List.reverse_cons, List.reverse_nil, List.nil_append, List.cons_append]; exact rfl); (case k9_8126 => exact BindsTo.of_eq rfl); (case c5_8126 => decide); (case kB_8126 => exact locs rfl); (case c2_8126 => exact rfl); (case c3_8126 => exact rfl); (case c4_8126 => exact rfl); k_whole; intro L' h' tk' F' N' B' X' T'; (try dsimp only); (try k_lift B'); (try k_fold))
  k_with "my enterC" => (refine' enterPC ?k1_8392 ?k2_8392 ?k3_8392 ?k5_8392 ?kA_8392 ?kF_8392 ?kK_8392 ?k6_8392 ?k7_8392 ?k8_8392 ?k9_8392 ?kB_8392 ?kD_8392 ?_ ?c2_8392 ?c3_8392 ?c4_8392; (case kA_8392 => exact rfl); (case kF_8392 => exact rfl); (case kK_8392 => assumption); (case k1_8392 => k_asm); (case k2_8392 => k_asm); (case k3_8392 => k_asm); (case k5_8392 => k_asm); (case k6_8392 => k_is); (case k7_8392 => k_is); (case k8_8392 => ktr_room); (case k9_8392 => exact BindsTo.of_eq rfl); (case kB_8392 => exact rfl); (case kD_8392 => decide +kernel); (case c2_8392 => exact rfl); (case c3_8392 => exact rfl); (case c4_8392 => exact rfl); k_whole; intro L' h' tk' cells' F' N' Y' B' X' T'; k_cells Y'; (try simp only [List.cons_append, List.nil_append] at N'); (try dsimp only); (try k_lift B'); (try k_fold))
  k_with "my keeps" => (first
  | exact True.intro
  | exact fun _ => True.intro
  | exact And.intro (fun o => mapFields_kd _ o) True.intro
  | exact And.intro (fun _ => And.intro rfl rfl) True.intro
  | assumption
  | (refine Keeps.bind ?_ fun _ => ?_ <;> walk_at "my keeps")
  | (split <;> walk_at "my keeps"))
  k_with "my get" => (first | exact News.get (by k_asm) (by assumption) | exact News.get (by k_asm) (by k_mem) | exact Fr.keep (by k_asm) _ _ (by assumption))
  k_with "om" => (first | assumption | omega)
  k_with "int" => (intro t' h' tk' F' N'; (try k_sweep); (try dsimp only))
  k_with "call ref" => (with_reducible refine atc 168 ?_; k_dflt (refine PureCall.int (C := c_whole _ _ _ _ _ _ _ _ (by walk_at "my get") (by assumption) (by walk_at "om") (by walk_at "om")) (h := ?_); walk_at "int"))
  k_with "ints" => (intro l' ws' e' h' tk' I' F' N' l1; (try simp only [AllNe, and_true] at l1); (try k_sweep); (try dsimp only))
  k_with "call ref" => (with_reducible refine atc 163 ?_; k_dflt (refine PureCall.ints (C := c_limbs _ _ _ _ _ _ (by walk_at "om") (by walk_at "om")) (h := ?_); walk_at "ints"))
  k_with "exec While Compare cons nil" => (refine Hold.out ?_)
  k_with "call builtin:divmod" => (k_dflt (refine' divmod_my ?F_1381 ?N_1381 ?b_1381 ?l_1381 ?_; (case F_1381 => k_asm); (case N_1381 => k_asm); (case b_1381 => assumption); (case l_1381 => assumption)); intro D' h' tk' F' N' l1; (try simp only [AllNe, and_true] at l1); (try k_sweep))
  trivial
set_option maxHeartbeats 4000000 in
theorem c_mul (w : World) (h : Heap) (x y k : Nat) (p q : Addr) (ws us : List Value) (e e2 : Nat) (u : Tok) (ha : h.get? p = some (W.listOf ws.toArray e)) (hI : IntsAre ws (limbs k x)) (hb : h.get? q = some (W.listOf us.toArray e2)) (hJ : IntsAre us (limbs k y))
    (hx : x < 2 ^ 64) (hy : y < 2 ^ 64) (hxy : x * y < 2 ^ 64) (hk : 2 ≤ k ∧ k ≤ 9) : PureCall w 175 4 [.ref p, .ref q, .int k u] h (NewInts h (limbs k (x * y))) := by
  unfold PureCall
  intro prog mean mg mb dp un gd cn cs a ccd cl outer A₀ base h₀ L m s Q E hs B F X T hkd hd hu hret
  subst hs
  k_dflt (walk_at "my enter")
  k_steps
  rename Fr _ _ _ _ => F9
  rename News _ _ _ _ => N9
  exact hret _ _ _ F9.keep ⟨_, _, _, rfl, (N9 _ (by k_mem)).2.2, (N9 _ (by k_mem)).1, (by assumption)⟩
noncomputable def NewPair (h : Heap) (ns ms : List Int) (v : Value) (h' : Heap) : Prop :=
  ∃ t l l2 ws e us e2, v = .ref t ∧ h.get? t = none ∧ h.get? l = none ∧ h.get? l2 = none ∧ h'.get? t = some { cls := .type "tuple", data := .seq #[.ref l, .ref l2] } ∧
    h'.get? l = some (W.listOf (List.toArray ws) e) ∧ h'.get? l2 = some (W.listOf (List.toArray us) e2) ∧ IntsAre ws ns ∧ IntsAre us ms
set_option maxHeartbeats 4000000 in
theorem c_divrem (w : World) (h : Heap) (x y k : Nat) (p q : Addr) (ws us : List Value) (e e2 : Nat) (u : Tok) (ha : h.get? p = some (W.listOf ws.toArray e)) (hI : IntsAre ws (limbs k x)) (hb : h.get? q = some (W.listOf us.toArray e2)) (hJ : IntsAre us (limbs k y))
    (hx : x < 2 ^ 64) (hy : y < 2 ^ 64) (hy0 : 0 < y) (hk : 2 ≤ k ∧ k ≤ 9) : PureCall w 182 4 [.ref p, .ref q, .int k u] h (NewPair h (limbs k (x / y)) (limbs k (x % y))) := by
  unfold PureCall
  intro prog mean mg mb dp un gd cn cs a ccd cl outer A₀ base h₀ L m s Q E hs B F X T hkd hd hu hret
  subst hs
  have hq : x / y < 2 ^ 64 := Nat.lt_of_le_of_lt (Nat.div_le_self _ _) hx
  have hr : x % y < 2 ^ 64 := Nat.lt_of_le_of_lt (Nat.mod_le _ _) hx
  k_dflt (walk_at "my enter")
  k_steps
  rename Fr _ _ _ _ => F9
  rename News _ _ _ _ => N9
  exact hret _ _ _ F9.keep ⟨_, _, _, _, _, _, _, rfl, (N9 _ (List.Mem.head _)).2.2, (N9 _ (.tail _ (.tail _ (.head _)))).2.2, (N9 _ (.tail _ (.head _))).2.2, (N9 _ (List.Mem.head _)).1, (N9 _ (.tail _ (.tail _ (.head _)))).1, (N9 _ (.tail _ (.head _))).1, by assumption, by assumption⟩
example : True := by
  k_with_none
  k_with "my enter" => (refine' enterP ?k1_8126 ?k2_8126 ?k3_8126 ?k5_8126 ?kA_8126 ?kF_8126 ?kK_8126 ?k6_8126 ?k7_8126 ?k8_8126 ?kZ_8126 ?k9_8126 ?kB_8126 ?_ ?c2_8126 ?c3_8126 ?c4_8126 ?c5_8126; (case kA_8126 => exact rfl); (case kF_8126 => exact rfl); (case kK_8126 => assumption); (case k1_8126 => k_asm); (case k2_8126 => k_asm); (case k3_8126 => k_asm); (case k5_8126 => k_asm); (case k6_8126 => k_is); (case k7_8126 => k_is); (case k8_8126 => ktr_room); (case kZ_8126 => simp only [List.map_cons, List.map_nil, List.zip_cons_cons, List.zip_nil_left, List.zip_nil_right, List.reverse_cons, List.reverse_nil, List.nil_append, List.cons_append]; exact rfl); (case k9_8126 => exact BindsTo.of_eq rfl); (case c5_8126 => decide); (case kB_8126 => exact locs rfl); (case c2_8126 => exact rfl); (case c3_8126 => exact rfl); (case c4_8126 => exact rfl); k_whole; intro L' h' tk' F' N' B' X' T'; (try dsimp only); (try k_lift B'); (try k_fold))
  k_with "my enterC" => (refine' enterPC ?k1_8392 ?k2_8392 ?k3_8392 ?k5_8392 ?kA_8392 ?kF_8392 ?kK_8392 ?k6_8392 ?k7_8392 ?k8_8392 ?k9_8392 ?kB_8392 ?kD_8392 ?_ ?c2_8392 ?c3_8392 ?c4_8392; (case kA_8392 => exact rfl); (case kF_8392 => exact rfl); (case kK_8392 => assumption); (case k1_8392 => k_asm); (case k2_8392 => k_asm); (case k3_8392 => k_asm); (case k5_8392 => k_asm); (case k6_8392 => k_is); (case k7_8392 => k_is); (case k8_8392 => ktr_room); (case k9_8392 => exact BindsTo.of_eq rfl); (case kB_8392 => exact rfl); (case kD_8392 => decide +kernel); (case c2_8392 => exact rfl); (case c3_8392 => exact rfl); (case c4_8392 => exact rfl); k_whole; intro L' h' tk' cells' F' N' Y' B' X' T'; k_cells Y'; (try simp only [List.cons_append, List.nil_append] at N'); (try dsimp only); (try k_lift B'); (try k_fold))
  k_with "my keeps" => (first
  | exact True.intro
  | exact fun _ => True.intro
  | exact And.intro (fun o => mapFields_kd _ o) True.intro
  | exact And.intro (fun _ => And.intro rfl rfl) True.intro
  | assumption
  | (refine Keeps.bind ?_ fun _ => ?_ <;> walk_at "my keeps")
  | (split <;> walk_at "my keeps"))
  k_with "my get" => (first | exact News.get (by k_asm) (by assumption) | exact News.get (by k_asm) (by k_mem) | exact Fr.keep (by k_asm) _ _ (by assumption))
  k_with "om" => (first | assumption | omega)
  k_with "int" => (intro t' h' tk' F' N'; (try k_sweep); (try dsimp only))
  k_with "call ref" => (with_reducible refine atc 168 ?_; k_dflt (refine PureCall.int (C := c_whole _ _ _ _ _ _ _ _ (by walk_at "my get") (by assumption) (by walk_at "om") (by walk_at "om")) (h := ?_); walk_at "int"))
  k_with "ints" => (intro l' ws' e' h' tk' I' F' N' l1; (try simp only [AllNe, and_true] at l1); (try k_sweep); (try dsimp only))
  k_with "call ref" => (with_reducible refine atc 163 ?_; k_dflt (refine PureCall.ints (C := c_limbs _ _ _ _ _ _ (by walk_at "om") (by walk_at "om")) (h := ?_); walk_at "ints"))
  trivial
end SN3
section
variable {prog : Program} {w : World} {mean : ExcName → Option Value} {mg mb : Str → Option Value} {dp un : Nat} {gd : Option (List Code)} {cn : Str} {cs : Scope} {a : Addr} {ccd : Value} {cl : List (Str × Addr)} {outer : List Env} {A₀ : Around} {base h₀ : Heap} {L : Addr} {m : Str → Option Value} {s : Shared} {Q E : Value → Shared → Prop}
  {news : List (Addr × Obj)} {f : Addr} {dn : Nat} {vs : List Value} {ns ms : List Int}
theorem PureCall.pair (B : Below A₀ base outer h₀ := by k_asm) (F : Fr h₀ L s.heap m := by k_asm) (X : (Mine.hd.heap_1 w.params).In h₀ := by k_asm) (T : Top Mine.hd.view_1 (looseW Mine.hd.view_1 []) mean mg mb h₀ := by k_asm) (N : News h₀ L s.heap news := by k_asm) (hk : cs.kind = .function := by first | exact rfl | assumption)
    (C : PureCall w f dn vs s.heap (NewPair s.heap ns ms)) (hd : dp + dn < recursionLimit := by ktr_room) (hu : un + 8 * dn < cLine := by ktr_units)
    (h : ∀ t l l2 ws e us e2 h' tk', IntsAre ws ns → IntsAre us ms → Fr h₀ L h' m → News h₀ L h' ((t, { cls := .type "tuple", data := .seq #[.ref l, .ref l2] }) :: (l, W.listOf (List.toArray ws) e) :: (l2, W.listOf (List.toArray us) e2) :: news) → AllNe t news → AllNe l news → AllNe l2 news → Q (.ref t) { s with heap := h', toks := tk' }) :
    wpAny (model prog w) (ktrTop dp un gd cn cs L a ccd cl outer) (call (.ref f) vs) Q E s := by
  refine C _ _ _ _ _ _ _ _ _ _ _ _ _ _ _ _ _ _ _ _ _ rfl B F X T hk hd hu fun v h' tk' x p => ?_
  obtain ⟨t, l, l2, ws, e, us, e2, rfl, hn1, hn2, hn3, o1, o2, o3, i1, i2⟩ := p
  exact h t l l2 ws e us e2 h' tk' i1 i2 (x.fr F) (Ext.cons F (Ext.cons F (Ext.cons F (x.news N) hn3 o3) hn2 o2) hn1 o1) (allNe_of hn1 N) (allNe_of hn2 N) (allNe_of hn3 N)
end
theorem form22 {m m₀ : Str → Option Value} {a b : Str} {v u : Option Value} (h1 : m a = v) (h2 : m b = u) (h3 : ∀ y, y ≠ a → y ≠ b → m y = m₀ y) : m = fun y => if y = a then v else if y = b then u else m₀ y := by
  funext y
  by_cases e1 : y = a
  · subst e1; simp [h1]
  · by_cases e2 : y = b
    · subst e2; simp [e1, h2]
    · simp [e1, e2, h3 y e1 e2]
theorem isList_of {h : Heap} {l : Addr} {ws : List Value} {e : Nat} (x : h.get? l = some (W.listOf ws.toArray e)) : h.IsList l ws.toArray := ⟨_, x, rfl, _, rfl⟩
theorem len_my {prog : Program} {w : World} {A : Around} {E Q : Value → Shared → Prop} {s : Shared} {l : Addr} {ws : List Value} {e : Nat} {ns : List Int} (ho : s.heap.get? l = some (W.listOf ws.toArray e)) (hI : IntsAre ws ns) (hb : ns.length ≤ 64)
    (h : Q (.int (ns.length : Int) (s.toks + 1)) { s with toks := s.toks + 1 + 1 }) : wpAny (model prog w) A (call (.builtin "len") [.ref l]) Q E s := by
  have hl : ws.toArray.size = ns.length := by simp [hI.length]
  refine call_len_list (isList_of ho) (by omega) ?_
  rw [hl]; exact h
noncomputable def Stands (h₀ : Heap) (nx : List (Addr × Obj)) (l : Addr) (o : Obj) : Prop := h₀.get? l = some o ∨ (l, o) ∈ nx
noncomputable abbrev tup (vs : Array Value) : Obj := { cls := .type "tuple", data := .seq vs }
noncomputable def NewRat (h : Heap) (b : Bool) (ns ms : List Int) (v : Value) (h' : Heap) : Prop :=
  ∃ t t2 l l2 ws e us e2, v = .ref t ∧ h.get? t = none ∧ h.get? t2 = none ∧ h.get? l = none ∧ h.get? l2 = none ∧ h'.get? t = some (tup #[.ref t2, .ref l2]) ∧ h'.get? t2 = some (tup #[.bool b, .ref l]) ∧
    h'.get? l = some (W.listOf (List.toArray ws) e) ∧ h'.get? l2 = some (W.listOf (List.toArray us) e2) ∧ IntsAre ws ns ∧ IntsAre us ms
theorem NewRat.of {h h' : Heap} {L : Addr} {news : List (Addr × Obj)} {b : Bool} {t t2 l l2 : Addr} {ws us : List Value} {e e2 : Nat} {ns ms : List Int} (N : News h L h' news) (m1 : (t, tup #[.ref t2, .ref l2]) ∈ news) (m2 : (t2, tup #[.bool b, .ref l]) ∈ news)
    (m3 : (l, W.listOf (List.toArray ws) e) ∈ news) (m4 : (l2, W.listOf (List.toArray us) e2) ∈ news) (i1 : IntsAre ws ns) (i2 : IntsAre us ms) : NewRat h b ns ms (.ref t) h' :=
  ⟨t, t2, l, l2, ws, e, us, e2, rfl, (N _ m1).2.2, (N _ m2).2.2, (N _ m3).2.2, (N _ m4).2.2, (N _ m1).1, (N _ m2).1, (N _ m3).1, (N _ m4).1, i1, i2⟩
noncomputable def XCall (w : World) (f : Addr) (dn : Nat) (vs : List Value) (h : Heap) (P : Value → Heap → Prop) (X : Heap → List Env → Addr → Heap → Prop) : Prop :=
  ∀ (prog : Program) (mean : ExcName → Option Value) (mg mb : Str → Option Value) (dp un : Nat) (gd : Option (List Code)) (cn : Str) (cs : Scope) (a : Addr) (ccd : Value) (cl : List (Str × Addr)) (outer : List Env) (A₀ : Around) (base h₀ : Heap) (L : Addr) (m : Str → Option Value) (s : Shared) (Q E : Value → Shared → Prop),
    s.heap = h → Below A₀ base outer h₀ → Fr h₀ L s.heap m → (Mine.hd.heap_1 w.params).In h₀ → Top Mine.hd.view_1 (looseW Mine.hd.view_1 []) mean mg mb h₀ → cs.kind = .function → dp + dn < recursionLimit → un + 8 * dn < cLine →
    (∀ v h' tk', Ext s.heap h' → P v h' → Q v { s with heap := h', toks := tk' }) →
    (∀ e h' tk', X base (envX cn cs L a ccd cl :: outer) e h' → E (.ref e) { s with heap := h', toks := tk' }) →
    wpAny (model prog w) (ktrTop dp un gd cn cs L a ccd cl outer) (call (.ref f) vs) Q E s
noncomputable def Flew (C : Addr) (G : Heap) (base : Heap) (l : List Env) (e : Addr) (h' : Heap) : Prop := ∃ t vs, RaisedS base G l e (.ref C) t vs [] h' ∧ G.UpToSlots h'
theorem limbs_one {k : Nat} (hk : 2 ≤ k) : limbs k 1 = [1] := by
  have h2 : 2 ^ 1 < 2 ^ k := Nat.pow_lt_pow_right (by omega) (by omega)
  rw [limbs_pos (by omega) (by omega), Nat.mod_eq_of_lt (by omega), Nat.div_eq_of_lt (by omega), limbs_zero]
  rfl
section SN4
example : True := by
  k_with_none
  k_with "my enter" => (refine' enterP ?k1_8126 ?k2_8126 ?k3_8126 ?k5_8126 ?kA_8126 ?kF_8126 ?kK_8126 ?k6_8126 ?k7_8126 ?k8_8126 ?kZ_8126 ?k9_8126 ?kB_8126 ?_ ?c2_8126 ?c3_8126 ?c4_8126 ?c5_8126; (case kA_8126 => exact rfl); (case kF_8126 => exact rfl); (case kK_8126 => assumption); (case k1_8126 => k_asm); (case k2_8126 => k_asm); (case k3_8126 => k_asm); (case k5_8126 => k_asm); (case k6_8126 => k_is); (case k7_8126 => k_is); (case k8_8126 => ktr_room); (case kZ_8126 => simp only [List.map_cons, List.map_nil, List.zip_cons_cons, List.zip_nil_left, List.zip_nil_right, List.reverse_cons, List.reverse_nil, List.nil_append, List.cons_append]; exact rfl); (case k9_8126 => exact BindsTo.of_eq rfl); (case c5_8126 => decide); (case kB_8126 => exact locs rfl); (case c2_8126 => exact rfl); (case c3_8126 => exact rfl); (case c4_8126 => exact rfl); k_whole; intro L' h' tk' F' N' B' X' T'; (try dsimp only); (try k_lift B'); (try k_fold))
  k_with "my enterC" => (refine' enterPC ?k1_8392 ?k2_8392 ?k3_8392 ?k5_8392 ?kA_8392 ?kF_8392 ?kK_8392 ?k6_8392 ?k7_8392 ?k8_8392 ?k9_8392 ?kB_8392 ?kD_8392 ?_ ?c2_8392 ?c3_8392 ?c4_8392; (case kA_8392 => exact rfl); (case kF_8392 => exact rfl); (case kK_8392 => assumption); (case k1_8392 => k_asm); (case k2_8392 => k_asm); (case k3_8392 => k_asm); (case k5_8392 => k_asm); (case k6_8392 => k_is); (case k7_8392 => k_is); (case k8_8392 => ktr_room); (case k9_8392 => exact BindsTo.of_eq rfl); (case kB_8392 => exact rfl); (case kD_8392 => decide +kernel); (case c2_8392 => exact rfl); (case c3_8392 => exact rfl); (case c4_8392 => exact rfl); k_whole; intro L' h' tk' cells' F' N' Y' B' X' T'; k_cells Y'; (try simp only [List.cons_append, List.nil_append] at N'); (try dsimp only); (try k_lift B'); (try k_fold))
  k_with "my keeps" => (first
  | exact True.intro
  | exact fun _ => True.intro
  | exact And.intro (fun o => mapFields_kd _ o) True.intro
  | exact And.intro (fun _ => And.intro rfl rfl) True.intro
  | assumption
  | (refine Keeps.bind ?_ fun _ => ?_ <;> walk_at "my keeps")
  | (split <;> walk_at "my keeps"))
  k_with "my get" => (first | exact News.get (by k_asm) (by assumption) | exact News.get (by k_asm) (by k_mem) | exact Fr.keep (by k_asm) _ _ (by assumption))
  k_with "om" => (first | assumption | omega)
  k_with "int" => (intro t' h' tk' F' N'; (try k_sweep); (try dsimp only))
  k_with "call ref" => (with_reducible refine atc 168 ?_; k_dflt (refine PureCall.int (C := c_whole _ _ _ _ _ _ _ _ (by walk_at "my get") (by assumption) (by walk_at "om") (by walk_at "om")) (h := ?_); walk_at "int"))
  k_with "ints" => (intro l' ws' e' h' tk' I' F' N' l1; (try simp only [AllNe, and_true] at l1); (try k_sweep); (try dsimp only))
  k_with "call ref" => (with_reducible refine atc 163 ?_; k_dflt (refine PureCall.ints (C := c_limbs _ _ _ _ _ _ (by walk_at "om") (by walk_at "om")) (h := ?_); walk_at "ints"))
  k_with "exec While Compare cons nil" => (refine Hold.out ?_)
  k_with "exec For Name Call cons nil" => (refine Hold.out ?_)
  k_with "pyIter ref" => (refine Hold.out ?_)
  k_with "exec While BoolOp cons nil" => (refine Hold.out ?_)
  trivial
set_option maxHeartbeats 4000000 in
theorem c_normal (w : World) (h : Heap) (x k : Nat) (p : Addr) (ws : List Value) (e : Nat) (ha : h.get? p = some (W.listOf ws.toArray e)) (hI : IntsAre ws (limbs k x)) 
    (hx : x < 2 ^ 64) (hk : 2 ≤ k ∧ k ≤ 9) : PureCall w 79 2 [.ref p] h (NewInts h (limbs k x)) := by
  unfold PureCall
  intro prog mean mg mb dp un gd cn cs a ccd cl outer A₀ base h₀ L m s Q E hs B F X T hkd hd hu hret
  subst hs
  have hL : s.heap.IsList p ws.toArray := ⟨_, ha, rfl, _, rfl⟩
  have hlen := limbs_len hx (w := k)
  have hws := hI.length
  clear hx
  k_dflt (walk_at "my enter")
  k_steps
  have hlast := limbs_last (w := k) (by omega) x
  refine Hold.intro (While_my (fun m₀ _ m nx => m = m₀ ∧ nx = []) (by assumption) (by assumption) 0 [] (fun _ h => nomatch h) ⟨rfl, rfl⟩ ?_)
  rintro k1 m1 nx1 h1 tk1 F2 N2 ⟨rfl, rfl⟩
  k_steps
  · rename _ = (0 : Int) => h0
    rename (0 : Int) < _ => h1
    rw [show ((((limbs k x).length : Nat) : Int) - 1).toNat = (limbs k x).length - 1 by omega] at h0
    exact absurd h0 (hlast (by omega))
  all_goals (
    rename Fr _ _ _ _ => F9
    rename News _ _ _ _ => N9
    rename IntsAre _ (List.take _ _) => I9
    rw [Int.toNat_natCast, List.take_length] at I9
    exact hret _ _ _ F9.keep ⟨_, _, _, rfl, (N9 _ (by k_mem)).2.2, (N9 _ (by k_mem)).1, I9⟩)
set_option maxHeartbeats 4000000 in
theorem c_plain (w : World) (h : Heap) (x k : Nat) (p : Addr) (ws : List Value) (e : Nat) (u : Tok) (ha : h.get? p = some (W.listOf ws.toArray e)) (hI : IntsAre ws (limbs k x)) 
    (hx : x < 2 ^ 64) (hk : 2 ≤ k ∧ k ≤ 9) : PureCall w 121 2 [.ref p, .int k u] h (fun v _ => ∃ t, v = .int x t) := by
  unfold PureCall
  intro prog mean mg mb dp un gd cn cs a ccd cl outer A₀ base h₀ L m s Q E hs B F X T hkd hd hu hret
  subst hs
  have hL : s.heap.IsList p ws.toArray := ⟨_, ha, rfl, _, rfl⟩
  have hlen := limbs_len hx (w := k)
  have hws := hI.length
  have hx' : x < 18446744073709551616 := hx
  clear hx
  k_dflt (walk_at "my enter")
  k_steps
  refine Hold.intro (For1_my (by assumption) (by rfl) (by rfl) ?_)
  k_steps
  rename Fr _ _ _ _ => F1
  rename News _ _ _ _ => N1
  have e0 : ((x / 2 ^ (k * ((limbs k x).length - 0)) : Nat) : Int) = 0 := by rw [Nat.sub_zero, limbs_small (by omega)]; rfl
  refine Hold.intro (at_rev (fun m₀ i m nx => nx = [] ∧ ∃ t, m (Str.ofString "found") = some (.int ((x / 2 ^ (k * ((limbs k x).length - i)) : Nat) : Int) t) ∧ ∀ y, y ≠ Str.ofString "found" → y ≠ Str.ofString "limb" → m y = m₀ y) rfl hL (by k_mem) F1 N1 [] (fun _ h => nomatch h) (fun _ h => nomatch h) ⟨rfl, _, by rw [e0]; rfl, fun _ _ _ => rfl⟩ ?_ ?_)
  · rintro i v m1 nx h2 tk2 I oI hi hv ⟨rfl, t3, hm, hm'⟩ F2 N2 hne
    rw [form2 hm hm'] at F2
    obtain ⟨z, t4, rfl, hz⟩ := hI.at _ _ hv
    have hz2 := limbs_get (by omega) _ _ _ hz
    have hzm := limbs_mem (List.mem_of_getElem? hz)
    have hk9 : (2 : Int) ^ k ≤ 2 ^ 9 := by exact_mod_cast Nat.pow_le_pow_right (by omega : 0 < 2) hk.2
    have hPb : x / 2 ^ (k * ((limbs k x).length - i)) < 18446744073709551616 := Nat.lt_of_le_of_lt (Nat.div_le_self _ _) hx'
    generalize hP : x / 2 ^ (k * ((limbs k x).length - i)) = P at F2 hPb
    k_steps
    rename Fr _ _ _ _ => F9
    rename News _ _ _ _ => N9
    have eq : (P : Int) * 2 ^ ((k : Nat) : Int).toNat + z = ((x / 2 ^ (k * ((limbs k x).length - (i + 1))) : Nat) : Int) := by
      have e1 : ws.length - 1 - i = (limbs k x).length - (i + 1) := by omega
      have e2 : (limbs k x).length - i = (limbs k x).length - (i + 1) + 1 := by omega
      rw [e1] at hz2
      rw [e2] at hP
      have d := digit_step x k ((limbs k x).length - (i + 1))
      rw [hP] at d
      rw [hz2, pow_toNat, ← Int.natCast_mul, ← Int.natCast_add]
      exact congrArg _ d.symm
    exact StepMy.go [] F9 N9 (fun p h => by simpa using h) (fun _ h => nomatch h) ⟨rfl, _, congrArg (fun q => some (Value.int q _)) eq, fun y h1 h2 => by simp [h1, h2]⟩
  · rintro m1 nx h2 tk2 ⟨rfl, t3, hm, hm'⟩ F2 N2
    rw [form2 hm hm'] at F2
    have eq : x / 2 ^ (k * ((limbs k x).length - ws.length)) = x := by rw [hws, Nat.sub_self]; simp
    rw [eq] at F2
    k_steps
    exact hret _ _ _ F2.keep ⟨_, rfl⟩
example : True := by
  k_with_none
  k_with "my enter" => (refine' enterP ?k1_8126 ?k2_8126 ?k3_8126 ?k5_8126 ?kA_8126 ?kF_8126 ?kK_8126 ?k6_8126 ?k7_8126 ?k8_8126 ?kZ_8126 ?k9_8126 ?kB_8126 ?_ ?c2_8126 ?c3_8126 ?c4_8126 ?c5_8126; (case kA_8126 => exact rfl); (case kF_8126 => exact rfl); (case kK_8126 => assumption); (case k1_8126 => k_asm); (case k2_8126 => k_asm); (case k3_8126 => k_asm); (case k5_8126 => k_asm); (case k6_8126 => k_is); (case k7_8126 => k_is); (case k8_8126 => ktr_room); (case kZ_8126 => simp only [List.map_cons, List.map_nil, List.zip_cons_cons, List.zip_nil_left, List.zip_nil_right, List.reverse_cons, List.reverse_nil, List.nil_append, List.cons_append]; exact rfl); (case k9_8126 => exact BindsTo.of_eq rfl); (case c5_8126 => decide); (case kB_8126 => exact locs rfl); (case c2_8126 => exact rfl); (case c3_8126 => exact rfl); (case c4_8126 => exact rfl); k_whole; intro L' h' tk' F' N' B' X' T'; (try dsimp only); (try k_lift B'); (try k_fold))
  k_with "my enterC" => (refine' enterPC ?k1_8392 ?k2_8392 ?k3_8392 ?k5_8392 ?kA_8392 ?kF_8392 ?kK_8392 ?k6_8392 ?k7_8392 ?k8_8392 ?k9_8392 ?kB_8392 ?kD_8392 ?_ ?c2_8392 ?c3_8392 ?c4_8392; (case kA_8392 => exact rfl); (case kF_8392 => exact rfl); (case kK_8392 => assumption); (case k1_8392 => k_asm); (case k2_8392 => k_asm); (case k3_8392 => k_asm); (case k5_8392 => k_asm); (case k6_8392 => k_is); (case k7_8392 => k_is); (case k8_8392 => ktr_room); (case k9_8392 => exact BindsTo.of_eq rfl); (case kB_8392 => exact rfl); (case kD_8392 => decide +kernel); (case c2_8392 => exact rfl); (case c3_8392 => exact rfl); (case c4_8392 => exact rfl); k_whole; intro L' h' tk' cells' F' N' Y' B' X' T'; k_cells Y'; (try simp only [List.cons_append, List.nil_append] at N'); (try dsimp only); (try k_lift B'); (try k_fold))
  k_with "my keeps" => (first
  | exact True.intro
  | exact fun _ => True.intro
  | exact And.intro (fun o => mapFields_kd _ o) True.intro
  | exact And.intro (fun _ => And.intro rfl rfl) True.intro
  | assumption
  | (refine Keeps.bind ?_ fun _ => ?_ <;> walk_at "my keeps")
  | (split <;> walk_at "my keeps"))
  k_with "my get" => (first | exact News.get (by k_asm) (by assumption) | exact News.get (by k_asm) (by k_mem) | exact Fr.keep (by k_asm) _ _ (by assumption))
  k_with "om" => (first | assumption | omega)
  k_with "int" => (intro t' h' tk' F' N'; (try k_sweep); (try dsimp only))
  k_with "call ref" => (with_reducible refine atc 168 ?_; k_dflt (refine PureCall.int (C := c_whole _ _ _ _ _ _ _ _ (by walk_at "my get") (by assumption) (by walk_at "om") (by walk_at "om")) (h := ?_); walk_at "int"))
  k_with "ints" => (intro l' ws' e' h' tk' I' F' N' l1; (try simp only [AllNe, and_true] at l1); (try k_sweep); (try dsimp only))
  k_with "call ref" => (with_reducible refine atc 163 ?_; k_dflt (refine PureCall.ints (C := c_limbs _ _ _ _ _ _ (by walk_at "om") (by walk_at "om")) (h := ?_); walk_at "ints"))
  trivial
end SN4
section SN5
example : True := by
  k_with_none
  k_with "my enter" => (refine' enterP ?k1_8126 ?k2_8126 ?k3_8126 ?k5_8126 ?kA_8126 ?kF_8126 ?kK_8126 ?k6_8126 ?k7_8126 ?k8_8126 ?kZ_8126 ?k9_8126 ?kB_8126 ?_ ?c2_8126 ?c3_8126 ?c4_8126 ?c5_8126; (case kA_8126 => exact rfl); (case kF_8126 => exact rfl); (case kK_8126 => assumption); (case k1_8126 => k_asm); (case k2_8126 => k_asm); (case k3_8126 => k_asm); (case k5_8126 => k_asm); (case k6_8126 => k_is); (case k7_8126 => k_is); (case k8_8126 => ktr_room); (case kZ_8126 => simp only [List.map_cons, List.map_nil, List.zip_cons_cons, List.zip_nil_left, List.zip_nil_right, List.reverse_cons, List.reverse_nil, List.nil_append, List.cons_append]; exact rfl); (case k9_8126 => exact BindsTo.of_eq rfl); (case c5_8126 => decide); (case kB_8126 => exact locs rfl); (case c2_8126 => exact rfl); (case c3_8126 => exact rfl); (case c4_8126 => exact rfl); k_whole; intro L' h' tk' F' N' B' X' T'; (try dsimp only); (try k_lift B'); (try k_fold))
  k_with "my enterC" => (refine' enterPC ?k1_8392 ?k2_8392 ?k3_8392 ?k5_8392 ?kA_8392 ?kF_8392 ?kK_8392 ?k6_8392 ?k7_8392 ?k8_8392 ?k9_8392 ?kB_8392 ?kD_8392 ?_ ?c2_8392 ?c3_8392 ?c4_8392; (case kA_8392 => exact rfl); (case kF_8392 => exact rfl); (case kK_8392 => assumption); (case k1_8392 => k_asm); (case k2_8392 => k_asm); (case k3_8392 => k_asm); (case k5_8392 => k_asm); (case k6_8392 => k_is); (case k7_8392 => k_is); (case k8_8392 => ktr_room); (case k9_8392 => exact BindsTo.of_eq rfl); (case kB_8392 => exact rfl); (case kD_8392 => decide +kernel); (case c2_8392 => exact rfl); (case c3_8392 => exact rfl); (case c4_8392 => exact rfl); k_whole; intro L' h' tk' cells' F' N' Y' B' X' T'; k_cells Y'; (try simp only [List.cons_append, List.nil_append] at N'); (try dsimp only); (try k_lift B'); (try k_fold))
  k_with "my keeps" => (first
  | exact True.intro
  | exact fun _ => True.intro
  | exact And.intro (fun o => mapFields_kd _ o) True.intro
  | exact And.intro (fun _ => And.intro rfl rfl) True.intro
  | assumption
  | (refine Keeps.bind ?_ fun _ => ?_ <;> walk_at "my keeps")
  | (split <;> walk_at "my keeps"))
  k_with "my get" => (first | exact News.get (by k_asm) (by assumption) | exact News.get (by k_asm) (by k_mem) | exact Fr.keep (by k_asm) _ _ (by assumption))
  k_with "om" => (first | assumption | omega)
  k_with "int" => (intro t' h' tk' F' N'; (try k_sweep); (try dsimp only))
  k_with "call ref" => (with_reducible refine atc 168 ?_; k_dflt (refine PureCall.int (C := c_whole _ _ _ _ _ _ _ _ (by walk_at "my get") (by assumption) (by walk_at "om") (by walk_at "om")) (h := ?_); walk_at "int"))
  k_with "ints" => (intro l' ws' e' h' tk' I' F' N' l1; (try simp only [AllNe, and_true] at l1); (try k_sweep); (try dsimp only))
  k_with "call ref" => (with_reducible refine atc 163 ?_; k_dflt (refine PureCall.ints (C := c_limbs _ _ _ _ _ _ (by walk_at "om") (by walk_at "om")) (h := ?_); walk_at "ints"))
  k_with "exec While Compare cons nil" => (refine Hold.out ?_)
  k_with "exec For Name Call cons nil" => (refine Hold.out ?_)
  k_with "pyIter ref" => (refine Hold.out ?_)
  k_with "exec While BoolOp cons nil" => (refine Hold.out ?_)
  k_with "exec If" => ((with_reducible rename HoldSt => hq; clear hq); refine Hold.out ?_)
  trivial
set_option maxHeartbeats 4000000 in
theorem c_add (w : World) (h : Heap) (X Y k : Nat) (pX qY : Addr) (wX uY : List Value) (eX eY : Nat) (u : Tok) (ha : h.get? pX = some (W.listOf wX.toArray eX)) (hI : IntsAre wX (limbs k X)) (hb : h.get? qY = some (W.listOf uY.toArray eY)) (hJ : IntsAre uY (limbs k Y))
    (hx : X < 2 ^ 64) (hy : Y < 2 ^ 64) (hk : 2 ≤ k ∧ k ≤ 9) : PureCall w 93 2 [.ref pX, .ref qY, .int k u] h (NewInts h (limbs k (X + Y))) := by
  unfold PureCall
  intro prog mean mg mb dp un gd cn cs a ccd cl outer A₀ base h₀ L m s Q E hs B F X₀ T hkd hd hu hret
  subst hs
  have hL : s.heap.IsList pX wX.toArray := ⟨_, ha, rfl, _, rfl⟩
  have hL2 : s.heap.IsList qY uY.toArray := ⟨_, hb, rfl, _, rfl⟩
  have hlen := limbs_len hx (w := k)
  have hlen2 := limbs_len hy (w := k)
  have hws := hI.length
  have hus := hJ.length
  have hk9 : (2 : Int) ^ k ≤ 2 ^ 9 := by exact_mod_cast Nat.pow_le_pow_right (by omega : 0 < 2) hk.2
  have hk0 : 0 < k := by omega
  have hx' := hx
  have hy' := hy
  k_dflt (walk_at "my enter")
  have hH : HoldSt := trivial
  k_steps
  rename Fr _ _ _ _ => F1
  refine Hold.intro (St_cut (fun m₀ m' nx => nx = [] ∧ ∃ (x y : Nat) (p q : Addr) (ws us : List Value) (e e2 : Nat), s.heap.get? p = some (W.listOf ws.toArray e) ∧ IntsAre ws (limbs k x) ∧ s.heap.get? q = some (W.listOf us.toArray e2) ∧ IntsAre us (limbs k y) ∧ x < 2 ^ 64 ∧ y < 2 ^ 64 ∧
    (limbs k y).length ≤ (limbs k x).length ∧ x + y = X + Y ∧ m' (Str.ofString "a") = some (.ref p) ∧ m' (Str.ofString "b") = some (.ref q) ∧ ∀ z, z ≠ Str.ofString "a" → z ≠ Str.ofString "b" → m' z = m₀ z) F1 ?_ ?_)
  · clear hx hy
    rcases Nat.lt_or_ge (limbs k X).length (limbs k Y).length with ho | ho
    · k_steps
      rename Fr _ _ _ _ => F9
      exact StEnd.go (nx := []) F9 (fun _ h => nomatch h) ⟨rfl, Y, X, _, _, _, _, _, _, hb, hJ, ha, hI, hy', hx', Nat.le_of_lt ho, Nat.add_comm Y X, rfl, rfl, fun z h1 h2 => by simp [h1, h2]⟩
    · k_steps
      rename Fr _ _ _ _ => F9
      exact StEnd.go (nx := []) F9 (fun _ h => nomatch h) ⟨rfl, X, Y, _, _, _, _, _, _, ha, hI, hb, hJ, hx', hy', ho, rfl, rfl, rfl, fun z h1 h2 => rfl⟩
  clear F1 hL hL2 hlen hlen2 hws hus ha hI hb hJ hx hy hx' hy'
  rintro h' tk' m' nx F2 N2 ⟨rfl, x, y, p, q, ws, us, e, e2, ha, hI, hb, hJ, hx, hy, hord, hxy, e1, e2', e3⟩
  rw [form22 e1 e2' e3] at F2
  rw [← hxy] at hret
  clear hxy
  have hL : s.heap.IsList p ws.toArray := ⟨_, ha, rfl, _, rfl⟩
  have hL2 : s.heap.IsList q us.toArray := ⟨_, hb, rfl, _, rfl⟩
  have hlen := limbs_len hx (w := k)
  have hlen2 := limbs_len hy (w := k)
  have hws := hI.length
  have hus := hJ.length
  clear hx hy
  k_steps
  refine Hold.intro (For1_my (by assumption) (by rfl) (by rfl) ?_)
  k_steps
  rename IsRange _ _ _ _ _ _ _ _ => hR
  refine Hold.intro (at_range ((limbs k y).length) (fun m₀ i m nx => ∃ (l : Addr) (c : Nat) (pre : List Int) (vs : List Value) (e : Nat) (t : Tok), m₀ (Str.ofString "found") = some (.ref l) ∧ nx = [(l, W.listOf vs.toArray e)] ∧ IntsAre vs pre ∧ AddAt k x y i c pre ∧
      m (Str.ofString "carry") = some (.int c t) ∧ ∀ y, y ≠ Str.ofString "carry" → y ≠ Str.ofString "at" → m y = m₀ y) rfl hR (small_range (by omega) (by omega) (by omega) (by omega)) (by rw [rangeSize_nat]; omega) (by assumption) (by assumption) [(_, W.listOf #[] 0)] (fun p hp => ?_) ⟨_, 0, [], [], 0, _, rfl, rfl, .nil, AddAt.zero k x y, rfl, fun _ _ _ => rfl⟩ ?_ ?_)
  · rw [List.mem_singleton.mp hp]; k_mem
  · rintro i t m1 nx h2 tk2 I oI hi ⟨l, c, pre, vs, e9, t9, hl, rfl, hV, hA, hc, hm⟩ F2 N2 hne
    have hl' : some (Value.ref _) = some (Value.ref l) := hl
    injection hl' with hl'
    injection hl' with hl'
    subst hl'
    rw [form2 hc hm] at F2
    have hAl := hA.len
    have hvl := hV.length
    have hIl : @Ne Nat _ I := hne _ (.head _)
    obtain ⟨xv, hxv⟩ : ∃ v, (limbs k x)[i]? = some v := ⟨_, List.getElem?_eq_getElem (by omega)⟩
    obtain ⟨yv, hyv⟩ : ∃ v, (limbs k y)[i]? = some v := ⟨_, List.getElem?_eq_getElem (by omega)⟩
    have hxm := limbs_mem (List.mem_of_getElem? hxv)
    have hym := limbs_mem (List.mem_of_getElem? hyv)
    have hxg := limbs_get hk0 _ _ _ hxv
    have hyg := limbs_get hk0 _ _ _ hyv
    have hle := hA.le
    k_steps
    have ex : (limbs k x).getD ((0 : Int) + (i : Int)).toNat 0 = ((x / 2 ^ (k * i) % 2 ^ k : Nat) : Int) := by
      rw [show ((0 : Int) + (i : Int)).toNat = i by omega, List.getD_eq_getElem?_getD, hxv]; exact hxg
    have ey : (limbs k y).getD ((0 : Int) + (i : Int)).toNat 0 = ((y / 2 ^ (k * i) % 2 ^ k : Nat) : Int) := by
      rw [show ((0 : Int) + (i : Int)).toNat = i by omega, List.getD_eq_getElem?_getD, hyv]; exact hyg
    have e3 : (c : Int) + ((limbs k x).getD ((0 : Int) + (i : Int)).toNat 0 + (limbs k y).getD ((0 : Int) + (i : Int)).toNat 0) = ((c + (x / 2 ^ (k * i) % 2 ^ k + y / 2 ^ (k * i) % 2 ^ k) : Nat) : Int) := by
      rw [ex, ey]; push_cast; rfl
    rename Fr _ _ _ _ => F9
    rename News _ _ _ _ => N9
    rw [List.push_toArray, e3] at N9
    rw [e3] at F9
    exact StepMy.go [(_, _)] F9 N9 (fun p h => h) (fun p hp q hq => by rw [List.mem_singleton.mp hp, List.mem_singleton.mp hq]; exact hIl)
      ⟨_, _, pre ++ [_], _, _, _, hl, rfl, ints_snoc hV (bitAnd_mask _ _), hA.step hk0 (limbs_big hk0 _ _ (by omega)), congrArg (fun z => some (Value.int z _)) (fdiv_shift _ _), fun y h1 h2 => by simp [h1, h2]⟩
  rintro m1 nx h2 tk2 ⟨l, c, pre, vs, e9, t9, hl, rfl, hV, hA, hc, hm⟩ F2 N2
  have hl' : some (Value.ref _) = some (Value.ref l) := hl
  injection hl' with hl'
  injection hl' with hl'
  subst hl'
  clear hl
  rw [form2 hc hm] at F2
  clear hc hm hR
  k_steps
  refine Hold.intro (For1_my (by assumption) (by rfl) (by rfl) ?_)
  k_steps
  rename IsRange _ _ _ _ _ _ _ _ => hR
  refine Hold.intro (at_range ((limbs k x).length - (limbs k y).length) (fun m₀ i m nx => ∃ (l : Addr) (c : Nat) (pre : List Int) (vs : List Value) (e : Nat) (t : Tok), m₀ (Str.ofString "found") = some (.ref l) ∧ nx = [(l, W.listOf vs.toArray e)] ∧ IntsAre vs pre ∧ AddAt k x y ((limbs k y).length + i) c pre ∧
      m (Str.ofString "carry") = some (.int c t) ∧ ∀ y, y ≠ Str.ofString "carry" → y ≠ Str.ofString "at" → m y = m₀ y) rfl hR (small_range (by omega) (by omega) (by omega) (by omega)) (by rw [rangeSize_nat]; omega) (by assumption) (by assumption) [(_, W.listOf vs.toArray e9)] (fun p hp => ?_) ⟨_, c, pre, vs, e9, _, rfl, rfl, hV, hA, rfl, fun _ _ _ => rfl⟩ ?_ ?_)
  · rw [List.mem_singleton.mp hp]; k_mem
  · clear hV hA
    rintro i t m1 nx h2 tk2 I oI hi ⟨l, c, pre, vs, e9, t9, hl, rfl, hV, hA, hc, hm⟩ F2 N2 hne
    have hl' : some (Value.ref _) = some (Value.ref l) := hl
    injection hl' with hl'
    injection hl' with hl'
    subst hl'
    rw [form2 hc hm] at F2
    have hAl := hA.len
    have hvl := hV.length
    have hIl : @Ne Nat _ I := hne _ (.head _)
    have hj : (limbs k y).length + i < (limbs k x).length := by omega
    obtain ⟨xv, hxv⟩ : ∃ v, (limbs k x)[(limbs k y).length + i]? = some v := ⟨_, List.getElem?_eq_getElem hj⟩
    have hxm := limbs_mem (List.mem_of_getElem? hxv)
    have hxg := limbs_get hk0 _ _ _ hxv
    have hle := hA.le
    k_steps
    have ex : (limbs k x).getD (((limbs k y).length : Int) + (i : Int)).toNat 0 = ((x / 2 ^ (k * ((limbs k y).length + i)) % 2 ^ k : Nat) : Int) := by
      rw [show (((limbs k y).length : Int) + (i : Int)).toNat = (limbs k y).length + i by omega, List.getD_eq_getElem?_getD, hxv]; exact hxg
    have ey : y / 2 ^ (k * ((limbs k y).length + i)) % 2 ^ k = 0 := by
      rw [Nat.mul_add, Nat.pow_add, ← Nat.div_div_eq_div_mul, limbs_small hk0, Nat.zero_div, Nat.zero_mod]
    have e3 : (c : Int) + (limbs k x).getD (((limbs k y).length : Int) + (i : Int)).toNat 0 = ((c + (x / 2 ^ (k * ((limbs k y).length + i)) % 2 ^ k + y / 2 ^ (k * ((limbs k y).length + i)) % 2 ^ k) : Nat) : Int) := by
      rw [ex, ey]; push_cast; rfl
    rename Fr _ _ _ _ => F9
    rename News _ _ _ _ => N9
    rw [List.push_toArray, e3] at N9
    rw [e3] at F9
    exact StepMy.go [(_, _)] F9 N9 (fun p h => h) (fun p hp q hq => by rw [List.mem_singleton.mp hp, List.mem_singleton.mp hq]; exact hIl)
      ⟨_, _, pre ++ [_], _, _, _, hl, rfl, ints_snoc hV (bitAnd_mask _ _), hA.step hk0 (limbs_big hk0 _ _ hj), congrArg (fun z => some (Value.int z _)) (fdiv_shift _ _), fun y h1 h2 => by simp [h1, h2]⟩
  clear hV hA
  rintro m1 nx h2 tk2 ⟨l, c, pre, vs, e9, t9, hl, rfl, hV, hA, hc, hm⟩ F2 N2
  have hl' : some (Value.ref _) = some (Value.ref l) := hl
  injection hl' with hl'
  injection hl' with hl'
  subst hl'
  rw [show (limbs k y).length + ((limbs k x).length - (limbs k y).length) = (limbs k x).length by omega] at hA
  have hD := hA.done hk0 (limbs_small hk0 _) (by
    rw [show (limbs k x).length = (limbs k y).length + ((limbs k x).length - (limbs k y).length) by omega, Nat.mul_add, Nat.pow_add, ← Nat.div_div_eq_div_mul, limbs_small hk0, Nat.zero_div])
  have hAl := hA.len
  have hvl := hV.length
  rw [form2 hc hm] at F2
  clear hl hc hm hR
  k_steps
  · rename Fr _ _ _ _ => F9
    rename News _ _ _ _ => N9
    rename (0 : Int) < _ => hc0
    rw [List.push_toArray] at N9
    rw [if_pos (by omega)] at hD
    exact hret _ _ _ F9.keep ⟨_, _, _, rfl, (N9 _ (by k_mem)).2.2, (N9 _ (by k_mem)).1, hD ▸ hV.append (.cons _ _ .nil)⟩
  · rename Fr _ _ _ _ => F9
    rename News _ _ _ _ => N9
    rw [if_neg (by omega)] at hD
    exact hret _ _ _ F9.keep ⟨_, _, _, rfl, (N9 _ (by k_mem)).2.2, (N9 _ (by k_mem)).1, hD ▸ hV⟩
example : True := by
  k_with_none
  k_with "my enter" => (refine' enterP ?k1_8126 ?k2_8126 ?k3_8126 ?k5_8126 ?kA_8126 ?kF_8126 ?kK_8126 ?k6_8126 ?k7_8126 ?k8_8126 ?kZ_8126 ?k9_8126 ?kB_8126 ?_ ?c2_8126 ?c3_8126 ?c4_8126 ?c5_8126; (case kA_8126 => exact rfl); (case kF_8126 => exact rfl); (case kK_8126 => assumption); (case k1_8126 => k_asm); (case k2_8126 => k_asm); (case k3_8126 => k_asm); (case k5_8126 => k_asm); (case k6_8126 => k_is); (case k7_8126 => k_is); (case k8_8126 => ktr_room); (case kZ_8126 => simp only [List.map_cons, List.map_nil, List.zip_cons_cons, List.zip_nil_left, List.zip_nil_right, List.reverse_cons, List.reverse_nil, List.nil_append, List.cons_append]; exact rfl); (case k9_8126 => exact BindsTo.of_eq rfl); (case c5_8126 => decide); (case kB_8126 => exact locs rfl); (case c2_8126 => exact rfl); (case c3_8126 => exact rfl); (case c4_8126 => exact rfl); k_whole; intro L' h' tk' F' N' B' X' T'; (try dsimp only); (try k_lift B'); (try k_fold))
  k_with "my enterC" => (refine' enterPC ?k1_8392 ?k2_8392 ?k3_8392 ?k5_8392 ?kA_8392 ?kF_8392 ?kK_8392 ?k6_8392 ?k7_8392 ?k8_8392 ?k9_8392 ?kB_8392 ?kD_8392 ?_ ?c2_8392 ?c3_8392 ?c4_8392; (case kA_8392 => exact rfl); (case kF_8392 => exact rfl); (case kK_8392 => assumption); (case k1_8392 => k_asm); (case k2_8392 => k_asm); (case k3_8392 => k_asm); (case k5_8392 => k_asm); (case k6_8392 => k_is); (case k7_8392 => k_is); (case k8_8392 => ktr_room); (case k9_8392 => exact BindsTo.of_eq rfl); (case kB_8392 => exact rfl); (case kD_8392 => decide +kernel); (case c2_8392 => exact rfl); (case c3_8392 => exact rfl); (case c4_8392 => exact rfl); k_whole; intro L' h' tk' cells' F' N' Y' B' X' T'; k_cells Y'; (try simp only [List.cons_append, List.nil_append] at N'); (try dsimp only); (try k_lift B'); (try k_fold))
  k_with "my keeps" => (first
  | exact True.intro
  | exact fun _ => True.intro
  | exact And.intro (fun o => mapFields_kd _ o) True.intro
  | exact And.intro (fun _ => And.intro rfl rfl) True.intro
  | assumption
  | (refine Keeps.bind ?_ fun _ => ?_ <;> walk_at "my keeps")
  | (split <;> walk_at "my keeps"))
  k_with "my get" => (first | exact News.get (by k_asm) (by assumption) | exact News.get (by k_asm) (by k_mem) | exact Fr.keep (by k_asm) _ _ (by assumption))
  k_with "om" => (first | assumption | omega)
  k_with "int" => (intro t' h' tk' F' N'; (try k_sweep); (try dsimp only))
  k_with "call ref" => (with_reducible refine atc 168 ?_; k_dflt (refine PureCall.int (C := c_whole _ _ _ _ _ _ _ _ (by walk_at "my get") (by assumption) (by walk_at "om") (by walk_at "om")) (h := ?_); walk_at "int"))
  k_with "ints" => (intro l' ws' e' h' tk' I' F' N' l1; (try simp only [AllNe, and_true] at l1); (try k_sweep); (try dsimp only))
  k_with "call ref" => (with_reducible refine atc 163 ?_; k_dflt (refine PureCall.ints (C := c_limbs _ _ _ _ _ _ (by walk_at "om") (by walk_at "om")) (h := ?_); walk_at "ints"))
  trivial
end SN5
example : True := by
  k_with "pair" => (intro t' l' l2' ws' e' us' e2' h' tk' I' I2' F' N' l1 l2 l3; (try simp only [AllNe, and_true] at l1 l2 l3); (try k_sweep); (try dsimp only))
  trivial
example : True := by
  k_with "call ref" => (with_reducible refine atc 182 ?_; k_dflt (refine PureCall.pair (C := c_divrem _ _ _ _ _ _ _ _ _ _ _ _ (by walk_at "my get") (by assumption) (by walk_at "my get") (by assumption) (by walk_at "om") (by walk_at "om") (by walk_at "om") (by assumption)) (h := ?_); walk_at "pair"))
  trivial
example : True := by
  k_with "call ref" => (with_reducible refine atc 79 ?_; k_dflt (refine PureCall.ints (C := c_normal _ _ _ _ _ _ _ (by walk_at "my get") (by assumption) (by walk_at "om") (by assumption)) (h := ?_); walk_at "ints"))
  trivial
local macro_rules | `(tactic| walk_at "call builtin:len") => `(tactic| ((with_reducible show wpAny _ _ (call (Value.builtin "len") [Value.ref _]) _ _ _); k_dflt (refine' len_my ?ho ?hI ?hb ?_; (case ho => walk_at "my get"); (case hI => assumption); (case hb => omega))))
section SN6
example : True := by
  k_with_none
  k_with "my enter" => (refine' enterP ?k1_8126 ?k2_8126 ?k3_8126 ?k5_8126 ?kA_8126 ?kF_8126 ?kK_8126 ?k6_8126 ?k7_8126 ?k8_8126 ?kZ_8126 ?k9_8126 ?kB_8126 ?_ ?c2_8126 ?c3_8126 ?c4_8126 ?c5_8126; (case kA_8126 => exact rfl); (case kF_8126 => exact rfl); (case kK_8126 => assumption); (case k1_8126 => k_asm); (case k2_8126 => k_asm); (case k3_8126 => k_asm); (case k5_8126 => k_asm); (case k6_8126 => k_is); (case k7_8126 => k_is); (case k8_8126 => ktr_room); (case kZ_8126 => simp only [List.map_cons, List.map_nil, List.zip_cons_cons, List.zip_nil_left, List.zip_nil_right, List.reverse_cons, List.reverse_nil, List.nil_append, List.cons_append]; exact rfl); (case k9_8126 => exact BindsTo.of_eq rfl); (case c5_8126 => decide); (case kB_8126 => exact locs rfl); (case c2_8126 => exact rfl); (case c3_8126 => exact rfl); (case c4_8126 => exact rfl); k_whole; intro L' h' tk' F' N' B' X' T'; (try dsimp only); (try k_lift B'); (try k_fold))
  k_with "my enterC" => (refine' enterPC ?k1_8392 ?k2_8392 ?k3_8392 ?k5_8392 ?kA_8392 ?kF_8392 ?kK_8392 ?k6_8392 ?k7_8392 ?k8_8392 ?k9_8392 ?kB_8392 ?kD_8392 ?_ ?c2_8392 ?c3_8392 ?c4_8392; (case kA_8392 => exact rfl); (case kF_8392 => exact rfl); (case kK_8392 => assumption); (case k1_8392 => k_asm); (case k2_8392 => k_asm); (case k3_8392 => k_asm); (case k5_8392 => k_asm); (case k6_8392 => k_is); (case k7_8392 => k_is); (case k8_8392 => ktr_room); (case k9_8392 => exact BindsTo.of_eq rfl); (case kB_8392 => exact rfl); (case kD_8392 => decide +kernel); (case c2_8392 => exact rfl); (case c3_8392 => exact rfl); (case c4_8392 => exact rfl); k_whole; intro L' h' tk' cells' F' N' Y' B' X' T'; k_cells Y'; (try simp only [List.cons_append, List.nil_append] at N'); (try dsimp only); (try k_lift B'); (try k_fold))
  k_with "my keeps" => (first
  | exact True.intro
  | exact fun _ => True.intro
  | exact And.intro (fun o => mapFields_kd _ o) True.intro
  | exact And.intro (fun _ => And.intro rfl rfl) True.intro
  | assumption
  | (refine Keeps.bind ?_ fun _ => ?_ <;> walk_at "my keeps")
  | (split <;> walk_at "my keeps"))
  k_with "my get" => (first | exact News.get (by k_asm) (by assumption) | exact News.get (by k_asm) (by k_mem) | exact Fr.keep (by k_asm) _ _ (by assumption))
  k_with "om" => (first | assumption | omega)
  k_with "int" => (intro t' h' tk' F' N'; (try k_sweep); (try dsimp only))
  k_with "call ref" => (with_reducible refine atc 168 ?_; k_dflt (refine PureCall.int (C := c_whole _ _ _ _ _ _ _ _ (by walk_at "my get") (by assumption) (by walk_at "om") (by walk_at "om")) (h := ?_); walk_at "int"))
  k_with "ints" => (intro l' ws' e' h' tk' I' F' N' l1; (try simp only [AllNe, and_true] at l1); (try k_sweep); (try dsimp only))
  k_with "call ref" => (with_reducible refine atc 163 ?_; k_dflt (refine PureCall.ints (C := c_limbs _ _ _ _ _ _ (by walk_at "om") (by walk_at "om")) (h := ?_); walk_at "ints"))
  k_with "pair" => (intro t' l' l2' ws' e' us' e2' h' tk' I' I2' F' N' l1 l2 l3; (try simp only [AllNe, and_true] at l1 l2 l3); (try k_sweep); (try dsimp only))
  k_with "call ref" => (with_reducible refine atc 182 ?_; k_dflt (refine PureCall.pair (C := c_divrem _ _ _ _ _ _ _ _ _ _ _ _ (by walk_at "my get") (by assumption) (by walk_at "my get") (by assumption) (by walk_at "om") (by walk_at "om") (by walk_at "om") (by assumption)) (h := ?_); walk_at "pair"))
  k_with "call ref" => (with_reducible refine atc 79 ?_; k_dflt (refine PureCall.ints (C := c_normal _ _ _ _ _ _ _ (by walk_at "my get") (by assumption) (by walk_at "om") (by assumption)) (h := ?_); walk_at "ints"))
  k_with "exec While Compare cons nil" => (refine Hold.out ?_)
  trivial
set_option maxHeartbeats 4000000 in
theorem c_common (w : World) (h : Heap) (x y k : Nat) (p q : Addr) (ws us : List Value) (e e2 : Nat) (u : Tok) (ha : h.get? p = some (W.listOf ws.toArray e)) (hI : IntsAre ws (limbs k x)) (hb : h.get? q = some (W.listOf us.toArray e2)) (hJ : IntsAre us (limbs k y))
    (hx : x < 2 ^ 64) (hy : y < 2 ^ 64) (hk : 2 ≤ k ∧ k ≤ 9) : PureCall w 100 6 [.ref p, .ref q, .int k u, .ref 182] h (NewInts h (limbs k (Nat.gcd x y))) := by
  unfold PureCall
  intro prog mean mg mb dp un gd cn cs a ccd cl outer A₀ base h₀ L m s Q E hs B F X T hkd hd hu hret
  subst hs
  k_dflt (walk_at "my enter")
  k_steps
  refine Hold.intro (While_my (fun m₀ n m nx => ∃ (la lb : Addr) (wa wb : List Value) (ea eb : Nat) (P R : Nat), R = n ∧ Stands s.heap nx la (W.listOf wa.toArray ea) ∧ Stands s.heap nx lb (W.listOf wb.toArray eb) ∧ IntsAre wa (limbs k P) ∧ IntsAre wb (limbs k R) ∧ P < 2 ^ 64 ∧ R < 2 ^ 64 ∧ Nat.gcd P R = Nat.gcd x y ∧
      m (Str.ofString "a") = some (.ref la) ∧ m (Str.ofString "b") = some (.ref lb) ∧ ∀ y, y ≠ Str.ofString "a" → y ≠ Str.ofString "b" → m y = m₀ y) (by assumption) (by assumption) y [] (fun _ h => nomatch h)
    ⟨p, q, ws, us, e, e2, x, y, rfl, .inl ha, .inl hb, hI, hJ, hx, hy, rfl, rfl, rfl, fun _ _ _ => rfl⟩ ?_)
  rintro n m1 nx h1 tk1 F2 N2 ⟨la, lb, wa, wb, ea, eb, P, R, rfl, hsa, hsb, hA, hB, hP, hR, hg, h1, h2, h3⟩
  rw [form22 h1 h2 h3] at F2
  have hlP := limbs_len hP (w := k)
  have hlR := limbs_len hR (w := k)
  have hwa := hA.length
  have hRp : 0 < R ∨ (limbs k R).length = 0 := by
    rcases Nat.eq_zero_or_pos R with q | q
    · right; rw [q, limbs_zero]; rfl
    · exact .inl q
  have hwb := hB.length
  have hRz : R = 0 ∨ 0 < (limbs k R).length := by
    rcases Nat.eq_zero_or_pos R with q | q
    · exact .inl q
    · exact .inr (List.length_pos_iff.mpr (limbs_ne_nil (by omega) q))
  rcases hsa with hsa | hsa <;> rcases hsb with hsb | hsb <;> (try have hLa := isList_of hsa) <;> (try have hLb := isList_of hsb) <;> k_steps
  all_goals first
    | (rename Fr _ _ _ _ => F9
       rename News _ _ _ _ => N9
       rename IntsAre _ (limbs k (P % R)) => I2
       have hR0 : 0 < R := by omega
       exact WhileStep2.go F9 N9 (Nat.mod_lt P hR0) (fun _ h => h) ⟨_, _, _, _, _, _, R, P % R, rfl, (by first | exact .inl hsb | exact .inr (.tail _ (.tail _ (.tail _ (.tail _ hsb))))), .inr (by k_mem), hB, I2, hR, Nat.lt_of_lt_of_le (Nat.mod_lt P hR0) (Nat.le_of_lt hR),
         (Nat.gcd_comm _ _).trans ((Nat.gcd_rec R P).symm.trans ((Nat.gcd_comm _ _).trans hg)), rfl, rfl, fun y h1 h2 => by simp [h1, h2]⟩)
    | (rename Fr _ _ _ _ => F9
       rename News _ _ _ _ => N9
       rename IntsAre _ (limbs k P) => I2
       have hR0 : R = 0 := by omega
       rw [hR0, Nat.gcd_zero_right] at hg
       exact hret _ _ _ F9.keep ⟨_, _, _, rfl, (N9 _ (.head _)).2.2, (N9 _ (.head _)).1, hg ▸ I2⟩)
example : True := by
  k_with_none
  k_with "my enter" => (refine' enterP ?k1_8126 ?k2_8126 ?k3_8126 ?k5_8126 ?kA_8126 ?kF_8126 ?kK_8126 ?k6_8126 ?k7_8126 ?k8_8126 ?kZ_8126 ?k9_8126 ?kB_8126 ?_ ?c2_8126 ?c3_8126 ?c4_8126 ?c5_8126; (case kA_8126 => exact rfl); (case kF_8126 => exact rfl); (case kK_8126 => assumption); (case k1_8126 => k_asm); (case k2_8126 => k_asm); (case k3_8126 => k_asm); (case k5_8126 => k_asm); (case k6_8126 => k_is); (case k7_8126 => k_is); (case k8_8126 => ktr_room); (case kZ_8126 => simp only [List.map_cons, List.map_nil, List.zip_cons_cons, List.zip_nil_left, List.zip_nil_right, List.reverse_cons, List.reverse_nil, List.nil_append, List.cons_append]; exact rfl); (case k9_8126 => exact BindsTo.of_eq rfl); (case c5_8126 => decide); (case kB_8126 => exact locs rfl); (case c2_8126 => exact rfl); (case c3_8126 => exact rfl); (case c4_8126 => exact rfl); k_whole; intro L' h' tk' F' N' B' X' T'; (try dsimp only); (try k_lift B'); (try k_fold))
  k_with "my enterC" => (refine' enterPC ?k1_8392 ?k2_8392 ?k3_8392 ?k5_8392 ?kA_8392 ?kF_8392 ?kK_8392 ?k6_8392 ?k7_8392 ?k8_8392 ?k9_8392 ?kB_8392 ?kD_8392 ?_ ?c2_8392 ?c3_8392 ?c4_8392; (case kA_8392 => exact rfl); (case kF_8392 => exact rfl); (case kK_8392 => assumption); (case k1_8392 => k_asm); (case k2_8392 => k_asm); (case k3_8392 => k_asm); (case k5_8392 => k_asm); (case k6_8392 => k_is); (case k7_8392 => k_is); (case k8_8392 => ktr_room); (case k9_8392 => exact BindsTo.of_eq rfl); (case kB_8392 => exact rfl); (case kD_8392 => decide +kernel); (case c2_8392 => exact rfl); (case c3_8392 => exact rfl); (case c4_8392 => exact rfl); k_whole; intro L' h' tk' cells' F' N' Y' B' X' T'; k_cells Y'; (try simp only [List.cons_append, List.nil_append] at N'); (try dsimp only); (try k_lift B'); (try k_fold))
  k_with "my keeps" => (first
  | exact True.intro
  | exact fun _ => True.intro
  | exact And.intro (fun o => mapFields_kd _ o) True.intro
  | exact And.intro (fun _ => And.intro rfl rfl) True.intro
  | assumption
  | (refine Keeps.bind ?_ fun _ => ?_ <;> walk_at "my keeps")
  | (split <;> walk_at "my keeps"))
  k_with "my get" => (first | exact News.get (by k_asm) (by assumption) | exact News.get (by k_asm) (by k_mem) | exact Fr.keep (by k_asm) _ _ (by assumption))
  k_with "om" => (first | assumption | omega)
  k_with "int" => (intro t' h' tk' F' N'; (try k_sweep); (try dsimp only))
  k_with "call ref" => (with_reducible refine atc 168 ?_; k_dflt (refine PureCall.int (C := c_whole _ _ _ _ _ _ _ _ (by walk_at "my get") (by assumption) (by walk_at "om") (by walk_at "om")) (h := ?_); walk_at "int"))
  k_with "ints" => (intro l' ws' e' h' tk' I' F' N' l1; (try simp only [AllNe, and_true] at l1); (try k_sweep); (try dsimp only))
  k_with "call ref" => (with_reducible refine atc 163 ?_; k_dflt (refine PureCall.ints (C := c_limbs _ _ _ _ _ _ (by walk_at "om") (by walk_at "om")) (h := ?_); walk_at "ints"))
  k_with "pair" => (intro t' l' l2' ws' e' us' e2' h' tk' I' I2' F' N' l1 l2 l3; (try simp only [AllNe, and_true] at l1 l2 l3); (try k_sweep); (try dsimp only))
  k_with "call ref" => (with_reducible refine atc 182 ?_; k_dflt (refine PureCall.pair (C := c_divrem _ _ _ _ _ _ _ _ _ _ _ _ (by walk_at "my get") (by assumption) (by walk_at "my get") (by assumption) (by walk_at "om") (by walk_at "om") (by walk_at "om") (by assumption)) (h := ?_); walk_at "pair"))
  k_with "call ref" => (with_reducible refine atc 79 ?_; k_dflt (refine PureCall.ints (C := c_normal _ _ _ _ _ _ _ (by walk_at "my get") (by assumption) (by walk_at "om") (by assumption)) (h := ?_); walk_at "ints"))
  trivial
end SN6
example : True := by
  k_with "call ref" => (with_reducible refine atc 100 ?_; k_dflt (refine PureCall.ints (C := c_common _ _ _ _ _ _ _ _ _ _ _ _ (by walk_at "my get") (by assumption) (by walk_at "my get") (by assumption) (by walk_at "om") (by walk_at "om") (by assumption)) (h := ?_); walk_at "ints"))
  trivial
example : True := by
  k_with "my mem" => (first | exact List.Mem.head _ | (refine List.Mem.tail _ ?_; walk_at "my mem"))
  trivial
section SN7
example : True := by
  k_with_none
  k_with "my enter" => (refine' enterP ?k1_8126 ?k2_8126 ?k3_8126 ?k5_8126 ?kA_8126 ?kF_8126 ?kK_8126 ?k6_8126 ?k7_8126 ?k8_8126 ?kZ_8126 ?k9_8126 ?kB_8126 ?_ ?c2_8126 ?c3_8126 ?c4_8126 ?c5_8126; (case kA_8126 => exact rfl); (case kF_8126 => exact rfl); (case kK_8126 => assumption); (case k1_8126 => k_asm); (case k2_8126 => k_asm); (case k3_8126 => k_asm); (case k5_8126 => k_asm); (case k6_8126 => k_is); (case k7_8126 => k_is); (case k8_8126 => ktr_room); (case kZ_8126 => simp only [List.map_cons, List.map_nil, List.zip_cons_cons, List.zip_nil_left, List.zip_nil_right, List.reverse_cons, List.reverse_nil, List.nil_append, List.cons_append]; exact rfl); (case k9_8126 => exact BindsTo.of_eq rfl); (case c5_8126 => decide); (case kB_8126 => exact locs rfl); (case c2_8126 => exact rfl); (case c3_8126 => exact rfl); (case c4_8126 => exact rfl); k_whole; intro L' h' tk' F' N' B' X' T'; (try dsimp only); (try k_lift B'); (try k_fold))
  k_with "my enterC" => (refine' enterPC ?k1_8392 ?k2_8392 ?k3_8392 ?k5_8392 ?kA_8392 ?kF_8392 ?kK_8392 ?k6_8392 ?k7_8392 ?k8_8392 ?k9_8392 ?kB_8392 ?kD_8392 ?_ ?c2_8392 ?c3_8392 ?c4_8392; (case kA_8392 => exact rfl); (case kF_8392 => exact rfl); (case kK_8392 => assumption); (case k1_8392 => k_asm); (case k2_8392 => k_asm); (case k3_8392 => k_asm); (case k5_8392 => k_asm); (case k6_8392 => k_is); (case k7_8392 => k_is); (case k8_8392 => ktr_room); (case k9_8392 => exact BindsTo.of_eq rfl); (case kB_8392 => exact rfl); (case kD_8392 => decide +kernel); (case c2_8392 => exact rfl); (case c3_8392 => exact rfl); (case c4_8392 => exact rfl); k_whole; intro L' h' tk' cells' F' N' Y' B' X' T'; k_cells Y'; (try simp only [List.cons_append, List.nil_append] at N'); (try dsimp only); (try k_lift B'); (try k_fold))
  k_with "my keeps" => (first
  | exact True.intro
  | exact fun _ => True.intro
  | exact And.intro (fun o => mapFields_kd _ o) True.intro
  | exact And.intro (fun _ => And.intro rfl rfl) True.intro
  | assumption
  | (refine Keeps.bind ?_ fun _ => ?_ <;> walk_at "my keeps")
  | (split <;> walk_at "my keeps"))
  k_with "my get" => (first | exact News.get (by k_asm) (by assumption) | exact News.get (by k_asm) (by k_mem) | exact Fr.keep (by k_asm) _ _ (by assumption))
  k_with "om" => (first | assumption | omega)
  k_with "int" => (intro t' h' tk' F' N'; (try k_sweep); (try dsimp only))
  k_with "call ref" => (with_reducible refine atc 168 ?_; k_dflt (refine PureCall.int (C := c_whole _ _ _ _ _ _ _ _ (by walk_at "my get") (by assumption) (by walk_at "om") (by walk_at "om")) (h := ?_); walk_at "int"))
  k_with "ints" => (intro l' ws' e' h' tk' I' F' N' l1; (try simp only [AllNe, and_true] at l1); (try k_sweep); (try dsimp only))
  k_with "call ref" => (with_reducible refine atc 163 ?_; k_dflt (refine PureCall.ints (C := c_limbs _ _ _ _ _ _ (by walk_at "om") (by walk_at "om")) (h := ?_); walk_at "ints"))
  k_with "pair" => (intro t' l' l2' ws' e' us' e2' h' tk' I' I2' F' N' l1 l2 l3; (try simp only [AllNe, and_true] at l1 l2 l3); (try k_sweep); (try dsimp only))
  k_with "call ref" => (with_reducible refine atc 182 ?_; k_dflt (refine PureCall.pair (C := c_divrem _ _ _ _ _ _ _ _ _ _ _ _ (by walk_at "my get") (by assumption) (by walk_at "my get") (by assumption) (by walk_at "om") (by walk_at "om") (by walk_at "om") (by assumption)) (h := ?_); walk_at "pair"))
  k_with "call ref" => (with_reducible refine atc 79 ?_; k_dflt (refine PureCall.ints (C := c_normal _ _ _ _ _ _ _ (by walk_at "my get") (by assumption) (by walk_at "om") (by assumption)) (h := ?_); walk_at "ints"))
  k_with "call ref" => (with_reducible refine atc 100 ?_; k_dflt (refine PureCall.ints (C := c_common _ _ _ _ _ _ _ _ _ _ _ _ (by walk_at "my get") (by assumption) (by walk_at "my get") (by assumption) (by walk_at "om") (by walk_at "om") (by assumption)) (h := ?_); walk_at "ints"))
  k_with "my mem" => (first | exact List.Mem.head _ | (refine List.Mem.tail _ ?_; walk_at "my mem"))
  k_with "leaving ref" => (refine Hold.out ?_)
  trivial
set_option maxHeartbeats 4000000 in
theorem c_make (w : World) (h : Heap) (x y k : Nat) (neg : Bool) (p q tp tq : Addr) (ws us : List Value) (e e2 : Nat) (u : Tok) (htp : h.get? tp = some (tup #[.bool neg, .ref p])) (htq : h.get? tq = some (tup #[.bool false, .ref q]))
    (ha : h.get? p = some (W.listOf ws.toArray e)) (hI : IntsAre ws (limbs k x)) (hb : h.get? q = some (W.listOf us.toArray e2)) (hJ : IntsAre us (limbs k y))
    (hx : x < 2 ^ 64) (hy : y < 2 ^ 64) (hk : 2 ≤ k ∧ k ≤ 9) : XCall w 114 8 [.ref tp, .ref tq, .int k u, .ref 182] h (fun v h' => 0 < y ∧ NewRat h (neg && decide (0 < x)) (limbs k (x / Nat.gcd x y)) (limbs k (y / Nat.gcd x y)) v h') (fun base l e h' => y = 0 ∧ Flew 37 h base l e h') := by
  unfold XCall
  intro prog mean mg mb dp un gd cn cs a ccd cl outer A₀ base h₀ L m s Q E hs B F X T hkd hd hu hret hexc
  subst hs
  have hL := isList_of ha
  have hL2 := isList_of hb
  have hT : IsTup s.heap tp #[.bool neg, .ref p] := ⟨_, htp, rfl, _, rfl⟩
  have hT2 : IsTup s.heap tq #[.bool false, .ref q] := ⟨_, htq, rfl, _, rfl⟩
  have hlen := limbs_len hx (w := k)
  have hlen2 := limbs_len hy (w := k)
  have hws := hI.length
  have hus := hJ.length
  have hyl : (y = 0 ∧ (limbs k y).length = 0) ∨ (0 < y ∧ 0 < (limbs k y).length) := by
    rcases Nat.eq_zero_or_pos y with q | q
    · refine .inl ⟨q, ?_⟩
      rw [q, limbs_zero]; rfl
    · exact .inr ⟨q, List.length_pos_iff.mpr (limbs_ne_nil (by omega) q)⟩
  have hxl : (x = 0 ∧ (limbs k x).length = 0) ∨ (0 < x ∧ 0 < (limbs k x).length) := by
    rcases Nat.eq_zero_or_pos x with q | q
    · refine .inl ⟨q, ?_⟩
      rw [q, limbs_zero]; rfl
    · exact .inr ⟨q, List.length_pos_iff.mpr (limbs_ne_nil (by omega) q)⟩
  have hg : y = 0 ∨ (0 < Nat.gcd x y ∧ Nat.gcd x y ≤ y) := by
    rcases Nat.eq_zero_or_pos y with q | q
    · exact .inl q
    · exact .inr ⟨Nat.gcd_pos_of_pos_right _ q, Nat.gcd_le_right _ q⟩
  k_dflt (walk_at "my enter")
  k_steps
  · refine Hold.intro ?_
    rename Heap.MadeExcOf _ _ _ _ _ => hx9
    rename Fr _ _ _ _ => F9
    rename News _ _ _ _ => N9
    refine leave_raiseS (by assumption) hx9 F9 N9 ?_
    intro h' t S' R' U'
    exact hexc _ _ _ ⟨by omega, _, _, S', U'⟩
  · rename Fr _ _ _ _ => F9
    rename News _ _ _ _ => N9
    have hx0 : x = 0 := by omega
    have hy0 : 0 < y := by omega
    refine hret _ _ _ F9.keep ⟨hy0, ?_⟩
    subst hx0
    have h1 : (0 : Nat) / Nat.gcd 0 y = 0 := Nat.zero_div _
    have h2 : y / Nat.gcd 0 y = 1 := by rw [Nat.gcd_zero_left]; exact Nat.div_self hy0
    have h3 : (neg && decide (0 < (0 : Nat))) = false := by simp
    rw [h1, h2, h3]
    refine NewRat.of (ws := []) (us := [Value.int 1 _]) N9 (by walk_at "my mem") (by walk_at "my mem") (by walk_at "my mem") (by walk_at "my mem") ?_ ?_
    · rw [limbs_zero]; exact .nil
    · rw [limbs_one (by omega)]
      exact .cons _ _ .nil
  · rename Fr _ _ _ _ => F9
    rename News _ _ _ _ => N9
    have hx0 : 0 < x := by
      rcases hxl with ⟨_, q⟩ | ⟨q, _⟩
      · exact absurd (show ((limbs k x).length : Int) = 0 by rw [q]; rfl) (by assumption)
      · exact q
    have hy0 : 0 < y := by
      rcases hyl with ⟨_, q⟩ | ⟨q, _⟩
      · exact absurd (show ((limbs k y).length : Int) = 0 by rw [q]; rfl) (by assumption)
      · exact q
    refine hret _ _ _ F9.keep ⟨hy0, ?_⟩
    have h3 : (neg && decide (0 < x)) = (neg != false) := by simp [hx0]
    rw [h3]
    exact NewRat.of N9 (by walk_at "my mem") (by walk_at "my mem") (by walk_at "my mem") (by walk_at "my mem") (by assumption) (by assumption)
example : True := by
  k_with_none
  k_with "my enter" => (refine' enterP ?k1_8126 ?k2_8126 ?k3_8126 ?k5_8126 ?kA_8126 ?kF_8126 ?kK_8126 ?k6_8126 ?k7_8126 ?k8_8126 ?kZ_8126 ?k9_8126 ?kB_8126 ?_ ?c2_8126 ?c3_8126 ?c4_8126 ?c5_8126; (case kA_8126 => exact rfl); (case kF_8126 => exact rfl); (case kK_8126 => assumption); (case k1_8126 => k_asm); (case k2_8126 => k_asm); (case k3_8126 => k_asm); (case k5_8126 => k_asm); (case k6_8126 => k_is); (case k7_8126 => k_is); (case k8_8126 => ktr_room); (case kZ_8126 => simp only [List.map_cons, List.map_nil, List.zip_cons_cons, List.zip_nil_left, List.zip_nil_right, List.reverse_cons, List.reverse_nil, List.nil_append, List.cons_append]; exact rfl); (case k9_8126 => exact BindsTo.of_eq rfl); (case c5_8126 => decide); (case kB_8126 => exact locs rfl); (case c2_8126 => exact rfl); (case c3_8126 => exact rfl); (case c4_8126 => exact rfl); k_whole; intro L' h' tk' F' N' B' X' T'; (try dsimp only); (try k_lift B'); (try k_fold))
  k_with "my enterC" => (refine' enterPC ?k1_8392 ?k2_8392 ?k3_8392 ?k5_8392 ?kA_8392 ?kF_8392 ?kK_8392 ?k6_8392 ?k7_8392 ?k8_8392 ?k9_8392 ?kB_8392 ?kD_8392 ?_ ?c2_8392 ?c3_8392 ?c4_8392; (case kA_8392 => exact rfl); (case kF_8392 => exact rfl); (case kK_8392 => assumption); (case k1_8392 => k_asm); (case k2_8392 => k_asm); (case k3_8392 => k_asm); (case k5_8392 => k_asm); (case k6_8392 => k_is); (case k7_8392 => k_is); (case k8_8392 => ktr_room); (case k9_8392 => exact BindsTo.of_eq rfl); (case kB_8392 => exact rfl); (case kD_8392 => decide +kernel); (case c2_8392 => exact rfl); (case c3_8392 => exact rfl); (case c4_8392 => exact rfl); k_whole; intro L' h' tk' cells' F' N' Y' B' X' T'; k_cells Y'; (try simp only [List.cons_append, List.nil_append] at N'); (try dsimp only); (try k_lift B'); (try k_fold))
  k_with "my keeps" => (first
  | exact True.intro
  | exact fun _ => True.intro
  | exact And.intro (fun o => mapFields_kd _ o) True.intro
  | exact And.intro (fun _ => And.intro rfl rfl) True.intro
  | assumption
  | (refine Keeps.bind ?_ fun _ => ?_ <;> walk_at "my keeps")
  | (split <;> walk_at "my keeps"))
  k_with "my get" => (first | exact News.get (by k_asm) (by assumption) | exact News.get (by k_asm) (by k_mem) | exact Fr.keep (by k_asm) _ _ (by assumption))
  k_with "om" => (first | assumption | omega)
  k_with "int" => (intro t' h' tk' F' N'; (try k_sweep); (try dsimp only))
  k_with "call ref" => (with_reducible refine atc 168 ?_; k_dflt (refine PureCall.int (C := c_whole _ _ _ _ _ _ _ _ (by walk_at "my get") (by assumption) (by walk_at "om") (by walk_at "om")) (h := ?_); walk_at "int"))
  k_with "ints" => (intro l' ws' e' h' tk' I' F' N' l1; (try simp only [AllNe, and_true] at l1); (try k_sweep); (try dsimp only))
  k_with "call ref" => (with_reducible refine atc 163 ?_; k_dflt (refine PureCall.ints (C := c_limbs _ _ _ _ _ _ (by walk_at "om") (by walk_at "om")) (h := ?_); walk_at "ints"))
  k_with "pair" => (intro t' l' l2' ws' e' us' e2' h' tk' I' I2' F' N' l1 l2 l3; (try simp only [AllNe, and_true] at l1 l2 l3); (try k_sweep); (try dsimp only))
  k_with "call ref" => (with_reducible refine atc 182 ?_; k_dflt (refine PureCall.pair (C := c_divrem _ _ _ _ _ _ _ _ _ _ _ _ (by walk_at "my get") (by assumption) (by walk_at "my get") (by assumption) (by walk_at "om") (by walk_at "om") (by walk_at "om") (by assumption)) (h := ?_); walk_at "pair"))
  k_with "call ref" => (with_reducible refine atc 79 ?_; k_dflt (refine PureCall.ints (C := c_normal _ _ _ _ _ _ _ (by walk_at "my get") (by assumption) (by walk_at "om") (by assumption)) (h := ?_); walk_at "ints"))
  k_with "call ref" => (with_reducible refine atc 100 ?_; k_dflt (refine PureCall.ints (C := c_common _ _ _ _ _ _ _ _ _ _ _ _ (by walk_at "my get") (by assumption) (by walk_at "my get") (by assumption) (by walk_at "om") (by walk_at "om") (by assumption)) (h := ?_); walk_at "ints"))
  k_with "my mem" => (first | exact List.Mem.head _ | (refine List.Mem.tail _ ?_; walk_at "my mem"))
  trivial
end SN7
section OJn
open Builtin Builtin.Str
theorem nolen_lr : typeLookup (.type "list_reverseiterator") "__len__" = pure none := by rw [typeLookup_type, builtinLookup_eq_fast]; kernel_rfl
theorem hint_lr : typeLookup (.type "list_reverseiterator") "__length_hint__" = pure (some (.builtin "list_reverseiterator.__length_hint__")) := by rw [typeLookup_type, builtinLookup_eq_fast]; kernel_rfl
section
variable {prog : Program} {w : World} {A : Around} {E : Value → Shared → Prop} {s : Shared} {I : Addr} {fp wr : List Addr} {G : Array GenState → Array GenState → Prop} {n : Nat} {P : Nat → Value → Prop} {St : Nat → Shared → Prop}
theorem collect_lr {Q : List Value → Shared → Prop} (W : WalksS prog w A.in1 I fp wr G n P St) (hT : ∀ i s, St i s → s.TypeIs (.ref I) "list_reverseiterator") (hst : St 0 s) (hfp : ∀ b ∈ fp, b < s.heap.objs.size) (hI : I ∈ fp)
    (hQ : ∀ s' acc, Moved wr G s s' → ItemsOf P acc n → Q acc.toList s') (hn : n ≤ sizeLine := by size_fits) : wpAny (model prog w) A (collect (.ref I)) Q E s := by
  have hSf : s.heap.objs.size ∉ fp := fun hm => Nat.lt_irrefl _ (hfp _ hm)
  have hSI : s.heap.objs.size ≠ I := fun e => hSf (e ▸ hI)
  unfold collect
  refine wpAny_bind (wpAny_runValue (codeAny_builtin F.entry_proto_collect ?_))
  rw [Around.under_plainId F.plain_proto_collect _]
  show wpAny _ A.in1 (newList [] >>= fun l => again (.builtin "list.__iadd__" ⟨[l, .ref I], []⟩)) _ _ s
  refine wpAny_bind (wpAny_newObj_type ?_)
  refine wpAny_pure ⟨plainId_quiet F.plain_list_iadd _, codeAny_builtin F.entry_list_iadd ?_⟩
  rw [Around.under_plainId F.plain_list_iadd _]
  have hst₁ := W.frame 0 s (s.heap.push { cls := .type "list", data := .seq ([] : List Value).toArray }) s.toks hst (Nat.le_refl _) fun b _ o e => Heap.get?_push_of_some _ e
  have hS₁ : (s.heap.push { cls := .type "list", data := .seq ([] : List Value).toArray }).get? s.heap.objs.size = some { cls := .type "list", data := .seq ([] : List Value).toArray } := Heap.get?_push_size _ rfl
  have h1 : Builtin.List.listSameRef (.ref s.heap.objs.size) (.ref I) = false := by simp [Builtin.List.listSameRef, hSI]
  show wpAny _ A.in1 (Builtin.List.listExtendWith (.ref s.heap.objs.size) (.ref I) (.ref s.heap.objs.size)) _ _ _
  unfold Builtin.List.listExtendWith
  refine wpAny_bind (wpAny_typeOf (hT 0 _ hst₁) ?_)
  rw [if_neg (by rw [h1]; decide)]
  refine wpAny_bind (W.self 0 _ _ _ hst₁ ?_)
  refine wpAny_bind (wpAny_holding ?_)
  unfold Builtin.List.listLengthHint
  refine wpAny_bind (wpAny_specialOf (hT 0 _ hst₁) nolen_lr ?_)
  show wpAny _ A.in1 (specialOf (Value.ref I) (Str.ofString "__length_hint__") >>= _) _ _ _
  refine wpAny_bind (wpAny_specialOf (hT 0 _ hst₁) hint_lr ?_)
  (generalize hid : ("list_reverseiterator.__length_hint__" : String) = id0; (fail_if_success (clear hid id0)); wp_delta; rw [show splitId id0 = some ("list_reverseiterator", "__length_hint__") from by subst hid; decide +kernel]; subst hid)
  refine wpAny_bind (wpAny_isInstance (b := true) (hT 0 _ hst₁) (by rw [isSubtype_type]; kernel_rfl) ?_)
  refine wpAny_pure ?_
  rw [if_neg (by decide)]
  refine wpAny_pure ⟨plainId_quiet F.plain_extend_loop _, codeAny_extend_loopS W hn _ hSf _ n 0 _ _ _ rfl (Nat.zero_le _) hst₁ hS₁ (ItemsOf.nil P) fun s' acc' c' hm hS' hacc => ?_⟩
  show wpAny _ A (load s.heap.objs.size >>= _) _ _ s'
  refine wpAny_bind (wpAny_load hS' ?_)
  exact wpAny_pure (hQ s' acc' (Moved.drop_new (o := { cls := .type "list", data := .seq ([] : List Value).toArray }) (tk := s.toks) hm (Nat.le_refl _)) hacc)
end
theorem rev_acc {items acc : Array Value} (h : ItemsOf (fun i v => items[items.size - 1 - i]? = some v) acc items.size) : acc.toList = items.toList.reverse := by
  apply List.ext_getElem?
  intro j
  rw [Array.getElem?_toList]
  rcases Nat.lt_or_ge j acc.size with hj | hj
  · have e1 : acc[j]? = some acc[j] := Array.getElem?_eq_getElem hj
    have hs := h.1
    rw [e1, List.getElem?_reverse (by simp; omega), Array.getElem?_toList]
    simpa using (h.2 j _ e1).symm
  · have hs := h.1
    rw [Array.getElem?_eq_none hj, List.getElem?_eq_none (by simp; omega)]
theorem join_rev {prog : Program} {w : World} {A : Around} {E : Value → Shared → Prop} {s : Shared} {x : Str} {t : Tok} {Q : Value → Shared → Prop} (hh : A.handled = none) {D l : Addr} {vs : List Value} {ys : List Str} (hD : s.heap.get? D = some (revObj l ((vs.length : Int) - 1))) (hl : s.heap.IsList l vs.toArray)
    (hi : StrsAre vs ys) (hn : ys.length ≤ 64) (hok : (ys.map (·.length)).sum + ys.length * x.length ≤ 16777216)
    (hQ : ∀ t' h' k, (∀ b o, b ≠ D → s.heap.get? b = some o → h'.get? b = some o) → Q (.str (Txt.join x ys.reverse) t') { s with heap := h', toks := k }) :
    wpAny (model prog w) A (call (.builtin "str.join") [.str x t, .ref D]) Q E s := by
  have hit : s.heap.IsRevIter D l ((vs.length : Int) - 1) := ⟨_, hD, rfl, rfl⟩
  have hne : l ≠ D := fun q => by
    obtain ⟨o, ho, hc, _⟩ := hl
    rw [q, hD] at ho
    have := Option.some.inj ho
    rw [← this] at hc
    simp [revObj] at hc
  have W := Walks.listRev (prog := prog) (w := w) (A := A.in1.in1) hh D l hne vs.toArray
  refine wpAny_call (codeAny_call_builtin F.slot_str_join.plain F.entry_str_join (F.slot_str_join.check _ _ _ _ _ _ _ _ (typeIs_str _ _ _) (F.args_str_join_2 _ _) ?_))
  rw [join_tree_other]
  refine wpAny_bind (wpAny_typeOf hit.typeIs ?_)
  show wpAny _ A.in1 ((pyIter (.ref D)).tryCatch _ >>= fun it => collect it >>= fun items => joinTail x items) _ _ s
  refine wpAny_bind (wpAny_tryCatch (wpAny_pyIter_revIter hit ?_))
  refine wpAny_bind (collect_lr W.toS (fun i u st => st.2.1.typeIs) ⟨Nat.zero_le _, by simpa using hit, hl⟩ (fun b hb => ?_) (List.mem_cons_self ..) (fun s' acc hm hacc => ?_) ?_)
  · rcases List.mem_cons.mp hb with rfl | hb
    · exact Heap.lt_size hD
    · rw [List.mem_singleton.mp hb]
      obtain ⟨o, ho, _⟩ := hl
      exact Heap.lt_size ho
  · have e : acc.toList = vs.reverse := by simpa using rev_acc hacc
    rw [e]
    obtain ⟨m, hv, ht⟩ := strsAre_values hi
    have hv' : vs.reverse = strValues m.reverse := by rw [hv]; simp [strValues]
    have ht' : m.reverse.map (·.1) = ys.reverse := by rw [← ht]; simp
    rw [hv']
    have hok' : JoinOk x (m.reverse.map (·.1)) = true := by rw [ht']; exact joinOk_of (by simpa using hok)
    unfold JoinOk at hok'
    rw [Bool.not_eq_true'] at hok'
    have g : Gives (joinTail x (strValues m.reverse)) (joinMade x m.reverse) := by
      have g0 := gives_joinTail x m.reverse hok'
      generalize m.reverse = r at *
      cases r with
      | nil => exact g0
      | cons p r => cases r with
        | nil => exact g0
        | cons q r' => exact g0
    refine g prog w A (wants Q E) s' (post_join m.reverse ⟨joinFit_length hok', fun t' k => ?_⟩)
    rw [ht']
    obtain ⟨h', g', d', t'', o'⟩ := s'
    obtain ⟨m1, m2, m3, m4, m5⟩ := hm
    have m2 : g' = s.gens := m2
    have m3 : d' = s.drawn := m3
    have m4 : o' = s.os := m4
    subst m2; subst m3; subst m4
    exact (hQ t' h' k fun b o hb ho => m1 b o (fun q => hb (List.mem_singleton.mp q)) ho)
  · have : vs.length = ys.length := by
      obtain ⟨m, hv, ht⟩ := strsAre_values hi
      rw [hv, ← ht]; simp [strValues]
    rw [sizeLine_eq]
    simp
    omega
theorem but_fr {h₀ h h' : Heap} {L d : Addr} {m : Str → Option Value} (F : Fr h₀ L h m) (hL : d ≠ L) (hn : h₀.get? d = none) (k : ∀ b o, b ≠ d → h.get? b = some o → h'.get? b = some o) : Fr h₀ L h' m :=
  ⟨F.ns.at fun o e => k L o hL.symm e, fun b o e => k b o (fun q => by rw [q, hn] at e; cases e) (F.keep b o e), F.above⟩
theorem join_revF {prog : Program} {w : World} {A : Around} {E : Value → Shared → Prop} {s : Shared} {x : Str} {t : Tok} {Q : Value → Shared → Prop} {h₀ : Heap} {L : Addr} {m : Str → Option Value} {news : List (Addr × Obj)} (hh : A.handled = none) {D l : Addr} {vs : List Value} {ys : List Str}
    (F : Fr h₀ L s.heap m) (N : News h₀ L s.heap ((D, revObj l ((vs.length : Int) - 1)) :: news)) (hl : s.heap.IsList l vs.toArray) 
    (hi : StrsAre vs ys) (hn : ys.length ≤ 64) (hok : (ys.map (·.length)).sum + ys.length * x.length ≤ 16777216)
    (hQ : ∀ t' h' k, Fr h₀ L h' m → News h₀ L h' [] → Q (.str (Txt.join x ys.reverse) t') { s with heap := h', toks := k }) :
    wpAny (model prog w) A (call (.builtin "str.join") [.str x t, .ref D]) Q E s :=
  join_rev hh (N _ (.head _)).1 hl hi hn hok fun t' h' k e => hQ t' h' k (but_fr F (N _ (.head _)).2.1 (N _ (.head _)).2.2 e) (fun _ h => nomatch h)
theorem join_signsF {prog : Program} {w : World} {A : Around} {E : Value → Shared → Prop} {s : Shared} {t : Tok} {Q : Value → Shared → Prop} {h₀ : Heap} {L : Addr} {m : Str → Option Value} {news : List (Addr × Obj)} (hh : A.handled = none) {D l : Addr} {vs : List Value} {ds : List Nat} {e : Nat}
    (F : Fr h₀ L s.heap m) (N : News h₀ L s.heap ((D, revObj l ((vs.length : Int) - 1)) :: news)) (hi : StrsAre vs (ds.map fun c => (⟨#[c]⟩ : Str))) (hl : s.heap.get? l = some (W.listOf vs.toArray e)) (hn : ds.length ≤ 64)
    (hQ : ∀ t' h' k, Fr h₀ L h' m → News h₀ L h' [] → Q (.str ⟨ds.reverse.toArray⟩ t') { s with heap := h', toks := k }) :
    wpAny (model prog w) A (call (.builtin "str.join") [.str (Str.ofString "") t, .ref D]) Q E s := by
  refine join_revF hh F N (isList_of hl) hi (by simpa using hn) ?_ fun t' h' k F' N' => ?_
  · have e0 : (Str.ofString "").length = 0 := by decide +kernel
    have e1 : ∀ r : List Nat, ((r.map fun c => (⟨#[c]⟩ : Str)).map (·.length)).sum = r.length := by
      intro r
      induction r with
      | nil => rfl
      | cons c r ih => rw [List.map_cons, List.map_cons, List.sum_cons, ih]; show 1 + r.length = _; simp; omega
    rw [e0, e1]; omega
  · have := hQ t' h' k F' N'
    rw [← List.map_reverse, join_signs]
    exact this
theorem strs_snoc : ∀ {vs : List Value} {ys : List Str}, StrsAre vs ys → ∀ (y : Str) (t : Tok), StrsAre (vs ++ [.str y t]) (ys ++ [y])
  | _, _, .nil, y, t => .cons y t .nil
  | _, _, .cons a u r, y, t => .cons a u (strs_snoc r y t)
theorem item_signs : ∀ d : Nat, d < 36 → Txt.item (Str.ofString "0123456789abcdefghijklmnopqrstuvwxyz") (d : Int) = ⟨#[dgc d]⟩ := by decide +kernel
theorem swap4 {g h : Heap} {L : Addr} {p1 p2 p3 q : Addr × Obj} {r : List (Addr × Obj)} (N : News g L h (p1 :: p2 :: p3 :: q :: r)) : News g L h (q :: p1 :: p2 :: p3 :: r) := fun x hx => N x (by
  simp only [List.mem_cons] at hx ⊢
  rcases hx with h | h | h | h | h <;> simp [h])
end OJn
theorem len_strs {prog : Program} {w : World} {A : Around} {E Q : Value → Shared → Prop} {s : Shared} {l : Addr} {ws : List Value} {e : Nat} {ns : List Str} (hI : StrsAre ws ns) (ho : s.heap.get? l = some (W.listOf ws.toArray e)) (hb : ns.length ≤ 64)
    (h : Q (.int (ns.length : Int) (s.toks + 1)) { s with toks := s.toks + 1 + 1 }) : wpAny (model prog w) A (call (.builtin "len") [.ref l]) Q E s := by
  have hl : ws.toArray.size = ns.length := by simp [hI.length]
  refine call_len_list (isList_of ho) (by omega) ?_
  rw [hl]; exact h
example : True := by
  k_with "call ref" => (with_reducible refine atc 121 ?_; k_dflt (refine PureCall.int (C := c_plain _ _ _ _ _ _ _ _ (by walk_at "my get") (by assumption) (by walk_at "om") (by assumption)) (h := ?_); walk_at "int"))
  trivial
example : True := by
  k_with "call ref" => (with_reducible refine atc 86 ?_; k_dflt (refine PureCall.ints (C := c_nat_of _ _ _ _ _ _ (by walk_at "om") (by walk_at "om")) (h := ?_); walk_at "ints"))
  trivial
section SN8
local macro_rules | `(tactic| walk_at "call builtin:len") => `(tactic| ((with_reducible show wpAny _ _ (call (Value.builtin "len") [Value.ref _]) _ _ _); k_dflt (refine' len_strs (by assumption) ?ho ?hb ?_; (case ho => walk_at "my get"); (case hb => (simp only [List.length_map]; omega)))))
local macro_rules | `(tactic| k_all) => `(tactic| with_reducible assumption)
example : True := by
  k_with_none
  k_with "my enter" => (refine' enterP ?k1_8126 ?k2_8126 ?k3_8126 ?k5_8126 ?kA_8126 ?kF_8126 ?kK_8126 ?k6_8126 ?k7_8126 ?k8_8126 ?kZ_8126 ?k9_8126 ?kB_8126 ?_ ?c2_8126 ?c3_8126 ?c4_8126 ?c5_8126; (case kA_8126 => exact rfl); (case kF_8126 => exact rfl); (case kK_8126 => assumption); (case k1_8126 => k_asm); (case k2_8126 => k_asm); (case k3_8126 => k_asm); (case k5_8126 => k_asm); (case k6_8126 => k_is); (case k7_8126 => k_is); (case k8_8126 => ktr_room); (case kZ_8126 => simp only [List.map_cons, List.map_nil, List.zip_cons_cons, List.zip_nil_left, List.zip_nil_right, List.reverse_cons, List.reverse_nil, List.nil_append, List.cons_append]; exact rfl); (case k9_8126 => exact BindsTo.of_eq rfl); (case c5_8126 => decide); (case kB_8126 => exact locs rfl); (case c2_8126 => exact rfl); (case c3_8126 => exact rfl); (case c4_8126 => exact rfl); k_whole; intro L' h' tk' F' N' B' X' T'; (try dsimp only); (try k_lift B'); (try k_fold))
  k_with "my enterC" => (refine' enterPC ?k1_8392 ?k2_8392 ?k3_8392 ?k5_8392 ?kA_8392 ?kF_8392 ?kK_8392 ?k6_8392 ?k7_8392 ?k8_8392 ?k9_8392 ?kB_8392 ?kD_8392 ?_ ?c2_8392 ?c3_8392 ?c4_8392; (case kA_8392 => exact rfl); (case kF_8392 => exact rfl); (case kK_8392 => assumption); (case k1_8392 => k_asm); (case k2_8392 => k_asm); (case k3_8392 => k_asm); (case k5_8392 => k_asm); (case k6_8392 => k_is); (case k7_8392 => k_is); (case k8_8392 => ktr_room); (case k9_8392 => exact BindsTo.of_eq rfl); (case kB_8392 => exact rfl); (case kD_8392 => decide +kernel); (case c2_8392 => exact rfl); (case c3_8392 => exact rfl); (case c4_8392 => exact rfl); k_whole; intro L' h' tk' cells' F' N' Y' B' X' T'; k_cells Y'; (try simp only [List.cons_append, List.nil_append] at N'); (try dsimp only); (try k_lift B'); (try k_fold))
  k_with "my keeps" => (first
  | exact True.intro
  | exact fun _ => True.intro
  | exact And.intro (fun o => mapFields_kd _ o) True.intro
  | exact And.intro (fun _ => And.intro rfl rfl) True.intro
  | assumption
  | (refine Keeps.bind ?_ fun _ => ?_ <;> walk_at "my keeps")
  | (split <;> walk_at "my keeps"))
  k_with "my get" => (first | exact News.get (by k_asm) (by assumption) | exact News.get (by k_asm) (by k_mem) | exact Fr.keep (by k_asm) _ _ (by assumption))
  k_with "om" => (first | assumption | omega)
  k_with "int" => (intro t' h' tk' F' N'; (try k_sweep); (try dsimp only))
  k_with "call ref" => (with_reducible refine atc 168 ?_; k_dflt (refine PureCall.int (C := c_whole _ _ _ _ _ _ _ _ (by walk_at "my get") (by assumption) (by walk_at "om") (by walk_at "om")) (h := ?_); walk_at "int"))
  k_with "ints" => (intro l' ws' e' h' tk' I' F' N' l1; (try simp only [AllNe, and_true] at l1); (try k_sweep); (try dsimp only))
  k_with "call ref" => (with_reducible refine atc 163 ?_; k_dflt (refine PureCall.ints (C := c_limbs _ _ _ _ _ _ (by walk_at "om") (by walk_at "om")) (h := ?_); walk_at "ints"))
  k_with "pair" => (intro t' l' l2' ws' e' us' e2' h' tk' I' I2' F' N' l1 l2 l3; (try simp only [AllNe, and_true] at l1 l2 l3); (try k_sweep); (try dsimp only))
  k_with "call ref" => (with_reducible refine atc 182 ?_; k_dflt (refine PureCall.pair (C := c_divrem _ _ _ _ _ _ _ _ _ _ _ _ (by walk_at "my get") (by assumption) (by walk_at "my get") (by assumption) (by walk_at "om") (by walk_at "om") (by walk_at "om") (by assumption)) (h := ?_); walk_at "pair"))
  k_with "call ref" => (with_reducible refine atc 79 ?_; k_dflt (refine PureCall.ints (C := c_normal _ _ _ _ _ _ _ (by walk_at "my get") (by assumption) (by walk_at "om") (by assumption)) (h := ?_); walk_at "ints"))
  k_with "call ref" => (with_reducible refine atc 100 ?_; k_dflt (refine PureCall.ints (C := c_common _ _ _ _ _ _ _ _ _ _ _ _ (by walk_at "my get") (by assumption) (by walk_at "my get") (by assumption) (by walk_at "om") (by walk_at "om") (by assumption)) (h := ?_); walk_at "ints"))
  k_with "my mem" => (first | exact List.Mem.head _ | (refine List.Mem.tail _ ?_; walk_at "my mem"))
  k_with "call ref" => (with_reducible refine atc 121 ?_; k_dflt (refine PureCall.int (C := c_plain _ _ _ _ _ _ _ _ (by walk_at "my get") (by assumption) (by walk_at "om") (by assumption)) (h := ?_); walk_at "int"))
  k_with "call ref" => (with_reducible refine atc 86 ?_; k_dflt (refine PureCall.ints (C := c_nat_of _ _ _ _ _ _ (by walk_at "om") (by walk_at "om")) (h := ?_); walk_at "ints"))
  k_with "exec While Compare cons nil" => (refine Hold.out ?_)
  k_with "call builtin:str.join" => ((with_reducible show wpAny _ _ (call (Value.builtin "str.join") [Value.str _ _, Value.ref _]) _ _ _); k_dflt (refine' join_signsF (by rfl) ?F_7617 ?N_7617 (by assumption) ?hl_7617 ?hn_7617 ?_; (case F_7617 => k_asm); (case N_7617 => k_asm); (case hl_7617 => walk_at "my get"); (case hn_7617 => omega); intro t' h' k' F' N'; (try k_sweep)))
  trivial
theorem c_signed_of (w : World) (h : Heap) (p : Addr) : PureCall w 107 1 [.ref p] h (fun v h' => ∃ t, v = .ref t ∧ h.get? t = none ∧ h'.get? t = some (tup #[.bool false, .ref p])) := by
  unfold PureCall
  intro prog mean mg mb dp un gd cn cs a ccd cl outer A₀ base h₀ L m s Q E hs B F X T hkd hd hu hret
  subst hs
  k_dflt (walk_at "my enter")
  k_steps
  rename Fr _ _ _ _ => F9
  rename News _ _ _ _ => N9
  exact hret _ _ _ F9.keep ⟨_, rfl, (N9 _ (.head _)).2.2, (N9 _ (.head _)).1⟩
set_option maxHeartbeats 4000000 in
theorem c_nat_text (w : World) (h : Heap) (x b k : Nat) (p : Addr) (ws : List Value) (e : Nat) (u u2 : Tok) (ha : h.get? p = some (W.listOf ws.toArray e)) (hI : IntsAre ws (limbs k x))
    (hx : x < 2 ^ 64) (hb : 2 ≤ b ∧ b ≤ 36) (hk : 2 ≤ k ∧ k ≤ 9) : PureCall w 128 6 [.ref p, .int b u2, .int k u, .ref 182] h (fun v _ => ∃ t, v = .str (shownN b x) t) := by
  unfold PureCall
  intro prog mean mg mb dp un gd cn cs a ccd cl outer A₀ base h₀ L m s Q E hs B F X T hkd hd hu hret
  subst hs
  have hdl := digs_len (b := b) (by omega) hx
  have hb64 : b < 2 ^ 64 := by omega
  k_dflt (walk_at "my enter")
  k_steps
  rename Fr _ _ _ _ => F1
  rename News _ _ _ _ => N1
  have hl1 := (N1 _ (.tail _ (.tail _ (.head _))))
  have hm1 := (N1 _ (.tail _ (.head _)))
  obtain ⟨lf, lt, wt, et, D0, q1, q2, q3, q4, q5⟩ := three_named N1
  subst q1 q2 q3 q4 q5
  have hoff0 : ∀ q ∈ [(lt, W.listOf wt.toArray et)], q.1 ≠ lf := by
    intro q hq
    rw [List.mem_singleton.mp hq]
    exact fun q => absurd q.symm (show @Ne Nat lf lt by assumption)
  have hsub : ∀ q ∈ [(lf, W.listOf #[] 0), (lt, W.listOf wt.toArray et)], q ∈ [(D0, ({ cls := .type "tuple", data := .seq #[.ref lf, .ref lt] } : Obj)), (lt, W.listOf wt.toArray et), (lf, W.listOf #[] 0)] := by
    intro q hq
    simp only [List.mem_cons, List.not_mem_nil, or_false] at hq ⊢
    rcases hq with rfl | rfl <;> simp
  refine Hold.intro (While_my (fun m₀ n m nx => ∃ (la : Addr) (wa : List Value) (ea ef : Nat) (vs : List Value) (nx' : List (Addr × Obj)) (ds : List Nat) (P : Nat), P = n ∧ P < 2 ^ 64 ∧ Stands s.heap nx' la (W.listOf wa.toArray ea) ∧ nx = (lf, W.listOf vs.toArray ef) :: nx' ∧ (lt, W.listOf wt.toArray et) ∈ nx' ∧ (∀ q ∈ nx', q.1 ≠ lf) ∧ IntsAre wa (limbs k P) ∧ StrsAre vs (ds.map fun c => (⟨#[c]⟩ : Str)) ∧ digs b x = ds ++ digs b P ∧
      m (Str.ofString "a") = some (.ref la) ∧ ∀ y, y ≠ Str.ofString "a" → y ≠ Str.ofString "rest" → m y = m₀ y) (by assumption) (by assumption) x [(lf, W.listOf #[] 0), (lt, W.listOf wt.toArray et)] hsub
      ⟨p, ws, e, 0, [], _, [], x, rfl, hx, .inl ha, rfl, .head _, hoff0, hI, .nil, rfl, rfl, fun _ _ _ => rfl⟩ ?_)
  rintro n m1 nx h1 tk1 F2 N2 ⟨la, wa, ea, ef, vs, nx', ds, P, rfl, hP, hsa, rfl, hmt, hoff, hA, hS, hds, h1, h2⟩
  clear F1 N1 hl1 hm1
  rw [form22 h1 rfl h2] at F2
  have hlP := limbs_len hP (w := k)
  have hwa := hA.length
  have hPz : (P = 0 ∧ (limbs k P).length = 0) ∨ (0 < P ∧ 0 < (limbs k P).length) := by
    rcases Nat.eq_zero_or_pos P with q | q
    · refine .inl ⟨q, ?_⟩
      rw [q, limbs_zero]; rfl
    · exact .inr ⟨q, List.length_pos_iff.mpr (limbs_ne_nil (by omega) q)⟩
  have hdl2 : ds.length ≤ 64 := by
    have e2 := congrArg List.length hds
    rw [List.length_append] at e2
    omega
  have hPm : P % b < 2 ^ 64 := Nat.lt_of_le_of_lt (Nat.mod_le _ _) hP
  have hPd : P / b < 2 ^ 64 := Nat.lt_of_le_of_lt (Nat.div_le_self _ _) hP
  have hPb : P % b < b := Nat.mod_lt _ (by omega)
  have hvs : vs.length ≤ 64 := by
    have e1 := hS.length
    have e2 := congrArg List.length hds
    rw [List.length_append] at e2
    rw [List.length_map] at e1
    omega
  have hmt' : (lt, W.listOf wt.toArray et) ∈ (lf, W.listOf vs.toArray ef) :: nx' := .tail _ hmt
  rcases hsa with hsa | hsa <;> (first | have hLa := isList_of hsa | have hsa' : (la, W.listOf wa.toArray ea) ∈ (lf, W.listOf vs.toArray ef) :: nx' := .tail _ hsa) <;> k_steps
  all_goals first
    | (rename Fr _ _ _ _ => F9
       rename News _ _ _ _ => N9
       rename ¬ _ => hz
       have hP0 : P = 0 := by
         rcases hPz with q | q
         · exact q.1
         · exact absurd (Int.natCast_pos.mpr q.2) (by assumption)
       have hdx : digs b x = ds := by rw [hds, hP0, digs_zero, List.append_nil]
       first
       | (have hpd : 0 < ds.length := by
            rw [List.length_map] at *
            exact Int.natCast_pos.mp (by assumption)
          exact hret _ _ _ F9.keep ⟨_, by rw [shownN_of hdx hpd]⟩)
       | (have hpd : ¬ 0 < ds.length := fun hh => by
            rw [List.length_map] at *
            exact absurd (Int.natCast_pos.mpr hh) (by assumption)
          exact hret _ _ _ F9.keep ⟨_, by rw [shownN_zero hdx (by omega) hpd]⟩))
    | (rename Fr _ _ _ _ => F9
       rename News _ _ _ _ => N9
       have hP0 : 0 < P := by
         rcases hPz with q | q
         · exact absurd (by assumption) (show ¬ (0 : Int) < ((limbs k P).length : Int) by rw [q.2]; decide)
         · exact q.1
       rw [List.push_toArray] at N9
       refine WhileStep2.go F9 (swap4 N9) (show P / b < P from Nat.div_lt_self hP0 (by omega)) (fun _ h => h) ⟨_, _, _, _, _, _, ds ++ [dgc (P % b)], P / b, rfl, hPd, .inr (.tail _ (.head _)), rfl, .tail _ (.tail _ (.tail _ hmt)), ?_, by assumption, ?_, ?_, rfl, fun y h1 h2 => by simp [h1, h2]⟩
       · simp only [List.forall_mem_cons]
         refine ⟨?_, ?_, ?_, hoff⟩ <;> k_ne
       · rw [List.map_append, item_signs _ (by omega)]
         exact strs_snoc hS _ _
       · rw [hds, digs_pos hP0 (by omega), List.append_assoc]; rfl)
example : True := by
  k_with_none
  k_with "my enter" => (refine' enterP ?k1_8126 ?k2_8126 ?k3_8126 ?k5_8126 ?kA_8126 ?kF_8126 ?kK_8126 ?k6_8126 ?k7_8126 ?k8_8126 ?kZ_8126 ?k9_8126 ?kB_8126 ?_ ?c2_8126 ?c3_8126 ?c4_8126 ?c5_8126; (case kA_8126 => exact rfl); (case kF_8126 => exact rfl); (case kK_8126 => assumption); (case k1_8126 => k_asm); (case k2_8126 => k_asm); (case k3_8126 => k_asm); (case k5_8126 => k_asm); (case k6_8126 => k_is); (case k7_8126 => k_is); (case k8_8126 => ktr_room); (case kZ_8126 => simp only [List.map_cons, List.map_nil, List.zip_cons_cons, List.zip_nil_left, List.zip_nil_right, List.reverse_cons, List.reverse_nil, List.nil_append, List.cons_append]; exact rfl); (case k9_8126 => exact BindsTo.of_eq rfl); (case c5_8126 => decide); (case kB_8126 => exact locs rfl); (case c2_8126 => exact rfl); (case c3_8126 => exact rfl); (case c4_8126 => exact rfl); k_whole; intro L' h' tk' F' N' B' X' T'; (try dsimp only); (try k_lift B'); (try k_fold))
  k_with "my enterC" => (refine' enterPC ?k1_8392 ?k2_8392 ?k3_8392 ?k5_8392 ?kA_8392 ?kF_8392 ?kK_8392 ?k6_8392 ?k7_8392 ?k8_8392 ?k9_8392 ?kB_8392 ?kD_8392 ?_ ?c2_8392 ?c3_8392 ?c4_8392; (case kA_8392 => exact rfl); (case kF_8392 => exact rfl); (case kK_8392 => assumption); (case k1_8392 => k_asm); (case k2_8392 => k_asm); (case k3_8392 => k_asm); (case k5_8392 => k_asm); (case k6_8392 => k_is); (case k7_8392 => k_is); (case k8_8392 => ktr_room); (case k9_8392 => exact BindsTo.of_eq rfl); (case kB_8392 => exact rfl); (case kD_8392 => decide +kernel); (case c2_8392 => exact rfl); (case c3_8392 => exact rfl); (case c4_8392 => exact rfl); k_whole; intro L' h' tk' cells' F' N' Y' B' X' T'; k_cells Y'; (try simp only [List.cons_append, List.nil_append] at N'); (try dsimp only); (try k_lift B'); (try k_fold))
  k_with "my keeps" => (first
  | exact True.intro
  | exact fun _ => True.intro
  | exact And.intro (fun o => mapFields_kd _ o) True.intro
  | exact And.intro (fun _ => And.intro rfl rfl) True.intro
  | assumption
  | (refine Keeps.bind ?_ fun _ => ?_ <;> walk_at "my keeps")
  | (split <;> walk_at "my keeps"))
  k_with "my get" => (first | exact News.get (by k_asm) (by assumption) | exact News.get (by k_asm) (by k_mem) | exact Fr.keep (by k_asm) _ _ (by assumption))
  k_with "om" => (first | assumption | omega)
  k_with "int" => (intro t' h' tk' F' N'; (try k_sweep); (try dsimp only))
  k_with "call ref" => (with_reducible refine atc 168 ?_; k_dflt (refine PureCall.int (C := c_whole _ _ _ _ _ _ _ _ (by walk_at "my get") (by assumption) (by walk_at "om") (by walk_at "om")) (h := ?_); walk_at "int"))
  k_with "ints" => (intro l' ws' e' h' tk' I' F' N' l1; (try simp only [AllNe, and_true] at l1); (try k_sweep); (try dsimp only))
  k_with "call ref" => (with_reducible refine atc 163 ?_; k_dflt (refine PureCall.ints (C := c_limbs _ _ _ _ _ _ (by walk_at "om") (by walk_at "om")) (h := ?_); walk_at "ints"))
  k_with "pair" => (intro t' l' l2' ws' e' us' e2' h' tk' I' I2' F' N' l1 l2 l3; (try simp only [AllNe, and_true] at l1 l2 l3); (try k_sweep); (try dsimp only))
  k_with "call ref" => (with_reducible refine atc 182 ?_; k_dflt (refine PureCall.pair (C := c_divrem _ _ _ _ _ _ _ _ _ _ _ _ (by walk_at "my get") (by assumption) (by walk_at "my get") (by assumption) (by walk_at "om") (by walk_at "om") (by walk_at "om") (by assumption)) (h := ?_); walk_at "pair"))
  k_with "call ref" => (with_reducible refine atc 79 ?_; k_dflt (refine PureCall.ints (C := c_normal _ _ _ _ _ _ _ (by walk_at "my get") (by assumption) (by walk_at "om") (by assumption)) (h := ?_); walk_at "ints"))
  k_with "call ref" => (with_reducible refine atc 100 ?_; k_dflt (refine PureCall.ints (C := c_common _ _ _ _ _ _ _ _ _ _ _ _ (by walk_at "my get") (by assumption) (by walk_at "my get") (by assumption) (by walk_at "om") (by walk_at "om") (by assumption)) (h := ?_); walk_at "ints"))
  k_with "my mem" => (first | exact List.Mem.head _ | (refine List.Mem.tail _ ?_; walk_at "my mem"))
  k_with "call ref" => (with_reducible refine atc 121 ?_; k_dflt (refine PureCall.int (C := c_plain _ _ _ _ _ _ _ _ (by walk_at "my get") (by assumption) (by walk_at "om") (by assumption)) (h := ?_); walk_at "int"))
  k_with "call ref" => (with_reducible refine atc 86 ?_; k_dflt (refine PureCall.ints (C := c_nat_of _ _ _ _ _ _ (by walk_at "om") (by walk_at "om")) (h := ?_); walk_at "ints"))
  trivial
end SN8
example : True := by
  k_with "call ref" => (with_reducible refine atc 128 ?_; k_dflt (refine PureCall.text (C := c_nat_text _ _ _ _ _ _ _ _ _ _ (by walk_at "my get") (by assumption) (by walk_at "om") (by assumption) (by assumption)) (h := ?_); walk_at "int"))
  trivial
theorem limbs_is_one {k y : Nat} (hk : 2 ≤ k) : limbs k y = [1] ↔ y = 1 := by
  constructor
  · intro h
    have h1 := limbs_whole (w := k) (by omega) y 0
    rw [h] at h1
    simp at h1
    omega
  · rintro rfl
    exact limbs_one hk
theorem str_app_assoc (x y z : Str) : x ++ y ++ z = x ++ (y ++ z) := by
  show Str.append (Str.append x y) z = Str.append x (Str.append y z)
  simp [Str.append, Array.append_assoc]
theorem str_app_empty (x : Str) : x ++ Str.empty = x := by
  show Str.append x Str.empty = x
  cases x
  simp [Str.append, Str.empty]
theorem ratText_one {b x y : Nat} {neg : Bool} (h : y = 1) : ratText b neg x y = (if neg = true then Str.ofString "-" else Str.ofString "") ++ shownN b x := by
  unfold ratText; rw [if_pos h, str_app_empty]
theorem ratText_ne {b x y : Nat} {neg : Bool} (h : ¬ y = 1) : ratText b neg x y = (if neg = true then Str.ofString "-" else Str.ofString "") ++ shownN b x ++ Str.ofString "/" ++ shownN b y := by
  unfold ratText; rw [if_neg h, str_app_assoc _ _ (shownN b y)]
section SN9
local macro_rules | `(tactic| walk_at "compareOp Eq ref ref") => `(tactic| ((with_reducible show wpAny _ _ (compareOp CmpOp.Eq (Value.ref _) (Value.ref _)) _ _ _); k_dflt (refine' ke_eq_ints ?ha ?hb ?hi ?hj ?hu ?_; (case ha => exact isList_of (by walk_at "my get")); (case hb => exact isList_of (ws := [_]) (by walk_at "my get")); (case hi => assumption); (case hj => exact .cons _ _ .nil); (case hu => ktr_units))))
local macro_rules | `(tactic| walk_at "pad") => `(tactic| skip)
example : True := by
  k_with_none
  k_with "my enter" => (refine' enterP ?k1_8126 ?k2_8126 ?k3_8126 ?k5_8126 ?kA_8126 ?kF_8126 ?kK_8126 ?k6_8126 ?k7_8126 ?k8_8126 ?kZ_8126 ?k9_8126 ?kB_8126 ?_ ?c2_8126 ?c3_8126 ?c4_8126 ?c5_8126; (case kA_8126 => exact rfl); (case kF_8126 => exact rfl); (case kK_8126 => assumption); (case k1_8126 => k_asm); (case k2_8126 => k_asm); (case k3_8126 => k_asm); (case k5_8126 => k_asm); (case k6_8126 => k_is); (case k7_8126 => k_is); (case k8_8126 => ktr_room); (case kZ_8126 => simp only [List.map_cons, List.map_nil, List.zip_cons_cons, List.zip_nil_left, List.zip_nil_right, List.reverse_cons, List.reverse_nil, List.nil_append, List.cons_append]; exact rfl); (case k9_8126 => exact BindsTo.of_eq rfl); (case c5_8126 => decide); (case kB_8126 => exact locs rfl); (case c2_8126 => exact rfl); (case c3_8126 => exact rfl); (case c4_8126 => exact rfl); k_whole; intro L' h' tk' F' N' B' X' T'; (try dsimp only); (try k_lift B'); (try k_fold))
  k_with "my enterC" => (refine' enterPC ?k1_8392 ?k2_8392 ?k3_8392 ?k5_8392 ?kA_8392 ?kF_8392 ?kK_8392 ?k6_8392 ?k7_8392 ?k8_8392 ?k9_8392 ?kB_8392 ?kD_8392 ?_ ?c2_8392 ?c3_8392 ?c4_8392; (case kA_8392 => exact rfl); (case kF_8392 => exact rfl); (case kK_8392 => assumption); (case k1_8392 => k_asm); (case k2_8392 => k_asm); (case k3_8392 => k_asm); (case k5_8392 => k_asm); (case k6_8392 => k_is); (case k7_8392 => k_is); (case k8_8392 => ktr_room); (case k9_8392 => exact BindsTo.of_eq rfl); (case kB_8392 => exact rfl); (case kD_8392 => decide +kernel); (case c2_8392 => exact rfl); (case c3_8392 => exact rfl); (case c4_8392 => exact rfl); k_whole; intro L' h' tk' cells' F' N' Y' B' X' T'; k_cells Y'; (try simp only [List.cons_append, List.nil_append] at N'); (try dsimp only); (try k_lift B'); (try k_fold))
  k_with "my keeps" => (first
  | exact True.intro
  | exact fun _ => True.intro
  | exact And.intro (fun o => mapFields_kd _ o) True.intro
  | exact And.intro (fun _ => And.intro rfl rfl) True.intro
  | assumption
  | (refine Keeps.bind ?_ fun _ => ?_ <;> walk_at "my keeps")
  | (split <;> walk_at "my keeps"))
  k_with "my get" => (first | exact News.get (by k_asm) (by assumption) | exact News.get (by k_asm) (by k_mem) | exact Fr.keep (by k_asm) _ _ (by assumption))
  k_with "om" => (first | assumption | omega)
  k_with "int" => (intro t' h' tk' F' N'; (try k_sweep); (try dsimp only))
  k_with "call ref" => (with_reducible refine atc 168 ?_; k_dflt (refine PureCall.int (C := c_whole _ _ _ _ _ _ _ _ (by walk_at "my get") (by assumption) (by walk_at "om") (by walk_at "om")) (h := ?_); walk_at "int"))
  k_with "ints" => (intro l' ws' e' h' tk' I' F' N' l1; (try simp only [AllNe, and_true] at l1); (try k_sweep); (try dsimp only))
  k_with "call ref" => (with_reducible refine atc 163 ?_; k_dflt (refine PureCall.ints (C := c_limbs _ _ _ _ _ _ (by walk_at "om") (by walk_at "om")) (h := ?_); walk_at "ints"))
  k_with "pair" => (intro t' l' l2' ws' e' us' e2' h' tk' I' I2' F' N' l1 l2 l3; (try simp only [AllNe, and_true] at l1 l2 l3); (try k_sweep); (try dsimp only))
  k_with "call ref" => (with_reducible refine atc 182 ?_; k_dflt (refine PureCall.pair (C := c_divrem _ _ _ _ _ _ _ _ _ _ _ _ (by walk_at "my get") (by assumption) (by walk_at "my get") (by assumption) (by walk_at "om") (by walk_at "om") (by walk_at "om") (by assumption)) (h := ?_); walk_at "pair"))
  k_with "call ref" => (with_reducible refine atc 79 ?_; k_dflt (refine PureCall.ints (C := c_normal _ _ _ _ _ _ _ (by walk_at "my get") (by assumption) (by walk_at "om") (by assumption)) (h := ?_); walk_at "ints"))
  k_with "call ref" => (with_reducible refine atc 100 ?_; k_dflt (refine PureCall.ints (C := c_common _ _ _ _ _ _ _ _ _ _ _ _ (by walk_at "my get") (by assumption) (by walk_at "my get") (by assumption) (by walk_at "om") (by walk_at "om") (by assumption)) (h := ?_); walk_at "ints"))
  k_with "my mem" => (first | exact List.Mem.head _ | (refine List.Mem.tail _ ?_; walk_at "my mem"))
  k_with "call ref" => (with_reducible refine atc 121 ?_; k_dflt (refine PureCall.int (C := c_plain _ _ _ _ _ _ _ _ (by walk_at "my get") (by assumption) (by walk_at "om") (by assumption)) (h := ?_); walk_at "int"))
  k_with "call ref" => (with_reducible refine atc 86 ?_; k_dflt (refine PureCall.ints (C := c_nat_of _ _ _ _ _ _ (by walk_at "om") (by walk_at "om")) (h := ?_); walk_at "ints"))
  k_with "call ref" => (with_reducible refine atc 128 ?_; k_dflt (refine PureCall.text (C := c_nat_text _ _ _ _ _ _ _ _ _ _ (by walk_at "my get") (by assumption) (by walk_at "om") (by assumption) (by assumption)) (h := ?_); walk_at "int"))
  k_with "my len" => (rw [sizeLine_eq]; simp only [slen_app, slen_minus, slen_slash, slen_none, slen_empty]; omega)
  k_with "binaryOp Add str str" => (refine add_str ?_ (by walk_at "my len"); intro _ _)
  trivial
set_option maxHeartbeats 4000000 in
theorem c_r_text (w : World) (h : Heap) (x y b k : Nat) (neg : Bool) (t tp p q : Addr) (ws us : List Value) (e e2 : Nat) (u u2 : Tok) (ht : h.get? t = some (tup #[.ref tp, .ref q])) (htp : h.get? tp = some (tup #[.bool neg, .ref p]))
    (ha : h.get? p = some (W.listOf ws.toArray e)) (hI : IntsAre ws (limbs k x)) (hc : h.get? q = some (W.listOf us.toArray e2)) (hJ : IntsAre us (limbs k y))
    (hx : x < 2 ^ 64) (hy : y < 2 ^ 64) (hb : 2 ≤ b ∧ b ≤ 36) (hk : 2 ≤ k ∧ k ≤ 9) : PureCall w 135 17 [.ref t, .int b u2, .int k u, .ref 182] h (fun v _ => ∃ t, v = .str (ratText b neg x y) t) := by
  unfold PureCall
  intro prog mean mg mb dp un gd cn cs a ccd cl outer A₀ base h₀ L m s Q E hs B F X T hkd hd hu hret
  subst hs
  have hL := isList_of ha
  have hL2 := isList_of hc
  have hT : IsTup s.heap t #[.ref tp, .ref q] := ⟨_, ht, rfl, _, rfl⟩
  have hT2 : IsTup s.heap tp #[.bool neg, .ref p] := ⟨_, htp, rfl, _, rfl⟩
  have hlen := limbs_len hx (w := k)
  have hlen2 := limbs_len hy (w := k)
  have hws := hI.length
  have hus := hJ.length
  have hsl := shownN_len (b := b) (by omega) hx
  have hsl2 := shownN_len (b := b) (by omega) hy
  k_dflt (walk_at "my enter")
  k_steps
  all_goals
    rename Fr _ _ _ _ => F9
    refine hret _ _ _ F9.keep ⟨_, congrArg (Value.str · _) ?_⟩
    symm
    first
    | (rename limbs k y = [1] => hy0
       have hy1 : y = 1 := (limbs_is_one (k := k) hk.1).mp hy0
       rw [ratText_one hy1])
    | (rename ¬ limbs k y = [1] => hy0
       have hy1 : ¬ y = 1 := fun h => absurd ((limbs_is_one (k := k) hk.1).mpr h) hy0
       rw [ratText_ne hy1])
    first
    | (rename neg = true => hng; rw [if_pos hng])
    | (rename neg = false => hng; subst hng; rfl)
example : True := by
  k_with_none
  k_with "my enter" => (refine' enterP ?k1_8126 ?k2_8126 ?k3_8126 ?k5_8126 ?kA_8126 ?kF_8126 ?kK_8126 ?k6_8126 ?k7_8126 ?k8_8126 ?kZ_8126 ?k9_8126 ?kB_8126 ?_ ?c2_8126 ?c3_8126 ?c4_8126 ?c5_8126; (case kA_8126 => exact rfl); (case kF_8126 => exact rfl); (case kK_8126 => assumption); (case k1_8126 => k_asm); (case k2_8126 => k_asm); (case k3_8126 => k_asm); (case k5_8126 => k_asm); (case k6_8126 => k_is); (case k7_8126 => k_is); (case k8_8126 => ktr_room); (case kZ_8126 => simp only [List.map_cons, List.map_nil, List.zip_cons_cons, List.zip_nil_left, List.zip_nil_right, List.reverse_cons, List.reverse_nil, List.nil_append, List.cons_append]; exact rfl); (case k9_8126 => exact BindsTo.of_eq rfl); (case c5_8126 => decide); (case kB_8126 => exact locs rfl); (case c2_8126 => exact rfl); (case c3_8126 => exact rfl); (case c4_8126 => exact rfl); k_whole; intro L' h' tk' F' N' B' X' T'; (try dsimp only); (try k_lift B'); (try k_fold))
  k_with "my enterC" => (refine' enterPC ?k1_8392 ?k2_8392 ?k3_8392 ?k5_8392 ?kA_8392 ?kF_8392 ?kK_8392 ?k6_8392 ?k7_8392 ?k8_8392 ?k9_8392 ?kB_8392 ?kD_8392 ?_ ?c2_8392 ?c3_8392 ?c4_8392; (case kA_8392 => exact rfl); (case kF_8392 => exact rfl); (case kK_8392 => assumption); (case k1_8392 => k_asm); (case k2_8392 => k_asm); (case k3_8392 => k_asm); (case k5_8392 => k_asm); (case k6_8392 => k_is); (case k7_8392 => k_is); (case k8_8392 => ktr_room); (case k9_8392 => exact BindsTo.of_eq rfl); (case kB_8392 => exact rfl); (case kD_8392 => decide +kernel); (case c2_8392 => exact rfl); (case c3_8392 => exact rfl); (case c4_8392 => exact rfl); k_whole; intro L' h' tk' cells' F' N' Y' B' X' T'; k_cells Y'; (try simp only [List.cons_append, List.nil_append] at N'); (try dsimp only); (try k_lift B'); (try k_fold))
  k_with "my keeps" => (first
  | exact True.intro
  | exact fun _ => True.intro
  | exact And.intro (fun o => mapFields_kd _ o) True.intro
  | exact And.intro (fun _ => And.intro rfl rfl) True.intro
  | assumption
  | (refine Keeps.bind ?_ fun _ => ?_ <;> walk_at "my keeps")
  | (split <;> walk_at "my keeps"))
  k_with "my get" => (first | exact News.get (by k_asm) (by assumption) | exact News.get (by k_asm) (by k_mem) | exact Fr.keep (by k_asm) _ _ (by assumption))
  k_with "om" => (first | assumption | omega)
  k_with "int" => (intro t' h' tk' F' N'; (try k_sweep); (try dsimp only))
  k_with "call ref" => (with_reducible refine atc 168 ?_; k_dflt (refine PureCall.int (C := c_whole _ _ _ _ _ _ _ _ (by walk_at "my get") (by assumption) (by walk_at "om") (by walk_at "om")) (h := ?_); walk_at "int"))
  k_with "ints" => (intro l' ws' e' h' tk' I' F' N' l1; (try simp only [AllNe, and_true] at l1); (try k_sweep); (try dsimp only))
  k_with "call ref" => (with_reducible refine atc 163 ?_; k_dflt (refine PureCall.ints (C := c_limbs _ _ _ _ _ _ (by walk_at "om") (by walk_at "om")) (h := ?_); walk_at "ints"))
  k_with "pair" => (intro t' l' l2' ws' e' us' e2' h' tk' I' I2' F' N' l1 l2 l3; (try simp only [AllNe, and_true] at l1 l2 l3); (try k_sweep); (try dsimp only))
  k_with "call ref" => (with_reducible refine atc 182 ?_; k_dflt (refine PureCall.pair (C := c_divrem _ _ _ _ _ _ _ _ _ _ _ _ (by walk_at "my get") (by assumption) (by walk_at "my get") (by assumption) (by walk_at "om") (by walk_at "om") (by walk_at "om") (by assumption)) (h := ?_); walk_at "pair"))
  k_with "call ref" => (with_reducible refine atc 79 ?_; k_dflt (refine PureCall.ints (C := c_normal _ _ _ _ _ _ _ (by walk_at "my get") (by assumption) (by walk_at "om") (by assumption)) (h := ?_); walk_at "ints"))
  k_with "call ref" => (with_reducible refine atc 100 ?_; k_dflt (refine PureCall.ints (C := c_common _ _ _ _ _ _ _ _ _ _ _ _ (by walk_at "my get") (by assumption) (by walk_at "my get") (by assumption) (by walk_at "om") (by walk_at "om") (by assumption)) (h := ?_); walk_at "ints"))
  k_with "my mem" => (first | exact List.Mem.head _ | (refine List.Mem.tail _ ?_; walk_at "my mem"))
  k_with "call ref" => (with_reducible refine atc 121 ?_; k_dflt (refine PureCall.int (C := c_plain _ _ _ _ _ _ _ _ (by walk_at "my get") (by assumption) (by walk_at "om") (by assumption)) (h := ?_); walk_at "int"))
  k_with "call ref" => (with_reducible refine atc 86 ?_; k_dflt (refine PureCall.ints (C := c_nat_of _ _ _ _ _ _ (by walk_at "om") (by walk_at "om")) (h := ?_); walk_at "ints"))
  k_with "call ref" => (with_reducible refine atc 128 ?_; k_dflt (refine PureCall.text (C := c_nat_text _ _ _ _ _ _ _ _ _ _ (by walk_at "my get") (by assumption) (by walk_at "om") (by assumption) (by assumption)) (h := ?_); walk_at "int"))
  trivial
end SN9
noncomputable abbrev badCls : Obj := excClassObj (Str.ofString "BadText") (Str.ofString "BadText") 58 57 [.ref 24] [.ref 24, .type "Exception", .type "BaseException", .type "object"] true [] [] false none none
  (some (.ref 40)) none (some (.str (Str.ofString "BadText") 225)) (some (.str (Str.ofString "BadText") 233)) (some (.bool true)) "Exception.__new__"
theorem bad_cls {P : Params} {h : Heap} (X : (Mine.hd.heap_1 P).In h) : h.get? 58 = some badCls := X 58 _ (by rfl)
theorem bad_tail {P : Params} {h : Heap} (X : (Mine.hd.heap_1 P).In h) : OwnTail h [.type "Exception", .type "BaseException", .type "object"] [.ref 24, .type "Exception", .type "BaseException", .type "object"] :=
  tail_of_in X (by kernel_rfl)
theorem bad_ns {P : Params} {h : Heap} (X : (Mine.hd.heap_1 P).In h) : h.Ns 57 (h.nsMap 57) := .of_isNs (isNs_of_in X (by kernel_rfl))
theorem bad_own {P : Params} {h : Heap} (X : (Mine.hd.heap_1 P).In h) : nsIn (Mine.hd.heap_1 P) 57 (Str.ofString "__init__") = some (some (.ref 55)) := by k_is
noncomputable abbrev recObj (t : Addr) (d : Option Addr) : Obj := { cls := .ref 58, dict := d, data := .fields #[.ref t, .none, .none, .none, .bool false, .none] }
theorem bad_find {P : Params} : findIn (Mine.hd.heap_1 P) (.ref 58) (Str.ofString "__init__") = some (some (.ref 55)) := by k_is
theorem bad_fn {P : Params} : typeIn (Mine.hd.heap_1 P) (.ref 55) = some (.type "function") := by k_is
section
variable {prog : Program} {w : World} {A : Around} {R : Result → Shared → Prop} {h : Heap} {g : Array GenState} {d : Drawn} {t : Nat} {os : OsState}
theorem bad_core {rest : List Value} (X : (Mine.hd.heap_1 w.params).In h) (hrest : rest.length ≤ sizeLine)
    (hq : codeAny (model prog w) (A.under (.builtin "type.__call__" ⟨.ref 58 :: rest, []⟩)) (.call (.ref 55) ⟨.ref (h.objs.size + 1) :: rest, []⟩) (InitBack (h.objs.size + 1) R)
      ⟨(h.push { cls := .type "tuple", data := .seq rest.toArray }).push (recObj h.objs.size none), g, d, t, os⟩) :
    codeAny (model prog w) A (.call (.ref 58) ⟨rest, []⟩) R ⟨h, g, d, t, os⟩ := by
  have hC := bad_cls X
  have TL := bad_tail X
  have FB := PySem.F.excBase_Exception
  have f1 := tc_lookup
  have f2 := tc_bind (.ref 58)
  have hT : (⟨h, g, d, t, os⟩ : Shared).TypeIs (.ref 58) "type" := ⟨_, hC, rfl⟩
  refine codeAny_of_tree ?_
  show wpAny _ _ (callAny (.ref 58) _) _ _ _
  repeat (any_goals (first | assumption | with_reducible refine wpAny_loadPart_at hC ?_ | wp_step))
  refine ⟨rfl, ?_⟩
  refine codeAny_call_builtin_at (Code.quiet_builtin _ (by decide +kernel)) entry_typeCall (wpAny_check_type_call_sub hC ?_)
  repeat (first | with_reducible refine wpAny_loadPart_at hC ?_ | with_reducible refine wpAny_madeBy_exc hC ?_ | wp_step)
  refine codeAny_call_builtin_code (Code.quiet_builtin _ FB.quiet) (wpAny_check_new_subT FB TL hC ?_)
  refine codeAny_exc_new_subT FB TL hC ?_ hrest
  show wpAny _ _ _ _ _ _
  have k : ∀ b o, h.get? b = some o → ((h.push { cls := .type "tuple", data := .seq rest.toArray }).push (recObj h.objs.size none)).get? b = some o := fun b o e => Heap.get?_push_of_some _ (Heap.get?_push_of_some _ e)
  have X₁ := X.keeps k
  have hC₁ := k _ _ hC
  have hget : ((h.push { cls := .type "tuple", data := .seq rest.toArray }).push (recObj h.objs.size none)).get? (h.objs.size + 1) = some { cls := .ref 58, data := .fields #[.ref h.objs.size, .none, .none, .none, .bool false, .none] } := by heap_get
  unfold isInstance
  repeat (first | with_reducible refine wpAny_loadPart_at hget ?_ | wp_step)
  refine wpAny_isSubtype_exc hC₁ ?_
  simp only [List.contains_cons, beq_self_eq_true, Bool.true_or, Bool.not_true]
  repeat wp_step
  show wpAny _ _ (typeLookup (.ref 58) _) _ _ _
  refine Looks.at (looks_findIn X₁ bad_find) ?_
  refine wpAny_holding (wpAny_bind (Looks.at (bind_fn X₁ _ bad_fn) ?_))
  refine wpAny_bind (wpAny_call (codeAny_mono hq fun r s' z => ?_))
  rcases r with e | (v | _ | _ | _) <;> first | exact z | exact z.elim | skip
  obtain ⟨rfl, z⟩ := z
  wp_walk
  exact z
end
theorem slot_wd_get : Slot "wrapper_descriptor" "__get__" "wrapper_descriptor.__get__" := .of (owner := "wrapper_descriptor") (n := "__get__") (by rw [typeLookup_type, builtinLookup_eq_fast]; kernel_rfl) (by decide +kernel) (by decide +kernel) (by decide +kernel)
  (by first | exact .inl (by decide +kernel) | exact .inr (by decide +kernel)) (by rw [isSubtype_type]; kernel_rfl)
theorem entry_wd_get : entryFor table "wrapper_descriptor.__get__" = some Builtin.«wrapper_descriptor.__get__» := entryFor_of_tree (by kernel_rfl)
theorem args_wd_get (a b c : Value) : argsOk "wrapper_descriptor.__get__" ⟨[a, b, c], []⟩ := by unfold argsOk; kernel_rfl
theorem bad_along {P : Params} : alongIn (Mine.hd.heap_1 P) (Str.ofString "__init__") [.ref 24, .type "Exception", .type "BaseException", .type "object"] = some (some (.builtin "Exception.__init__")) := by kernel_rfl
theorem type_ei : typeOf (.builtin "Exception.__init__") = pure (.type "wrapper_descriptor") := by show builtinType _ = _; rw [builtinType_eq_fast]; kernel_rfl
noncomputable abbrev wrapObj (e : Addr) : Obj := { cls := .type "method-wrapper", dict := none, data := .fields #[.builtin "Exception.__init__", .ref e], slots := #[] }
section
variable {prog : Program} {w : World} {A : Around} {E : Value → Shared → Prop} {h : Heap} {g : Array GenState} {d : Drawn} {t : Nat} {os : OsState}
theorem wd_get {x : Addr} {ox : Obj} {Q : Fin → Shared → Prop} (X : (Mine.hd.heap_1 w.params).In h) (hx : h.get? x = some ox) (hxc : ox.cls = .ref 58)
    (hq : Q (.done (.ret (.ref h.objs.size))) ⟨h.push (wrapObj x), g, d, t, os⟩) :
    wpAny (model prog w) A (Builtin.«wrapper_descriptor.__get__» ⟨[.builtin "Exception.__init__", .ref x, .ref 58], []⟩) Q E ⟨h, g, d, t, os⟩ := by
  have hC := bad_cls X
  unfold Builtin.«wrapper_descriptor.__get__»
  repeat (first | (with_reducible refine wpAny_loadPart_at hx ?_; rw [hxc]) | (with_reducible refine wpAny_isSubtype_exc hC ?_) | wp_step)
  exact hq
theorem bad_super {so x : Addr} {ox : Obj} {tk : Tok} {Q : Fin → Shared → Prop} (X : (Mine.hd.heap_1 w.params).In h) (hso : h.get? so = some { cls := .type "super", dict := none, data := .fields #[.ref 58, .ref x, .ref 58], slots := #[] })
    (hx : h.get? x = some ox) (hxc : ox.cls = .ref 58) (hxC : x ≠ 58)
    (hq : Q (.done (.ret (.ref h.objs.size))) ⟨h.push (wrapObj x), g, d, t, os⟩) :
    wpAny (model prog w) A (Builtin.«super.__getattribute__» ⟨[.ref so, .str (Str.ofString "__init__") tk], []⟩) Q E ⟨h, g, d, t, os⟩ := by
  have hC := bad_cls X
  have hlk := slot_wd_get.lookup
  have hne : (Value.ref x == Value.ref 58) = false := by simp [hxC]
  have hdt : ({ cls := .type "super", dict := none, data := .fields #[.ref 58, .ref x, .ref 58], slots := #[] } : Obj).data = .fields #[.ref 58, .ref x, .ref 58] := rfl
  have f0 : (#[.ref 58, .ref x, .ref 58] : Array Value)[0]? = some (.ref 58) := rfl
  have f1 : (#[.ref 58, .ref x, .ref 58] : Array Value)[1]? = some (.ref x) := rfl
  have f2 : (#[.ref 58, .ref x, .ref 58] : Array Value)[2]? = some (.ref 58) := rfl
  have hno : Looks (model prog w) h (opaqueClassAbove (.ref 58)) none := looks_opaque X (by k_is)
  have hn : (Str.ofString "__init__" == ("__class__" : Str)) = false := by decide
  have hti := type_ei
  have hTf : (⟨h, g, d, t, os⟩ : Shared).TypeIs (.builtin "Exception.__init__") "wrapper_descriptor" := type_ei
  unfold Builtin.«super.__getattribute__»
  repeat (first
    | (with_reducible refine wpAny_field hso hdt f0 ?_) | (with_reducible refine wpAny_field hso hdt f1 ?_) | (with_reducible refine wpAny_field hso hdt f2 ?_)
    | (with_reducible refine ks_wpAny_notOpaque hno ?_)
    | (with_reducible refine wpAny_mroOf_exc hC ?_)
    | (refine ks_forIn_along X (fun _ _ => rfl) rfl ?_ bad_along)
    | (with_reducible refine wpAny_typeOf hTf ?_)
    | (with_reducible refine ⟨_, rfl, ?_⟩)
    | (simp only [hn, hne, Bool.or_false, Bool.false_eq_true, if_false])
    | wp_step
    | dsimp only)
  refine codeAny_call_builtin slot_wd_get.plain entry_wd_get (slot_wd_get.check _ _ _ _ _ _ _ _ hTf (args_wd_get _ _ _) (wd_get X hx hxc ?_))
  repeat wp_step
  exact hq
end
section
variable {prog : Program} {w : World} {A : Around} {E : Value → Shared → Prop} {s : Shared} {h₀ : Heap} {L so x tp : Addr} {dd : Option Addr} {m : Str → Option Value} {news : List (Addr × Obj)}
theorem bad_method {pl : Sem Bool} {Q : Value × List Value → Shared → Prop} (F : Fr h₀ L s.heap m) (X : (Mine.hd.heap_1 w.params).In h₀) (N : News h₀ L s.heap news) (hso : (so, ks_superObj 58 x 58) ∈ news) (hx : (x, recObj tp dd) ∈ news)
    (h : ∀ q h', Fr h₀ L h' m → News h₀ L h' ((q, wrapObj x) :: news) → (∀ p ∈ news, p.1 < q) → Q (.ref q, []) { s with heap := h', toks := s.toks + 1 }) :
    wpAny (model prog w) A (getMethod (.ref so) (Str.ofString "__init__") pl) Q E s := by
  have XH := X.keeps F.keep
  have hxC : x ≠ 58 := fun e => by have := (N _ hx).2.2; rw [show (x, recObj tp dd).1 = 58 from e, bad_cls X] at this; cases this
  have Nso := (N _ hso).1
  have Nx := (N _ hx).1
  obtain ⟨hh, g, d, t, os⟩ := s
  have hT : ∀ t', (⟨hh, g, d, t', os⟩ : Shared).TypeIs (.ref so) "super" := fun _ => ⟨_, Nso, rfl⟩
  unfold getMethod
  refine wpAny_bind (wpAny_specialOf (hT _) PySem.F.ks_slot_super_ga.lookup ?_)
  show wpAny _ _ (if (Manifest.canonical "super.__getattribute__" != "object.__getattribute__") = true then _ else _) _ _ _
  rw [if_pos PySem.F.ks_canon_super_ga]
  unfold getAttr getAttrBy
  refine wpAny_bind (wpAny_bind (wpAny_mkText (wpAny_holding (wpAny_bind (wpAny_typeOf (hT _) (wpAny_bind (wpAny_of_eq PySem.F.ks_slot_super_ga.lookup ?_)))))))
  show wpAny _ _ (getAttrByItsOwn (.ref so) (.str (Str.ofString "__init__") t) (.type "super") (.builtin "super.__getattribute__") true false) _ _ _
  unfold getAttrByItsOwn hookBefore callGetattribute boundAndCalled
  refine wpAny_bind (wpAny_of_eq (show (if onTheHeap (.type "super") then typeLookup (.type "super") "__getattr__" else pure none) = pure none from rfl) ?_)
  refine wpAny_bind (wpAny_attempt (wpAny_holding ?_))
  show wpAny _ _ (bindSpecial (.builtin "super.__getattribute__") (.ref so) >>= _) _ _ _
  refine wpAny_bind (wpAny_of_eq (PySem.F.ks_slot_super_ga.bind _) ?_)
  refine wpAny_mono (Q := fun v s' => v = .ref hh.objs.size ∧ s' = ⟨hh.push (wrapObj x), g, d, t + 1, os⟩) (E := fun _ _ => False)
    (wpAny_call_entry PySem.F.ks_slot_super_ga (hT _) PySem.F.ks_entry_super_ga (bad_super XH Nso Nx rfl hxC ⟨_, rfl, rfl, rfl⟩) (PySem.F.ks_gaArgs_super _ _)) (fun v s' hv => ?_) fun _ _ z => z.elim
  obtain ⟨rfl, rfl⟩ := hv
  obtain ⟨F', N', l'⟩ := ks_newsPush (s := ⟨hh, g, d, t, os⟩) (o := wrapObj x) F N rfl (Heap.get?_push_at rfl rfl) (fun b o e => Heap.get?_push_of_some _ e)
  exact wpAny_pure (wpAny_pure (h _ _ F' N' l'))
noncomputable def WrapP (q x : Addr) (h : Heap) : Prop := h.get? q = some (wrapObj x)
theorem keeps_W {M : Model} {q : Addr} (h : Heap) (X : WrapP q x h) : ∃ k, (k = Keeper.frame ∨ k = Keeper.machine ∨ k = Keeper.boundFrame) ∧ Looks M h (keeperOf (.ref q)) k :=
  ⟨.machine, .inr (.inl rfl), (Looks.ld (part := none) X).andThen .now⟩
theorem bad_callWith {q : Addr} {first : List Value} {pos : Pos} {env : Env} {e : Expr} {rest : List Expr} {Q : Value → Shared → Prop} (_N : News h₀ L s.heap news) (_q : (q, wrapObj x) ∈ news)
    (h : wpAny (model prog w) A (spliced (backTo pos (starEach (e :: rest) env))) (fun vs s₁ => WrapP q x s₁.heap ∧ wpAny (model prog w) A (call (.ref q) (first ++ vs)) Q E s₁) E s)
    (he : starEach (e :: rest) env = (false, eval e env) :: starEach rest env := by rfl) (hplain : (backTo pos (starEach rest env)).any (·.1) = false := by rfl) :
    wpAny (model prog w) A (callWith pos (.ref q) first (backTo pos (starEach (e :: rest) env)) []) Q E s := by
  rw [he] at h ⊢
  exact callWith_of (by show ((false || (backTo pos (starEach rest env)).any (·.1)) || false) = false; rw [hplain]; rfl) keeps_W (evalArgs_plain h)
theorem ei_args {M : Model} {h : Heap} {g : Array GenState} {d : Drawn} {t : Nat} {os : OsState} {t₀ : Addr} (b : Value) {Q : Unit → Shared → Prop} (hC : h.get? 58 = some badCls)
    (he : h.get? x = some { cls := .ref 58, dict := none, data := .fields #[.ref t₀, .none, .none, .none, .bool false, .none] }) (hq : Q () ⟨h, g, d, t, os⟩) : wpAny M A (checkBoundCall "Exception.__init__" ⟨[.ref x, b], []⟩) Q E ⟨h, g, d, t, os⟩ := by
  have FB := PySem.F.excBase_Exception
  have hshort := FB.noStar
  simp only [checkBoundCall, FB.initKind, FB.initRow]
  rw [if_pos (by decide)]
  repeat (first | (with_reducible refine wpAny_loadPart_at he ?_) | with_reducible refine wpAny_loadPart_at hC ?_ | wp_step)
  exact hq
theorem bad_bound {q : Addr} {v : Value} {pre post : List (Addr × Obj)} {Q : Value → Shared → Prop} (F : Fr h₀ L s.heap m) (X : (Mine.hd.heap_1 w.params).In h₀) (N : News h₀ L s.heap (pre ++ (x, recObj tp none) :: post)) (hq : (q, wrapObj x) ∈ pre ++ (x, recObj tp none) :: post)
    (h1 : ∀ p ∈ pre, p.1 ≠ x) (h2 : ∀ p ∈ post, p.1 ≠ x)
    (h : ∀ t h', Fr h₀ L h' m → News h₀ L h' (pre ++ (x, recObj t none) :: post) → Q .none { s with heap := h' }) :
    wpAny (model prog w) A (call (.ref q) [v]) Q E s := by
  have Nq := (N _ hq).1
  refine wpAny_call (codeAny_of_tree ?_)
  show wpAny _ _ (callAny (.ref q) _) _ _ _
  unfold callAny
  refine wpAny_bind (wpAny_load Nq ?_)
  have Nx := (N _ (List.mem_append_right _ (.head _))).1
  have hC := F.keep _ _ (bad_cls X)
  obtain ⟨hh, g, d, t, os⟩ := s
  refine wpAny_bind (ei_args _ hC Nx ?_)
  refine wpAny_pure ⟨Code.quiet_builtin _ (by decide +kernel), codeAny_builtin PySem.F.excBase_Exception.initEntry ?_⟩
  show wpAny _ _ (Builtin.«BaseException.__init__» ⟨[.ref x, v], []⟩) _ _ _
  unfold Builtin.«BaseException.__init__»
  repeat (first | (with_reducible refine wpAny_field (Heap.get?_push_of_some _ Nx) rfl rfl ?_) | (with_reducible refine wpAny_setField (Heap.get?_push_of_some _ Nx) rfl (by decide) ?_) | wp_step)
  have Np : News h₀ L (hh.push { cls := .type "tuple", data := .seq #[v] }) (pre ++ (x, recObj tp none) :: post) := fun p hp => ⟨Heap.get?_push_of_some _ (N p hp).1, (N p hp).2⟩
  obtain ⟨F', N'⟩ := news_upd (f := Obj.mapFields fun y => y.setIfInBounds 0 (Value.ref hh.objs.size)) (F.push _) Np h1 h2 (o' := recObj hh.objs.size none) rfl rfl
  exact h _ _ F' N'
end
theorem bad_at {P : Params} : findIn (Mine.hd.heap_1 P) (.ref 58) (Str.ofString "at") = some none := by k_is
theorem bad_sa {P : Params} : findIn (Mine.hd.heap_1 P) (.ref 58) (Str.ofString "__setattr__") = some (some (.builtin "object.__setattr__")) := by k_is
section
variable {prog : Program} {w : World} {A : Around} {R : Result → Shared → Prop} {s : Shared} {h₀ : Heap} {L x tp : Addr} {m : Str → Option Value}
theorem osa_bad {v : Value} {tk : Tok} {post : List (Addr × Obj)} (F : Fr h₀ L s.heap m) (X : (Mine.hd.heap_1 w.params).In h₀) (N : News h₀ L s.heap ((x, recObj tp none) :: post)) (h2 : ∀ p ∈ post, p.1 ≠ x)
    (h : ∀ d h' tk' hs t', Fr h₀ L h' m → News h₀ L h' ((d, dictOf [⟨hs, .str (Str.ofString "at") t', v⟩] 1) :: (x, recObj tp (some d)) :: post) → (∀ p ∈ post, p.1 ≠ d) → x ≠ d → R (.ok (.ret .none)) { s with heap := h', toks := tk' }) :
    codeAny (model prog w) A (.call (.builtin "object.__setattr__") ⟨[.ref x, .str (Str.ofString "at") tk, v], []⟩) R s := by
  have SF := PySem.F.store_Exception
  have XH := X.keeps F.keep
  have hC := F.keep _ _ (bad_cls X)
  have Nx := (N _ (.head _)).1
  have I : InstAt s.heap x (recObj tp none) 58 none := ⟨Nx, rfl, rfl, trivial⟩
  have ty : Looks (model prog w) s.heap (typeOf (.ref x)) (.ref 58) := (Looks.ld Nx).andThen .now
  have sub : Looks (model prog w) s.heap (isInstance (.ref x) (.type "object")) true := I.type.andThen (looks_mroIn XH (by k_is))
  refine codeAny_call_builtin SF.slot.plain SF.entry (@check_slot (model prog w) _ _ s "object.__setattr__" "object" "__setattr__" (.ref x) [.str (Str.ofString "at") tk, v] [] _ SF.kind SF.split sub (SF.args (.ref x) (.str (Str.ofString "at") tk) v) ?_)
  rw [osa_eq, refuse_eq]
  obtain ⟨hh, g, d, t, os⟩ := s
  refine wpAny_bind (wpAny_bind (I.type.here (wpAny_bind (wpAny_mroOf_exc hC ?_))))
  rw [refuseLoop_ref, refuseLoop_ref, SF.passes]
  refine wpAny_pure (wpAny_bind (I.type.here (wpAny_bind ((looks_findIn XH bad_at).here (wpAny_bind ?_)))))
  refine wpAny_pure ?_
  refine wpAny_bind (wpAny_pure (wpAny_bind (wpAny_bind (wpAny_loadPart Nx (wpAny_bind ?_)))))
  unfold classData
  refine wpAny_bind (wpAny_load hC (wpAny_pure ?_))
  have hsz : x < hh.objs.size := Heap.lt_size Nx
  have hxd : x ≠ hh.objs.size := Nat.ne_of_lt hsz
  have hpd : ∀ p ∈ post, p.1 ≠ hh.objs.size := fun p hp => Nat.ne_of_lt (Heap.lt_size (N p (.tail _ hp)).1)
  have N1 := N.push F emptyDict
  obtain ⟨F2, N2⟩ := news_upd (f := fun o => { cls := o.cls, dict := some hh.objs.size, data := o.data, slots := o.slots }) (pre := [(hh.objs.size, emptyDict)]) (F.push emptyDict) N1 (fun p hp => by rw [List.mem_singleton.mp hp]; exact hxd.symm) h2 (o' := recObj tp (some hh.objs.size)) rfl rfl
  refine wpAny_bind (wpAny_alloc' ?_)
  refine wpAny_bind (wpAny_update' (N1 _ (.tail _ (.head _))).1 ?_)
  refine wpAny_pure ?_
  show wpAny _ _ (Builtin.ObjectAttr.storeInDict hh.objs.size (Value.str (Str.ofString "at") tk) (Str.ofString "at") v) _ _ _
  unfold Builtin.ObjectAttr.storeInDict Builtin.ObjectAttr.newKeyGuard
  refine wpAny_bind (wpAny_pure (wpAny_bind ?_))
  unfold nsSet
  have D := (N2 _ (.head _)).1
  obtain ⟨F3, N3⟩ := news_upd (f := Obj.putName (Str.ofString "at") (PyData.keyHash w.params (Str.ofString "at")) (.str (Str.ofString "at") t) v) (pre := []) F2 N2 (fun _ h => nomatch h) (fun p hp => by
    rcases List.mem_cons.mp hp with rfl | hp
    · exact hxd
    · exact hpd p hp) (putName_dict _ _ _ _ _ _) rfl
  refine wpAny_bind (wpAny_bind (wpAny_askSetting (wpAny_pure (wpAny_bind (wpAny_mkText (wpAny_bind (wpAny_loadPart D ?_)))))))
  refine wpAny_updatePart D ?_
  refine wpAny_bind (wpAny_lookBehind (N3 _ (.head _)).1 (pastItsLine_dict (by rw [List.size_toArray, sizeLine_eq]; show 1 ≤ _; omega)) ?_)
  exact wpAny_pure (h _ _ _ _ _ F3 N3 hpd hxd)
theorem bad_set {E : Value → Shared → Prop} {Q : Unit → Shared → Prop} {v : Value} {post : List (Addr × Obj)} (F : Fr h₀ L s.heap m) (X : (Mine.hd.heap_1 w.params).In h₀) (N : News h₀ L s.heap ((x, recObj tp none) :: post)) (h2 : ∀ p ∈ post, p.1 ≠ x)
    (h : ∀ d h' tk' hs t', Fr h₀ L h' m → News h₀ L h' ((d, dictOf [⟨hs, .str (Str.ofString "at") t', v⟩] 1) :: (x, recObj tp (some d)) :: post) → (∀ p ∈ post, p.1 ≠ d) → x ≠ d → Q () { s with heap := h', toks := tk' }) :
    wpAny (model prog w) A (setAttr (.ref x) (Str.ofString "at") v) Q E s := by
  have XH := X.keeps F.keep
  have I : InstAt s.heap x (recObj tp none) 58 none := ⟨(N _ (.head _)).1, rfl, rfl, trivial⟩
  exact set_plain XH I bad_sa (osa_bad (s := { s with toks := s.toks + 1 }) F X N h2 h)
end
section
variable {prog : Program} {w : World} {A₀ A : Around} {s : Shared} {base h₀ : Heap} {outer : List Env} {L : Addr} {m mg mb : Str → Option Value} {env : Env} {news : List (Addr × Obj)} {K : Frag} {p : Program} {loose : List Str} {mean : ExcName → Option Value}
  {R : Result → Shared → Prop} {name qual : Str} {params : Arguments} {body : List Stmt} {scope : Scope} {dV kV doc pm cdv ct oc : Value} {an od : Option Addr} {osl : Array (Option Value)} {f cc : Addr} {args : Args} {binds : List (Str × Value)}
theorem enterS (B : Below A₀ base outer h₀) (F : Fr h₀ L s.heap m) (X₀ : K.In h₀) (N : News h₀ L s.heap news) (T : Top p loose mean mg mb h₀) (hA : A.frames = some (env :: outer)) (hf : env.frame = some L) (hke : env.scope.kind = .function)
    (ho : K.lookup f = some ⟨oc, od, .func (ksFn name qual params body scope dV kV doc pm an cdv ct cc), osl⟩) (hcd : codeIn K cdv qual = true) (hroom : A.depth < recursionLimit)
    (hbind : BindsTo s (ksFn name qual params body scope dV kV doc pm an cdv ct cc) args binds) (hloc : ∀ y ∈ binds, scope.names.lookup y.1 = some .local)
    (h : ∀ g L' h₁, (∀ b o, s.heap.get? b = some o → b ∉ news.map (·.1) → g.get? b = some o) → Fr g L' h₁ (fun y => binds.reverse.lookup y) → News g L' h₁ news → Below A base (env :: outer) g → K.In g → Top p loose mean mg mb g →
      _root_.PySem.wpAt (model prog w) (A.deeper (ksEnv qual scope L' f cdv cc)) (.func body (ksEnv qual scope L' f cdv cc)) (execs body (ksEnv qual scope L' f cdv cc))
        (fun fl s' => Done (fun v s' => R (.ok (.ret v)) s') (match fl with | .ret v => v | _ => .none) s')
        (fun e s' => wpAny (model prog w) (A.deeper (ksEnv qual scope L' f cdv cc)) (leaving (ksEnv qual scope L' f cdv cc) e) (fun _ s'' => R (.error e) s'') (fun e' s'' => R (.error e') s'') s')
        { s with heap := h₁, toks := s.toks + binds.length })
    (hcell : ∀ x ∈ scope.names, x.2 ≠ .cell := by decide) (hco : scope.isCoroutine = false := by rfl) (hgen : scope.isGenerator = false := by rfl) (hk : scope.kind = .function := by rfl) : codeAny (model prog w) A (.call (.ref f) args) R s := by
  obtain ⟨_, BG, st, _⟩ := groundX (R := R) B F N hA hf hke
  refine ks_codeAny_call_defAt (fd := ksFn name qual params body scope dV kV doc pm an cdv ct cc) (body := body) (binds := binds) hroom ((X₀.keeps F.keep) _ _ ho) rfl (T.nolimit.keeps F.keep) (codeRec_of (X₀.keeps F.keep) hcd) rfl hbind hcell hloc (fun h₁ hns hk₁ => ?_) hco hgen hk
  exact h _ s.heap.objs.size h₁ (fun b o e nm => hideAll_get _ e nm) ⟨hns, fun b o e => hk₁ b o (of_hideAll _ e), Nat.le_of_eq (hideAll_size _ _)⟩
    (fun p hp => ⟨hk₁ _ _ (N p hp).1, Nat.ne_of_lt (Heap.lt_size (N p hp).1), hideAll_none _ (List.mem_map_of_mem hp)⟩) BG (X₀.keeps st) (T.keeps st)
end
noncomputable abbrev PG : Program := PySem.Challenge.rw_pq0551_01.row.prog
theorem pg_file : ((PG.main.file : Str) == Str.ofString "/claim/cut.py") = true := by decide +kernel
theorem pg_super : (PG.main.scope.names.lookup (Str.ofString "super")).isSome = false := by decide +kernel
noncomputable def PCall (w : World) (f : Addr) (dn : Nat) (vs : List Value) (h : Heap) (P : Value → Heap → Prop) : Prop :=
  ∀ (mean : ExcName → Option Value) (mg mb : Str → Option Value) (dp un : Nat) (gd : Option (List Code)) (cn : Str) (cs : Scope) (a : Addr) (ccd : Value) (cl : List (Str × Addr)) (outer : List Env) (A₀ : Around) (base h₀ : Heap) (L : Addr) (m : Str → Option Value) (s : Shared) (Q E : Value → Shared → Prop),
    s.heap = h → Below A₀ base outer h₀ → Fr h₀ L s.heap m → (Mine.hd.heap_1 w.params).In h₀ → Top Mine.hd.view_1 (looseW Mine.hd.view_1 []) mean mg mb h₀ → cs.kind = .function → dp + dn < recursionLimit → un + 8 * dn < cLine →
    (∀ v h' tk', Ext s.heap h' → P v h' → Q v { s with heap := h', toks := tk' }) →
    wpAny (model PG w) (ktrTop dp un gd cn cs L a ccd cl outer) (call (.ref f) vs) Q E s
theorem inst_rec {h₀ h : Heap} {L x tp : Addr} {news : List (Addr × Obj)} (N : News h₀ L h news) (hm : (x, recObj tp none) ∈ news) : InstAt h x (recObj tp none) 58 none := ⟨(N _ hm).1, rfl, rfl, trivial⟩
noncomputable def NewBad (n : Int) (h : Heap) (v : Value) (h' : Heap) : Prop := ∃ e tp d hs t' tn, v = .ref e ∧ h.get? e = none ∧ h.get? d = none ∧ e ≠ d ∧ h'.get? e = some (recObj tp (some d)) ∧ h'.get? d = some (dictOf [⟨hs, .str (Str.ofString "at") t', .int n tn⟩] 1)
section SEx5
example : True := by
  k_with_none
  k_with "my enter" => (refine' enterP ?k1_8126 ?k2_8126 ?k3_8126 ?k5_8126 ?kA_8126 ?kF_8126 ?kK_8126 ?k6_8126 ?k7_8126 ?k8_8126 ?kZ_8126 ?k9_8126 ?kB_8126 ?_ ?c2_8126 ?c3_8126 ?c4_8126 ?c5_8126; (case kA_8126 => exact rfl); (case kF_8126 => exact rfl); (case kK_8126 => assumption); (case k1_8126 => k_asm); (case k2_8126 => k_asm); (case k3_8126 => k_asm); (case k5_8126 => k_asm); (case k6_8126 => k_is); (case k7_8126 => k_is); (case k8_8126 => ktr_room); (case kZ_8126 => simp only [List.map_cons, List.map_nil, List.zip_cons_cons, List.zip_nil_left, List.zip_nil_right, List.reverse_cons, List.reverse_nil, List.nil_append, List.cons_append]; exact rfl); (case k9_8126 => exact BindsTo.of_eq rfl); (case c5_8126 => decide); (case kB_8126 => exact locs rfl); (case c2_8126 => exact rfl); (case c3_8126 => exact rfl); (case c4_8126 => exact rfl); k_whole; intro L' h' tk' F' N' B' X' T'; (try dsimp only); (try k_lift B'); (try k_fold))
  k_with "my enterC" => (refine' enterPC ?k1_8392 ?k2_8392 ?k3_8392 ?k5_8392 ?kA_8392 ?kF_8392 ?kK_8392 ?k6_8392 ?k7_8392 ?k8_8392 ?k9_8392 ?kB_8392 ?kD_8392 ?_ ?c2_8392 ?c3_8392 ?c4_8392; (case kA_8392 => exact rfl); (case kF_8392 => exact rfl); (case kK_8392 => assumption); (case k1_8392 => k_asm); (case k2_8392 => k_asm); (case k3_8392 => k_asm); (case k5_8392 => k_asm); (case k6_8392 => k_is); (case k7_8392 => k_is); (case k8_8392 => ktr_room); (case k9_8392 => exact BindsTo.of_eq rfl); (case kB_8392 => exact rfl); (case kD_8392 => decide +kernel); (case c2_8392 => exact rfl); (case c3_8392 => exact rfl); (case c4_8392 => exact rfl); k_whole; intro L' h' tk' cells' F' N' Y' B' X' T'; k_cells Y'; (try simp only [List.cons_append, List.nil_append] at N'); (try dsimp only); (try k_lift B'); (try k_fold))
  k_with "my keeps" => (first
  | exact True.intro
  | exact fun _ => True.intro
  | exact And.intro (fun o => mapFields_kd _ o) True.intro
  | exact And.intro (fun _ => And.intro rfl rfl) True.intro
  | assumption
  | (refine Keeps.bind ?_ fun _ => ?_ <;> walk_at "my keeps")
  | (split <;> walk_at "my keeps"))
  k_with "my get" => (first | exact News.get (by k_asm) (by assumption) | exact News.get (by k_asm) (by k_mem) | exact Fr.keep (by k_asm) _ _ (by assumption))
  k_with "om" => (first | assumption | omega)
  k_with "int" => (intro t' h' tk' F' N'; (try k_sweep); (try dsimp only))
  k_with "call ref" => (with_reducible refine atc 168 ?_; k_dflt (refine PureCall.int (C := c_whole _ _ _ _ _ _ _ _ (by walk_at "my get") (by assumption) (by walk_at "om") (by walk_at "om")) (h := ?_); walk_at "int"))
  k_with "ints" => (intro l' ws' e' h' tk' I' F' N' l1; (try simp only [AllNe, and_true] at l1); (try k_sweep); (try dsimp only))
  k_with "call ref" => (with_reducible refine atc 163 ?_; k_dflt (refine PureCall.ints (C := c_limbs _ _ _ _ _ _ (by walk_at "om") (by walk_at "om")) (h := ?_); walk_at "ints"))
  k_with "pair" => (intro t' l' l2' ws' e' us' e2' h' tk' I' I2' F' N' l1 l2 l3; (try simp only [AllNe, and_true] at l1 l2 l3); (try k_sweep); (try dsimp only))
  k_with "call ref" => (with_reducible refine atc 182 ?_; k_dflt (refine PureCall.pair (C := c_divrem _ _ _ _ _ _ _ _ _ _ _ _ (by walk_at "my get") (by assumption) (by walk_at "my get") (by assumption) (by walk_at "om") (by walk_at "om") (by walk_at "om") (by assumption)) (h := ?_); walk_at "pair"))
  k_with "call ref" => (with_reducible refine atc 79 ?_; k_dflt (refine PureCall.ints (C := c_normal _ _ _ _ _ _ _ (by walk_at "my get") (by assumption) (by walk_at "om") (by assumption)) (h := ?_); walk_at "ints"))
  k_with "call ref" => (with_reducible refine atc 100 ?_; k_dflt (refine PureCall.ints (C := c_common _ _ _ _ _ _ _ _ _ _ _ _ (by walk_at "my get") (by assumption) (by walk_at "my get") (by assumption) (by walk_at "om") (by walk_at "om") (by assumption)) (h := ?_); walk_at "ints"))
  k_with "my mem" => (first | exact List.Mem.head _ | (refine List.Mem.tail _ ?_; walk_at "my mem"))
  k_with "call ref" => (with_reducible refine atc 121 ?_; k_dflt (refine PureCall.int (C := c_plain _ _ _ _ _ _ _ _ (by walk_at "my get") (by assumption) (by walk_at "om") (by assumption)) (h := ?_); walk_at "int"))
  k_with "call ref" => (with_reducible refine atc 86 ?_; k_dflt (refine PureCall.ints (C := c_nat_of _ _ _ _ _ _ (by walk_at "om") (by walk_at "om")) (h := ?_); walk_at "ints"))
  k_with "call ref" => (with_reducible refine atc 128 ?_; k_dflt (refine PureCall.text (C := c_nat_text _ _ _ _ _ _ _ _ _ _ (by walk_at "my get") (by assumption) (by walk_at "om") (by assumption) (by assumption)) (h := ?_); walk_at "int"))
  k_with "wpAt" => (ks_step "attributeBase Call"; k_dflt (refine ks_node (by k_asm) (by k_asm) (by k_asm) (by k_asm) (by k_is) (by rfl) (by rfl) (inst_rec (by k_asm) (by k_mem)) (by k_is) (by rfl) pg_file (by k_is) (by k_is) (by k_is) (by k_is) (by decide) (by rfl) (by rfl) (by rfl) (by rfl) pg_super (by first | boot_by_name | rfl | kernel_rfl) ?_; intro so' h' F' N' l1; (try k_lt l1)))
  k_with "getMethod ref" => ((with_reducible show wpAny _ _ (getMethod (Value.ref _) (Str.ofString "__init__") _) _ _ _); k_dflt (refine' bad_method ?F_2585 ?X_2585 ?N_2585 ?hso_2585 ?hx_2585 ?_; (case F_2585 => k_asm); (case X_2585 => k_asm); (case N_2585 => k_asm); (case hso_2585 => k_mem); (case hx_2585 => k_mem); intro q' h' F' N' l1; (try k_lt l1)))
  k_with "callWith ref" => (k_dflt (refine' bad_callWith ?N_9600 ?q_9600 ?_; (case N_9600 => k_asm); (case q_9600 => k_mem); k_whole))
  k_with "WrapP" => (exact News.get (by k_asm) (by k_mem))
  trivial
set_option maxHeartbeats 4000000 in
theorem c_bad (w : World) (h : Heap) (n : Int) (tn : Tok) : PCall w 58 3 [.int n tn] h (NewBad n h) := by
  unfold PCall
  intro mean mg mb dp un gd cn cs a ccd cl outer A₀ base h₀ L m s Q E hs B F X T hkd hd hu hret
  subst hs
  refine wpAny_call ?_
  obtain ⟨hh, g, dr, t, os⟩ := s
  refine bad_core (X.keeps F.keep) (by size_fits) ?_
  have F1 := (F.push { cls := .type "tuple", data := .seq [Value.int n tn].toArray }).push (recObj hh.objs.size none)
  have N1 := ((News.nil (h₀ := h₀) (L := L) (h := hh)).push F { cls := .type "tuple", data := .seq [Value.int n tn].toArray }).push (F.push _) (recObj hh.objs.size none)
  rw [Heap.size_push] at N1
  have hroom : ((ktrTop dp un gd cn cs L a ccd cl outer).under (.builtin "type.__call__" ⟨.ref 58 :: [.int n tn], []⟩)).depth < recursionLimit := by
    rw [depth_under_make]; show dp + 1 < _; omega
  refine' enterS B F1 X N1 T ?kA ?kF ?kK ?k6 ?k7 hroom ?k9 ?kB ?_ ?c1 ?c2 ?c3 ?c4
  case kA => exact rfl
  case kF => exact rfl
  case kK => assumption
  case k6 => k_is
  case k7 => k_is
  case k9 => exact BindsTo.of_eq rfl
  case kB => exact locs rfl
  case c1 => decide
  case c2 => exact rfl
  case c3 => exact rfl
  case c4 => exact rfl
  intro g' L' h' hkeep F' N' B' X' T'
  clear F1 N1 B F X T
  try dsimp only
  try k_lift B'
  try k_fold
  k_steps
  rename Fr _ _ _ _ => F9
  rename News _ _ _ _ => N9
  rename (_ < _ ∧ _ < _ ∧ _ < _) => l9
  rename (_ < _ ∧ _ < _) => l8
  have e0 : ∀ i : Nat, i < i + 1 := Nat.lt_succ_self
  refine bad_bound (x := hh.objs.size + 1) (pre := [_, _]) (post := [_]) F9 X' N9 (.head _) (fun p hp => ?_) (fun p hp => ?_) fun t2 h2 F10 N10 => ?_
  · simp only [List.mem_cons, List.not_mem_nil, or_false] at hp
    rcases hp with rfl | rfl
    · exact Nat.ne_of_gt l9.2.1
    · exact Nat.ne_of_gt l8.1
  · rw [List.mem_singleton.mp hp]
    exact Nat.ne_of_lt (e0 _)
  clear F9 N9
  k_steps
  refine bad_set (post := [_]) F10 X' (fun p hp => N10 p (List.mem_append_right _ hp)) (fun p hp => by rw [List.mem_singleton.mp hp]; exact Nat.ne_of_lt (e0 _)) fun d h3 tk3 hs3 t3 F11 N11 hpd hxd => ?_
  clear F10 N10
  k_steps
  refine ⟨rfl, hret _ _ _ (fun b o e => F11.keep b o (hkeep b o ?_ ?_)) ⟨_, _, _, _, _, _, rfl, ?_, ?_, hxd, (N11 _ (.tail _ (.head _))).1, (N11 _ (.head _)).1⟩⟩
  · exact Heap.get?_push_of_some _ (Heap.get?_push_of_some _ e)
  · intro hm
    have hb := Heap.lt_size e
    simp only [List.map_cons, List.map_nil, List.mem_cons, List.not_mem_nil, or_false] at hm
    rcases hm with rfl | rfl
    · exact absurd hb (Nat.not_lt.mpr (Nat.le_succ _))
    · exact absurd hb (Nat.lt_irrefl _)
  · exact Heap.get?_none_of_le (Nat.le_succ _)
  · cases q : hh.get? d with
    | none => rfl
    | some o =>
      have hd2 := (N11 _ (.head _)).2.2
      have hb := Heap.lt_size q
      have := hkeep d o (Heap.get?_push_of_some _ (Heap.get?_push_of_some _ q)) (fun hm => by
        simp only [List.map_cons, List.map_nil, List.mem_cons, List.not_mem_nil, or_false] at hm
        rcases hm with rfl | rfl
        · exact absurd hb (Nat.not_lt.mpr (Nat.le_succ _))
        · exact absurd hb (Nat.lt_irrefl _))
      rw [hd2] at this
      cases this
example : True := by
  k_with_none
  k_with "my enter" => (refine' enterP ?k1_8126 ?k2_8126 ?k3_8126 ?k5_8126 ?kA_8126 ?kF_8126 ?kK_8126 ?k6_8126 ?k7_8126 ?k8_8126 ?kZ_8126 ?k9_8126 ?kB_8126 ?_ ?c2_8126 ?c3_8126 ?c4_8126 ?c5_8126; (case kA_8126 => exact rfl); (case kF_8126 => exact rfl); (case kK_8126 => assumption); (case k1_8126 => k_asm); (case k2_8126 => k_asm); (case k3_8126 => k_asm); (case k5_8126 => k_asm); (case k6_8126 => k_is); (case k7_8126 => k_is); (case k8_8126 => ktr_room); (case kZ_8126 => simp only [List.map_cons, List.map_nil, List.zip_cons_cons, List.zip_nil_left, List.zip_nil_right, List.reverse_cons, List.reverse_nil, List.nil_append, List.cons_append]; exact rfl); (case k9_8126 => exact BindsTo.of_eq rfl); (case c5_8126 => decide); (case kB_8126 => exact locs rfl); (case c2_8126 => exact rfl); (case c3_8126 => exact rfl); (case c4_8126 => exact rfl); k_whole; intro L' h' tk' F' N' B' X' T'; (try dsimp only); (try k_lift B'); (try k_fold))
  k_with "my enterC" => (refine' enterPC ?k1_8392 ?k2_8392 ?k3_8392 ?k5_8392 ?kA_8392 ?kF_8392 ?kK_8392 ?k6_8392 ?k7_8392 ?k8_8392 ?k9_8392 ?kB_8392 ?kD_8392 ?_ ?c2_8392 ?c3_8392 ?c4_8392; (case kA_8392 => exact rfl); (case kF_8392 => exact rfl); (case kK_8392 => assumption); (case k1_8392 => k_asm); (case k2_8392 => k_asm); (case k3_8392 => k_asm); (case k5_8392 => k_asm); (case k6_8392 => k_is); (case k7_8392 => k_is); (case k8_8392 => ktr_room); (case k9_8392 => exact BindsTo.of_eq rfl); (case kB_8392 => exact rfl); (case kD_8392 => decide +kernel); (case c2_8392 => exact rfl); (case c3_8392 => exact rfl); (case c4_8392 => exact rfl); k_whole; intro L' h' tk' cells' F' N' Y' B' X' T'; k_cells Y'; (try simp only [List.cons_append, List.nil_append] at N'); (try dsimp only); (try k_lift B'); (try k_fold))
  k_with "my keeps" => (first
  | exact True.intro
  | exact fun _ => True.intro
  | exact And.intro (fun o => mapFields_kd _ o) True.intro
  | exact And.intro (fun _ => And.intro rfl rfl) True.intro
  | assumption
  | (refine Keeps.bind ?_ fun _ => ?_ <;> walk_at "my keeps")
  | (split <;> walk_at "my keeps"))
  k_with "my get" => (first | exact News.get (by k_asm) (by assumption) | exact News.get (by k_asm) (by k_mem) | exact Fr.keep (by k_asm) _ _ (by assumption))
  k_with "om" => (first | assumption | omega)
  k_with "int" => (intro t' h' tk' F' N'; (try k_sweep); (try dsimp only))
  k_with "call ref" => (with_reducible refine atc 168 ?_; k_dflt (refine PureCall.int (C := c_whole _ _ _ _ _ _ _ _ (by walk_at "my get") (by assumption) (by walk_at "om") (by walk_at "om")) (h := ?_); walk_at "int"))
  k_with "ints" => (intro l' ws' e' h' tk' I' F' N' l1; (try simp only [AllNe, and_true] at l1); (try k_sweep); (try dsimp only))
  k_with "call ref" => (with_reducible refine atc 163 ?_; k_dflt (refine PureCall.ints (C := c_limbs _ _ _ _ _ _ (by walk_at "om") (by walk_at "om")) (h := ?_); walk_at "ints"))
  k_with "pair" => (intro t' l' l2' ws' e' us' e2' h' tk' I' I2' F' N' l1 l2 l3; (try simp only [AllNe, and_true] at l1 l2 l3); (try k_sweep); (try dsimp only))
  k_with "call ref" => (with_reducible refine atc 182 ?_; k_dflt (refine PureCall.pair (C := c_divrem _ _ _ _ _ _ _ _ _ _ _ _ (by walk_at "my get") (by assumption) (by walk_at "my get") (by assumption) (by walk_at "om") (by walk_at "om") (by walk_at "om") (by assumption)) (h := ?_); walk_at "pair"))
  k_with "call ref" => (with_reducible refine atc 79 ?_; k_dflt (refine PureCall.ints (C := c_normal _ _ _ _ _ _ _ (by walk_at "my get") (by assumption) (by walk_at "om") (by assumption)) (h := ?_); walk_at "ints"))
  k_with "call ref" => (with_reducible refine atc 100 ?_; k_dflt (refine PureCall.ints (C := c_common _ _ _ _ _ _ _ _ _ _ _ _ (by walk_at "my get") (by assumption) (by walk_at "my get") (by assumption) (by walk_at "om") (by walk_at "om") (by assumption)) (h := ?_); walk_at "ints"))
  k_with "my mem" => (first | exact List.Mem.head _ | (refine List.Mem.tail _ ?_; walk_at "my mem"))
  k_with "call ref" => (with_reducible refine atc 121 ?_; k_dflt (refine PureCall.int (C := c_plain _ _ _ _ _ _ _ _ (by walk_at "my get") (by assumption) (by walk_at "om") (by assumption)) (h := ?_); walk_at "int"))
  k_with "call ref" => (with_reducible refine atc 86 ?_; k_dflt (refine PureCall.ints (C := c_nat_of _ _ _ _ _ _ (by walk_at "om") (by walk_at "om")) (h := ?_); walk_at "ints"))
  k_with "call ref" => (with_reducible refine atc 128 ?_; k_dflt (refine PureCall.text (C := c_nat_text _ _ _ _ _ _ _ _ _ _ (by walk_at "my get") (by assumption) (by walk_at "om") (by assumption) (by assumption)) (h := ?_); walk_at "int"))
  trivial
end SEx5
noncomputable abbrev atObj (hs : Int) (t' tn : Tok) (n : Int) : Obj := dictOf [⟨hs, .str (Str.ofString "at") t', .int n tn⟩] 1
noncomputable def BadFly (n : Int) (base G : Heap) (l : List Env) (e : Addr) (h : Heap) : Prop :=
  ∃ B a0 d hs t' tn, base.StaysIn B ∧ (∀ b o, G.get? b = some o → b ∉ l.filterMap (·.frame) → B.get? b = some o) ∧ B.get? d = some (atObj hs t' tn n) ∧ G.get? d = none ∧ base.get? d = none ∧
    Heap.FlyingW B l e (.ref 58) a0 h ∧ KD e (some d) h
section
variable {M : Model} {A : Around} {E : Value → Shared → Prop} {s' : Shared} {base g g₂ : Heap} {outer : List Env} {L a e : Addr} {m : Str → Option Value} {name : Str} {scope : Scope} {cd : Value} {Q : Unit → Shared → Prop} {n : Int}
theorem leave_bad {d tp : Addr} {hs : Int} {t' tn : Tok} (K : Below A base outer g) (F : Fr g L s'.heap m) (he : s'.heap.get? e = some (recObj tp (some d))) (hd : s'.heap.get? d = some (atObj hs t' tn n))
    (hge : g.get? e = none) (hgd : g.get? d = none) (hed : e ≠ d) (heL : e ≠ L) (hdL : d ≠ L)
    (hQ : ∀ h', BadFly n base g outer e h' → g.UpToSlots h' → Q () { s' with heap := h' }) (hk : scope.kind = .function := by rfl) :
    wpAny M (A.deeper (envOf name scope L a cd)) (leaving (envOf name scope L a cd) (.ref e)) Q E s' := by
  have K' := K.push (name := name) (a := a) (cd := cd) F hk
  have hin : ∀ env ∈ (envOf name scope L a cd :: outer), ∀ b, env.frame = some b → b ∈ e :: (envOf name scope L a cd :: outer).filterMap (·.frame) := fun env he b hb => .tail _ (List.mem_filterMap.mpr ⟨env, he, hb⟩)
  have offs : ∀ b o, g.get? b = some o → b ∉ outer.filterMap (·.frame) → b ∉ e :: (envOf name scope L a cd :: outer).filterMap (·.frame) := fun b o q nm hm => by
    rcases List.mem_cons.mp hm with z | hm
    · rw [z, hge] at q; cases q
    · rcases kts_mem hm with z | z
      · rw [z, kts_self F] at q; cases q
      · exact nm z
  have sg : ∀ b o, g.get? b = some o → b ∉ outer.filterMap (·.frame) → (hideAll s'.heap (e :: (envOf name scope L a cd :: outer).filterMap (·.frame))).get? b = some o := fun b o q nm => hideAll_get _ (F.keep b o q) (offs b o q nm)
  have dnot : d ∉ e :: (envOf name scope L a cd :: outer).filterMap (·.frame) := fun hm => by
    rcases List.mem_cons.mp hm with z | hm
    · exact hed z.symm
    · rcases kts_mem hm with z | z
      · exact hdL z
      · obtain ⟨o, ho, _⟩ := (K.frames.mem z).2
        rw [hgd] at ho; cases ho
  have st : base.StaysIn (hideAll s'.heap (e :: (envOf name scope L a cd :: outer).filterMap (·.frame))) := fun b o q => by
    refine sg b o (K.stays b o q) fun hm => ?_
    rw [(K.frames.mem hm).1] at q; cases q
  have hb : ∀ b, g.get? b = none → base.get? b = none := fun b q => fresh_of_stays K.stays q
  refine Keeps.any (e := e) (d := some d) (.leaving _ _) ⟨_, he, rfl⟩ ?_
  refine wpAny_leaving_firstW (a0 := .ref tp) K'.stack (funFrames_hide K'.frames hin) rfl he (fun b o hb => of_hideAll _ hb) (hideAll_none _ (.head _)) rfl rfl rfl fun h' hL kd => ?_
  obtain ⟨k1, ⟨_, _, k2⟩, k3, k4⟩ := hL
  exact hQ h' ⟨_, _, d, hs, t', tn, st, sg, hideAll_get _ hd dnot, hgd, hb d hgd, ⟨k1, hideAll_none _ (.head _), k2, k3⟩, kd⟩ ((Heap.UpToSlots.of_keeps F.keep).trans k4)
theorem leave_on_bad (K : Below A base outer g) (F : Fr g L g₂ m) (R : BadFly n base g₂ (envOf name scope L a cd :: outer) e s'.heap) (hsm : g₂.UpToSlots s'.heap)
    (hQ : ∀ h', BadFly n base g outer e h' → g.UpToSlots h' → Q () { s' with heap := h' }) :
    wpAny M (A.deeper (envOf name scope L a cd)) (leaving (envOf name scope L a cd) (.ref e)) Q E s' := by
  obtain ⟨B, a0, d, hs, t', tn, hB, hBG, hd1, hd2, hd3, hfl, kd⟩ := R
  refine Keeps.any (e := e) (d := some d) (.leaving _ _) kd ?_
  refine wpAny_leaves_onW (Around.frames_deeper K.stack) rfl hfl fun h' x1 x2 kd' => hQ h' ⟨B, a0, d, hs, t', tn, hB, fun b o q nm => hBG b o (F.keep b o q) (fun hm => ?_), hd1, kts_none F.keep hd2, hd3, x1, kd'⟩ ((Heap.UpToSlots.of_keeps F.keep).trans (hsm.trans x2))
  rcases kts_mem hm with z | z
  · rw [z, kts_self F] at q; cases q
  · exact nm z
end
section
variable {prog : Program} {w : World} {A : Around} {E : Value → Shared → Prop} {s : Shared} {env : Env}
theorem raise_bad {x : Sem Value} {Q : Flow → Shared → Prop} (hh : A.handled = none)
    (h : wpAny (model prog w) A x (fun v s₁ => ∃ e tp d, v = .ref e ∧ s₁.heap.get? 58 = some badCls ∧ s₁.heap.get? e = some { cls := .ref 58, dict := some d, data := .fields #[.ref tp, .none, .none, .none, .bool false, .none] } ∧ E (.ref e) s₁) E s) :
    wpAny (model prog w) A (raiseStmt env (some x) none) Q E s := by
  unfold raiseStmt
  refine wpAny_bind (wpAny_mono h (fun v s₁ h₁ => ?_) fun _ _ x => x)
  obtain ⟨e, tp, d, rfl, hC, he, hE⟩ := h₁
  obtain ⟨hp, g, dr, tk, os⟩ := s₁
  repeat (first | with_reducible refine wpAny_loadPart_at he ?_ | with_reducible refine wpAny_loadPart_at hC ?_ | (with_reducible refine wpAny_isSubtype_exc hC ?_) | wp_step)
  exact wpAny_raiseNew_none hh hE
noncomputable def BadMade (E : Value → Shared → Prop) (v : Value) (s₁ : Shared) : Prop := ∃ e tp d, v = .ref e ∧ s₁.heap.get? 58 = some badCls ∧ s₁.heap.get? e = some (recObj tp (some d)) ∧ E (.ref e) s₁
theorem exec_raise_bad {f : Expr} {args : List Expr} {cpos pos : Pos} {Q : Flow → Shared → Prop} (hh : A.handled = none)
    (h : wpAny (model prog w) A (eval (.Call f args [] cpos) env) (BadMade E) E s) :
    wpAny (model prog w) A (exec (.Raise (some (.Call f args [] cpos)) none pos) env) Q E s := by
  rw [arm_exec_Raise]
  simp only [evalOpt, Option.map]
  refine wpAny_bind (wpAny_standAt (raise_bad hh ?_))
  refine wpAny_bind (wpAny_mono h (fun v s₁ h₁ => wpAny_bind (wpAny_standAt (wpAny_pure h₁))) fun _ _ x => x)
end
section
variable {w : World} {mean : ExcName → Option Value} {mg mb : Str → Option Value} {dp un : Nat} {gd : Option (List Code)} {cn : Str} {cs : Scope} {a : Addr} {ccd : Value} {cl : List (Str × Addr)} {outer : List Env} {A₀ : Around} {base h₀ : Heap} {L : Addr} {m : Str → Option Value} {s : Shared} {Q E : Value → Shared → Prop}
  {news : List (Addr × Obj)} {f : Addr} {dn : Nat} {vs : List Value}
theorem PCall.any {P : Value → Heap → Prop} (B : Below A₀ base outer h₀ := by k_asm) (F : Fr h₀ L s.heap m := by k_asm) (X : (Mine.hd.heap_1 w.params).In h₀ := by k_asm) (T : Top Mine.hd.view_1 (looseW Mine.hd.view_1 []) mean mg mb h₀ := by k_asm) (N : News h₀ L s.heap news := by k_asm) (hk : cs.kind = .function := by first | exact rfl | assumption)
    (C : PCall w f dn vs s.heap P) (hd : dp + dn < recursionLimit := by ktr_room) (hu : un + 8 * dn < cLine := by ktr_units)
    (h : ∀ v h' tk', P v h' → Ext s.heap h' → Fr h₀ L h' m → News h₀ L h' news → Q v { s with heap := h', toks := tk' }) :
    wpAny (model PG w) (ktrTop dp un gd cn cs L a ccd cl outer) (call (.ref f) vs) Q E s :=
  C _ _ _ _ _ _ _ _ _ _ _ _ _ _ _ _ _ _ _ _ rfl B F X T hk hd hu fun v h' tk' x p => h v h' tk' p x (x.fr F) (x.news N)
theorem call_bad {n : Int} {tn : Tok} (B : Below A₀ base outer h₀ := by k_asm) (F : Fr h₀ L s.heap m := by k_asm) (X : (Mine.hd.heap_1 w.params).In h₀ := by k_asm) (T : Top Mine.hd.view_1 (looseW Mine.hd.view_1 []) mean mg mb h₀ := by k_asm) (N : News h₀ L s.heap news := by k_asm) (hk : cs.kind = .function := by first | exact rfl | assumption)
    (hd : dp + 3 < recursionLimit := by ktr_room) (hu : un + 8 * 3 < cLine := by ktr_units)
    (h : ∀ e tp d hs t' tn' h' tk', Fr h₀ L h' m → News h₀ L h' ((e, recObj tp (some d)) :: (d, atObj hs t' tn' n) :: news) → e ≠ d → Q (.ref e) { s with heap := h', toks := tk' }) :
    wpAny (model PG w) (ktrTop dp un gd cn cs L a ccd cl outer) (call (.ref 58) [.int n tn]) Q E s := by
  refine PCall.any B F X T N hk (c_bad w s.heap n tn) hd hu fun v h' tk' p x F' N' => ?_
  obtain ⟨e, tp, d, hs, t', tn', rfl, h1, h2, h3, h4, h5⟩ := p
  exact h e tp d hs t' tn' h' tk' F' (Ext.cons F (Ext.cons F N' h2 h5) h1 h4) h3
end
theorem len_strW {prog : Program} {w : World} {A : Around} {E Q : Value → Shared → Prop} {s : Shared} {x : Str} {t : Tok} (hb : x.length ≤ 64) (h : Q (.int x.length (s.toks + 1)) { s with toks := s.toks + 1 + 1 }) : wpAny (model prog w) A (call (.builtin "len") [.str x t]) Q E s :=
  PyProof.Rows.len_str (by omega) h
noncomputable def XPall (w : World) (f : Addr) (dn : Nat) (vs : List Value) (h : Heap) (P : Value → Heap → Prop) (X : Heap → List Env → Addr → Heap → Prop) : Prop :=
  ∀ (mean : ExcName → Option Value) (mg mb : Str → Option Value) (dp un : Nat) (gd : Option (List Code)) (cn : Str) (cs : Scope) (a : Addr) (ccd : Value) (cl : List (Str × Addr)) (outer : List Env) (A₀ : Around) (base h₀ : Heap) (L : Addr) (m : Str → Option Value) (s : Shared) (Q E : Value → Shared → Prop),
    s.heap = h → Below A₀ base outer h₀ → Fr h₀ L s.heap m → (Mine.hd.heap_1 w.params).In h₀ → Top Mine.hd.view_1 (looseW Mine.hd.view_1 []) mean mg mb h₀ → cs.kind = .function → dp + dn < recursionLimit → un + 8 * dn < cLine →
    (∀ v h' tk', Ext s.heap h' → P v h' → Q v { s with heap := h', toks := tk' }) →
    (∀ e h' tk', X base (envX cn cs L a ccd cl :: outer) e h' → E (.ref e) { s with heap := h', toks := tk' }) →
    wpAny (model PG w) (ktrTop dp un gd cn cs L a ccd cl outer) (call (.ref f) vs) Q E s
local macro_rules | `(tactic| walk_at "call builtin:len") => `(tactic| ((with_reducible show wpAny _ _ (call (Value.builtin "len") [Value.str _ _]) _ _ _); k_dflt (refine' len_strW ?hb ?_; (case hb => first | assumption | omega))))
example : True := by
  k_with "call ref" => (with_reducible refine atc 175 ?_; k_dflt (refine PureCall.ints (C := c_mul _ _ _ _ _ _ _ _ _ _ _ _ (by walk_at "my get") (by assumption) (by walk_at "my get") (by assumption) (by walk_at "om") (by walk_at "om") (by walk_at "om") (by assumption)) (h := ?_); walk_at "ints"))
  trivial
example : True := by
  k_with "call ref" => (with_reducible refine atc 93 ?_; k_dflt (refine PureCall.ints (C := c_add _ _ _ _ _ _ _ _ _ _ _ _ (by walk_at "my get") (by assumption) (by walk_at "my get") (by assumption) (by walk_at "om") (by walk_at "om") (by assumption)) (h := ?_); walk_at "ints"))
  trivial
theorem ge_a_lt {prog : Program} {w : World} {A : Around} {E Q : Value → Shared → Prop} {s : Shared} {c : Nat} {t u : Tok} (h : c < 97) (hq : Q (.bool false) s) : wpAny (model prog w) A (compareOp .GtE (.str ⟨#[c]⟩ t) (.str (Str.ofString "a") u)) Q E s :=
  P.ge_str (by rw [show decide ((⟨#[c]⟩ : Str).cps.toList < (Str.ofString "a").cps.toList) = true from decide_eq_true ((lt_a c).mpr h)]; exact hq)
theorem ge_a_ge {prog : Program} {w : World} {A : Around} {E Q : Value → Shared → Prop} {s : Shared} {c : Nat} {t u : Tok} (h : 97 ≤ c) (hq : Q (.bool true) s) : wpAny (model prog w) A (compareOp .GtE (.str ⟨#[c]⟩ t) (.str (Str.ofString "a") u)) Q E s :=
  P.ge_str (by rw [show decide ((⟨#[c]⟩ : Str).cps.toList < (Str.ofString "a").cps.toList) = false from decide_eq_false (fun q => absurd ((lt_a c).mp q) (by omega))]; exact hq)
theorem lower_one {prog : Program} {w : World} {A : Around} {E Q : Value → Shared → Prop} {s : Shared} {c : Nat} {t : Tok} (hq : Q (.str (Txt.lower ⟨#[c]⟩) s.toks) { s with toks := s.toks + 1 }) : wpAny (model prog w) A (call (.builtin "str.lower") [.str ⟨#[c]⟩ t]) Q E s :=
  SCL.lower (show 1 ≤ 5592405 by omega) fun _ => hq
theorem find_is {prog : Program} {w : World} {A : Around} {E Q : Value → Shared → Prop} {s : Shared} {x y : Str} {D : Int} {t u : Tok} (h : Txt.find x y = D) (hq : Q (.int D s.toks) { s with toks := s.toks + 1 }) : wpAny (model prog w) A (call (.builtin "str.find") [.str x t, .str y u]) Q E s :=
  SC.find (by rw [h]; exact hq)
example : True := by
  k_with "call builtin:str.find" => (refine find_is (by assumption) ?_)
  trivial
example : True := by
  k_with "call ref" => (with_reducible refine atc 58 ?_; k_dflt (refine call_bad (h := ?_); intro e' tp' d' hs' t' tn' h' tk' F' N' l1; (try k_sweep); (try dsimp only)))
  trivial
theorem StepMy.go2 {h₀ : Heap} {L : Addr} {O : List (Addr × Obj)} {J' : (Str → Option Value) → List (Addr × Obj) → Prop} {s₁ : Shared} {Q : Flow → Shared → Prop} {h' : Heap} {tk : Nat} {m : Str → Option Value} {p0 q : Addr × Obj} {rest : List (Addr × Obj)}
    (F : Fr h₀ L h' m) (N : News h₀ L h' (p0 :: rest)) (hq : q ∈ rest) (hO : ∀ o ∈ O, o ∈ rest) (h1 : ∀ o ∈ O, p0.1 ≠ o.1) (h2 : ∀ o ∈ O, q.1 ≠ o.1) (hJ : J' m [p0, q]) : StepMy h₀ L O J' s₁ Q .next { s₁ with heap := h', toks := tk } := by
  refine StepMy.go [p0, q] F N (fun x hx => ?_) (fun x hx => ?_) hJ
  · rcases List.mem_append.mp hx with h | h
    · exact .tail _ (hO x h)
    · simp only [List.mem_cons, List.not_mem_nil, or_false] at h
      rcases h with rfl | rfl
      · exact .head _
      · exact .tail _ hq
  · simp only [List.mem_cons, List.not_mem_nil, or_false] at hx
    rcases hx with rfl | rfl
    · exact h1
    · exact h2
theorem form5 {m m₀ : Str → Option Value} {a b c d : Str} {v : Option Value} (h1 : m a = v) (h2 : ∀ y, y ≠ a → y ≠ b → y ≠ c → y ≠ d → m y = m₀ y) : m = fun y => if y = a then v else if y = b then m b else if y = c then m c else if y = d then m d else m₀ y := by
  funext y
  by_cases e1 : y = a
  · subst e1; simp [h1]
  · by_cases e2 : y = b
    · subst e2; simp [e1]
    · by_cases e3 : y = c
      · subst e3; simp [e1, e2]
      · by_cases e4 : y = d
        · subst e4; simp [e1, e2, e3]
        · simp [e1, e2, e3, e4, h2 y e1 e2 e3 e4]
theorem pow_le_64 {b i : Nat} (hb : b ≤ 36) (hi : i < 12) : b ^ (i + 1) < 2 ^ 63 :=
  Nat.lt_of_le_of_lt (Nat.pow_le_pow_left hb _) (Nat.lt_of_le_of_lt (Nat.pow_le_pow_right (by omega) (show i + 1 ≤ 12 by omega)) (by decide))
theorem drop_at {x : Str} {i c : Nat} (h : x.cps[i]? = some c) : x.cps.toList.drop i = c :: x.cps.toList.drop (i + 1) := by
  have h' : x.cps.toList[i]? = some c := by rw [Array.getElem?_toList]; exact h
  obtain ⟨hl, he⟩ := List.getElem?_eq_some_iff.mp h'
  rw [List.drop_eq_getElem_cons hl, he]
section SN10
local macro_rules | `(tactic| walk_at "exec Raise some none") => `(tactic| (k_dflt (refine' exec_raise_bad ?hh ?_; (case hh => exact rfl))))
example : True := by
  k_with_none
  k_with "my enter" => (refine' enterP ?k1_8126 ?k2_8126 ?k3_8126 ?k5_8126 ?kA_8126 ?kF_8126 ?kK_8126 ?k6_8126 ?k7_8126 ?k8_8126 ?kZ_8126 ?k9_8126 ?kB_8126 ?_ ?c2_8126 ?c3_8126 ?c4_8126 ?c5_8126; (case kA_8126 => exact rfl); (case kF_8126 => exact rfl); (case kK_8126 => assumption); (case k1_8126 => k_asm); (case k2_8126 => k_asm); (case k3_8126 => k_asm); (case k5_8126 => k_asm); (case k6_8126 => k_is); (case k7_8126 => k_is); (case k8_8126 => ktr_room); (case kZ_8126 => simp only [List.map_cons, List.map_nil, List.zip_cons_cons, List.zip_nil_left, List.zip_nil_right, List.reverse_cons, List.reverse_nil, List.nil_append, List.cons_append]; exact rfl); (case k9_8126 => exact BindsTo.of_eq rfl); (case c5_8126 => decide); (case kB_8126 => exact locs rfl); (case c2_8126 => exact rfl); (case c3_8126 => exact rfl); (case c4_8126 => exact rfl); k_whole; intro L' h' tk' F' N' B' X' T'; (try dsimp only); (try k_lift B'); (try k_fold))
  k_with "my enterC" => (refine' enterPC ?k1_8392 ?k2_8392 ?k3_8392 ?k5_8392 ?kA_8392 ?kF_8392 ?kK_8392 ?k6_8392 ?k7_8392 ?k8_8392 ?k9_8392 ?kB_8392 ?kD_8392 ?_ ?c2_8392 ?c3_8392 ?c4_8392; (case kA_8392 => exact rfl); (case kF_8392 => exact rfl); (case kK_8392 => assumption); (case k1_8392 => k_asm); (case k2_8392 => k_asm); (case k3_8392 => k_asm); (case k5_8392 => k_asm); (case k6_8392 => k_is); (case k7_8392 => k_is); (case k8_8392 => ktr_room); (case k9_8392 => exact BindsTo.of_eq rfl); (case kB_8392 => exact rfl); (case kD_8392 => decide +kernel); (case c2_8392 => exact rfl); (case c3_8392 => exact rfl); (case c4_8392 => exact rfl); k_whole; intro L' h' tk' cells' F' N' Y' B' X' T'; k_cells Y'; (try simp only [List.cons_append, List.nil_append] at N'); (try dsimp only); (try k_lift B'); (try k_fold))
  k_with "my keeps" => (first
  | exact True.intro
  | exact fun _ => True.intro
  | exact And.intro (fun o => mapFields_kd _ o) True.intro
  | exact And.intro (fun _ => And.intro rfl rfl) True.intro
  | assumption
  | (refine Keeps.bind ?_ fun _ => ?_ <;> walk_at "my keeps")
  | (split <;> walk_at "my keeps"))
  k_with "my get" => (first | exact News.get (by k_asm) (by assumption) | exact News.get (by k_asm) (by k_mem) | exact Fr.keep (by k_asm) _ _ (by assumption))
  k_with "om" => (first | assumption | omega)
  k_with "int" => (intro t' h' tk' F' N'; (try k_sweep); (try dsimp only))
  k_with "call ref" => (with_reducible refine atc 168 ?_; k_dflt (refine PureCall.int (C := c_whole _ _ _ _ _ _ _ _ (by walk_at "my get") (by assumption) (by walk_at "om") (by walk_at "om")) (h := ?_); walk_at "int"))
  k_with "ints" => (intro l' ws' e' h' tk' I' F' N' l1; (try simp only [AllNe, and_true] at l1); (try k_sweep); (try dsimp only))
  k_with "call ref" => (with_reducible refine atc 163 ?_; k_dflt (refine PureCall.ints (C := c_limbs _ _ _ _ _ _ (by walk_at "om") (by walk_at "om")) (h := ?_); walk_at "ints"))
  k_with "pair" => (intro t' l' l2' ws' e' us' e2' h' tk' I' I2' F' N' l1 l2 l3; (try simp only [AllNe, and_true] at l1 l2 l3); (try k_sweep); (try dsimp only))
  k_with "call ref" => (with_reducible refine atc 182 ?_; k_dflt (refine PureCall.pair (C := c_divrem _ _ _ _ _ _ _ _ _ _ _ _ (by walk_at "my get") (by assumption) (by walk_at "my get") (by assumption) (by walk_at "om") (by walk_at "om") (by walk_at "om") (by assumption)) (h := ?_); walk_at "pair"))
  k_with "call ref" => (with_reducible refine atc 79 ?_; k_dflt (refine PureCall.ints (C := c_normal _ _ _ _ _ _ _ (by walk_at "my get") (by assumption) (by walk_at "om") (by assumption)) (h := ?_); walk_at "ints"))
  k_with "call ref" => (with_reducible refine atc 100 ?_; k_dflt (refine PureCall.ints (C := c_common _ _ _ _ _ _ _ _ _ _ _ _ (by walk_at "my get") (by assumption) (by walk_at "my get") (by assumption) (by walk_at "om") (by walk_at "om") (by assumption)) (h := ?_); walk_at "ints"))
  k_with "my mem" => (first | exact List.Mem.head _ | (refine List.Mem.tail _ ?_; walk_at "my mem"))
  k_with "call ref" => (with_reducible refine atc 121 ?_; k_dflt (refine PureCall.int (C := c_plain _ _ _ _ _ _ _ _ (by walk_at "my get") (by assumption) (by walk_at "om") (by assumption)) (h := ?_); walk_at "int"))
  k_with "call ref" => (with_reducible refine atc 86 ?_; k_dflt (refine PureCall.ints (C := c_nat_of _ _ _ _ _ _ (by walk_at "om") (by walk_at "om")) (h := ?_); walk_at "ints"))
  k_with "call ref" => (with_reducible refine atc 128 ?_; k_dflt (refine PureCall.text (C := c_nat_text _ _ _ _ _ _ _ _ _ _ (by walk_at "my get") (by assumption) (by walk_at "om") (by assumption) (by assumption)) (h := ?_); walk_at "int"))
  k_with "call ref" => (with_reducible refine atc 175 ?_; k_dflt (refine PureCall.ints (C := c_mul _ _ _ _ _ _ _ _ _ _ _ _ (by walk_at "my get") (by assumption) (by walk_at "my get") (by assumption) (by walk_at "om") (by walk_at "om") (by walk_at "om") (by assumption)) (h := ?_); walk_at "ints"))
  k_with "call ref" => (with_reducible refine atc 93 ?_; k_dflt (refine PureCall.ints (C := c_add _ _ _ _ _ _ _ _ _ _ _ _ (by walk_at "my get") (by assumption) (by walk_at "my get") (by assumption) (by walk_at "om") (by walk_at "om") (by assumption)) (h := ?_); walk_at "ints"))
  k_with "call builtin:str.find" => (refine find_is (by assumption) ?_)
  k_with "call ref" => (with_reducible refine atc 58 ?_; k_dflt (refine call_bad (h := ?_); intro e' tp' d' hs' t' tn' h' tk' F' N' l1; (try k_sweep); (try dsimp only)))
  k_with "compareOp GtE str str" => (first | refine ge_a_lt (by assumption) ?_ | refine ge_a_ge (by assumption) ?_)
  k_with "call builtin:str.lower" => (refine lower_one ?_)
  k_with "exec For Tuple Call cons nil" => (refine Hold.out ?_)
  k_with "call type:enumerate" => (refine Hold.out ?_)
  trivial
set_option maxHeartbeats 8000000 in
theorem c_nat_from (w : World) (h : Heap) (x : Str) (b k spot : Nat) (u u2 u3 t : Tok)
    (hx : x.cps.size ≤ 12) (hb : 2 ≤ b ∧ b ≤ 36) (hk : 2 ≤ k ∧ k ≤ 9) : XPall w 142 8 [.str x t, .int spot u3, .int b u2, .int k u, .ref 175] h (fun v h' => ∃ N, N < 2 ^ 63 ∧ readNat b x.cps.toList spot = .inr N ∧ NewInts h (limbs k N) v h') (fun base l e h' => ∃ n : Nat, readNat b x.cps.toList spot = .inl n ∧ BadFly n base h l e h' ∧ h.UpToSlots h') := by
  unfold XPall
  intro mean mg mb dp un gd cn cs a ccd cl outer A₀ base h₀ L m s Q E hs B F X T hkd hd hu hret hexc
  subst hs
  have hx64 : x.length ≤ 64 := Nat.le_trans hx (by omega)
  have hb64 : b < 2 ^ 64 := by omega
  k_dflt (walk_at "my enter")
  k_steps
  · rename Fr _ _ _ _ => F9
    rename News _ _ _ _ => N9
    refine ⟨_, _, _, rfl, F9.keep _ _ (bad_cls (by assumption)), (N9 _ (.head _)).1, ?_⟩
    change wpAny _ _ (leaving _ _) _ _ _
    refine leave_bad (by assumption) F9 (N9 _ (.head _)).1 (N9 _ (.tail _ (.head _))).1 (N9 _ (.head _)).2.2 (N9 _ (.tail _ (.head _))).2.2 (by assumption) (N9 _ (.head _)).2.1 (N9 _ (.tail _ (.head _))).2.1 fun h' R' U' => hexc _ _ _ ⟨spot, ?_, R', U'⟩
    have hz : x.cps.toList = [] := by
      have : (x.length : Int) = 0 := by assumption
      have h0 : x.cps.size = 0 := Int.ofNat.inj this
      exact List.eq_nil_of_length_eq_zero (by rw [Array.length_toList]; exact h0)
    exact if_pos hz
  · rename Fr _ _ _ _ => F1
    rename News _ _ _ _ => N1
    have hne0 : x.cps.toList ≠ [] := fun q => by
      have h0 : ¬ (x.length : Int) = 0 := by assumption
      have h1 : x.cps.toList.length = 0 := by rw [q]; rfl
      rw [Array.length_toList] at h1
      exact h0 (congrArg Int.ofNat h1)
    have hl1 := (N1 _ (.tail _ (.tail _ (.head _))))
    have hm1 := (N1 _ (.tail _ (.head _)))
    obtain ⟨lf, lt, wt, et, D0, q1, q2, q3, q4, q5⟩ := three_named N1
    subst q1 q2 q3 q4 q5
    refine Hold.intro (For2_str (x := x) (fun m₀ i m nx => ∃ (lf : Addr) (wf : List Value) (ef P : Nat), P < b ^ i ∧ (lf, W.listOf wf.toArray ef) ∈ nx ∧ (lt, W.listOf wt.toArray et) ∈ nx ∧ IntsAre wf (limbs k P) ∧ scan b x.cps.toList spot 0 = scan b (x.cps.toList.drop i) (spot + i) P ∧
      m (Str.ofString "found") = some (.ref lf) ∧ ∀ y, y ≠ Str.ofString "found" → y ≠ Str.ofString "digit" → y ≠ Str.ofString "at" → y ≠ Str.ofString "sign" → m y = m₀ y) rfl rfl rfl rfl F1 N1 [(lf, W.listOf #[] 0), (lt, W.listOf wt.toArray et)] ?_ ?_ ?_ ?_ ?_)
    · intro q hq
      simp only [List.mem_cons, List.not_mem_nil, or_false] at hq ⊢
      rcases hq with rfl | rfl <;> simp
    · exact ⟨lf, [], 0, 0, Nat.pow_pos (by omega), .head _, .tail _ (.head _), by rw [limbs_zero]; exact .nil, rfl, rfl, fun _ _ _ _ _ => rfl⟩
    · k_steps
      refine Hold.intro (call_enumerate_str fun h9 he hi9 hz hk => ⟨h9, _, _, rfl, rfl, he, hi9, hk⟩)
    · rintro i c t1 t2 m1 nx h1 tk1 eA oe IA oI hc ⟨lf, wf, ef, P, hP, hmf, hmt, hI, hsc, h1, h2⟩ F2 N2 hne hei
      clear F1 N1 hl1 hm1
      rw [form5 h1 h2] at F2
      have hmf' : (lf, W.listOf wf.toArray ef) ∈ (eA, oe) :: (IA, oI) :: nx := .tail _ (.tail _ hmf)
      have hmt' : (lt, W.listOf wt.toArray et) ∈ (eA, oe) :: (IA, oI) :: nx := .tail _ (.tail _ hmt)
      have hi12 : i < 12 := by
        have := (Array.getElem?_eq_some_iff.mp hc).1
        omega
      have hpw := pow_le_64 hb.2 hi12
      have hPb1 : (P + 1) * b ≤ b ^ (i + 1) := by rw [Nat.pow_succ]; exact Nat.mul_le_mul_right _ hP
      have hPb2 : (P + 1) * b = P * b + b := Nat.succ_mul P b
      have hPb : P * b < 2 ^ 64 := by omega
      have hPP : P < 2 ^ 64 := Nat.lt_of_le_of_lt (Nat.le_mul_of_pos_right P (by omega)) hPb
      rw [drop_at hc] at hsc
      have hnat : readNat b x.cps.toList spot = scan b (c :: x.cps.toList.drop (i + 1)) (spot + i) P := by rw [readNat_some hne0, hsc]
      rcases hsd : sdig c with _ | d
      · have hdf : dfind c = -1 := by unfold dfind; rw [hsd]
        rcases Nat.lt_or_ge c 97 with hc97 | hc97
        · have hF := (find_lt hc97).trans hdf
          k_steps
          rename Fr _ _ _ _ => F9
          rename News _ _ _ _ => N9
          refine ⟨_, _, _, rfl, F9.keep _ _ (bad_cls (by assumption)), (N9 _ (.head _)).1, ?_⟩
          change wpAny _ _ (leaving _ _) _ _ _
          refine leave_bad (by assumption) F9 (N9 _ (.head _)).1 (N9 _ (.tail _ (.head _))).1 (N9 _ (.head _)).2.2 (N9 _ (.tail _ (.head _))).2.2 (by assumption) (N9 _ (.head _)).2.1 (N9 _ (.tail _ (.head _))).2.1 fun h' R' U' => hexc _ _ _ ⟨spot + i, ?_, by rw [Int.natCast_add]; exact R', U'⟩
          rw [hnat, scan_none hsd]
        · have hF := (find_ge hc97).trans hdf
          k_steps
          rename Fr _ _ _ _ => F9
          rename News _ _ _ _ => N9
          refine ⟨_, _, _, rfl, F9.keep _ _ (bad_cls (by assumption)), (N9 _ (.head _)).1, ?_⟩
          change wpAny _ _ (leaving _ _) _ _ _
          refine leave_bad (by assumption) F9 (N9 _ (.head _)).1 (N9 _ (.tail _ (.head _))).1 (N9 _ (.head _)).2.2 (N9 _ (.tail _ (.head _))).2.2 (by assumption) (N9 _ (.head _)).2.1 (N9 _ (.tail _ (.head _))).2.1 fun h' R' U' => hexc _ _ _ ⟨spot + i, ?_, by rw [Int.natCast_add]; exact R', U'⟩
          rw [hnat, scan_none hsd]
      · have hdf : dfind c = (d : Int) := by unfold dfind; rw [hsd]
        rcases Nat.lt_or_ge c 97 with hc97 | hc97
        · have hF := (find_lt hc97).trans hdf
          k_steps
          · rename Fr _ _ _ _ => F9
            rename News _ _ _ _ => N9
            have hdb : d < b := by omega
            refine StepMy.go2 (q := (lt, W.listOf wt.toArray et)) F9 N9 ?_ ?_ ?_ ?_ ⟨_, _, _, P * b + d, by omega, .head _, .tail _ (.head _), by assumption, by rw [hsc, scan_step hsd hdb, Nat.add_assoc], rfl, fun y h1 h2 h3 h4 => by simp [h1, h2, h3, h4]⟩
            · simp [hmt]
            · intro q hq
              simp only [List.mem_cons, List.not_mem_nil, or_false] at hq ⊢
              rcases hq with rfl | rfl <;> simp
            · intro q hq
              simp only [List.mem_cons, List.not_mem_nil, or_false] at hq
              rcases hq with rfl | rfl <;> k_ne
            · intro q hq
              simp only [List.mem_cons, List.not_mem_nil, or_false] at hq
              rcases hq with rfl | rfl
              · exact (hne _ hmt).1
              · exact (hne _ hmt).2
          · rename Fr _ _ _ _ => F9
            rename News _ _ _ _ => N9
            refine ⟨_, _, _, rfl, F9.keep _ _ (bad_cls (by assumption)), (N9 _ (.head _)).1, ?_⟩
            change wpAny _ _ (leaving _ _) _ _ _
            refine leave_bad (by assumption) F9 (N9 _ (.head _)).1 (N9 _ (.tail _ (.head _))).1 (N9 _ (.head _)).2.2 (N9 _ (.tail _ (.head _))).2.2 (by assumption) (N9 _ (.head _)).2.1 (N9 _ (.tail _ (.head _))).2.1 fun h' R' U' => hexc _ _ _ ⟨spot + i, ?_, by rw [Int.natCast_add]; exact R', U'⟩
            rw [hnat, scan_big hsd (fun q => absurd (Int.ofNat_lt.mpr q) (by assumption))]
        · have hF := (find_ge hc97).trans hdf
          k_steps
          · rename Fr _ _ _ _ => F9
            rename News _ _ _ _ => N9
            have hdb : d < b := by omega
            refine StepMy.go2 (q := (lt, W.listOf wt.toArray et)) F9 N9 ?_ ?_ ?_ ?_ ⟨_, _, _, P * b + d, by omega, .head _, .tail _ (.head _), by assumption, by rw [hsc, scan_step hsd hdb, Nat.add_assoc], rfl, fun y h1 h2 h3 h4 => by simp [h1, h2, h3, h4]⟩
            · simp [hmt]
            · intro q hq
              simp only [List.mem_cons, List.not_mem_nil, or_false] at hq ⊢
              rcases hq with rfl | rfl <;> simp
            · intro q hq
              simp only [List.mem_cons, List.not_mem_nil, or_false] at hq
              rcases hq with rfl | rfl <;> k_ne
            · intro q hq
              simp only [List.mem_cons, List.not_mem_nil, or_false] at hq
              rcases hq with rfl | rfl
              · exact (hne _ hmt).1
              · exact (hne _ hmt).2
          · rename Fr _ _ _ _ => F9
            rename News _ _ _ _ => N9
            refine ⟨_, _, _, rfl, F9.keep _ _ (bad_cls (by assumption)), (N9 _ (.head _)).1, ?_⟩
            change wpAny _ _ (leaving _ _) _ _ _
            refine leave_bad (by assumption) F9 (N9 _ (.head _)).1 (N9 _ (.tail _ (.head _))).1 (N9 _ (.head _)).2.2 (N9 _ (.tail _ (.head _))).2.2 (by assumption) (N9 _ (.head _)).2.1 (N9 _ (.tail _ (.head _))).2.1 fun h' R' U' => hexc _ _ _ ⟨spot + i, ?_, by rw [Int.natCast_add]; exact R', U'⟩
            rw [hnat, scan_big hsd (fun q => absurd (Int.ofNat_lt.mpr q) (by assumption))]
    · rintro m1 nx h1 tk1 ⟨lf, wf, ef, P, hP, hmf, hmt, hI, hsc, h1, h2⟩ F2 N2
      clear F1 N1 hl1 hm1
      rw [form5 h1 h2] at F2
      k_steps
      rename Fr _ _ _ _ => F9
      rename News _ _ _ _ => N9
      refine hret _ _ _ F9.keep ⟨P, ?_, ?_, lf, wf, ef, rfl, (N9 _ hmf).2.2, (N9 _ hmf).1, hI⟩
      · refine Nat.lt_of_lt_of_le hP (Nat.le_trans (Nat.pow_le_pow_left hb.2 _) (Nat.le_trans (Nat.pow_le_pow_right (by omega) hx) (by decide)))
      · rw [readNat_some hne0, hsc, show x.cps.toList.drop x.cps.size = [] from List.drop_eq_nil_of_le (by rw [Array.length_toList]; exact Nat.le_refl _)]
        rfl
example : True := by
  k_with_none
  k_with "my enter" => (refine' enterP ?k1_8126 ?k2_8126 ?k3_8126 ?k5_8126 ?kA_8126 ?kF_8126 ?kK_8126 ?k6_8126 ?k7_8126 ?k8_8126 ?kZ_8126 ?k9_8126 ?kB_8126 ?_ ?c2_8126 ?c3_8126 ?c4_8126 ?c5_8126; (case kA_8126 => exact rfl); (case kF_8126 => exact rfl); (case kK_8126 => assumption); (case k1_8126 => k_asm); (case k2_8126 => k_asm); (case k3_8126 => k_asm); (case k5_8126 => k_asm); (case k6_8126 => k_is); (case k7_8126 => k_is); (case k8_8126 => ktr_room); (case kZ_8126 => simp only [List.map_cons, List.map_nil, List.zip_cons_cons, List.zip_nil_left, List.zip_nil_right, List.reverse_cons, List.reverse_nil, List.nil_append, List.cons_append]; exact rfl); (case k9_8126 => exact BindsTo.of_eq rfl); (case c5_8126 => decide); (case kB_8126 => exact locs rfl); (case c2_8126 => exact rfl); (case c3_8126 => exact rfl); (case c4_8126 => exact rfl); k_whole; intro L' h' tk' F' N' B' X' T'; (try dsimp only); (try k_lift B'); (try k_fold))
  k_with "my enterC" => (refine' enterPC ?k1_8392 ?k2_8392 ?k3_8392 ?k5_8392 ?kA_8392 ?kF_8392 ?kK_8392 ?k6_8392 ?k7_8392 ?k8_8392 ?k9_8392 ?kB_8392 ?kD_8392 ?_ ?c2_8392 ?c3_8392 ?c4_8392; (case kA_8392 => exact rfl); (case kF_8392 => exact rfl); (case kK_8392 => assumption); (case k1_8392 => k_asm); (case k2_8392 => k_asm); (case k3_8392 => k_asm); (case k5_8392 => k_asm); (case k6_8392 => k_is); (case k7_8392 => k_is); (case k8_8392 => ktr_room); (case k9_8392 => exact BindsTo.of_eq rfl); (case kB_8392 => exact rfl); (case kD_8392 => decide +kernel); (case c2_8392 => exact rfl); (case c3_8392 => exact rfl); (case c4_8392 => exact rfl); k_whole; intro L' h' tk' cells' F' N' Y' B' X' T'; k_cells Y'; (try simp only [List.cons_append, List.nil_append] at N'); (try dsimp only); (try k_lift B'); (try k_fold))
  k_with "my keeps" => (first
  | exact True.intro
  | exact fun _ => True.intro
  | exact And.intro (fun o => mapFields_kd _ o) True.intro
  | exact And.intro (fun _ => And.intro rfl rfl) True.intro
  | assumption
  | (refine Keeps.bind ?_ fun _ => ?_ <;> walk_at "my keeps")
  | (split <;> walk_at "my keeps"))
  k_with "my get" => (first | exact News.get (by k_asm) (by assumption) | exact News.get (by k_asm) (by k_mem) | exact Fr.keep (by k_asm) _ _ (by assumption))
  k_with "om" => (first | assumption | omega)
  k_with "int" => (intro t' h' tk' F' N'; (try k_sweep); (try dsimp only))
  k_with "call ref" => (with_reducible refine atc 168 ?_; k_dflt (refine PureCall.int (C := c_whole _ _ _ _ _ _ _ _ (by walk_at "my get") (by assumption) (by walk_at "om") (by walk_at "om")) (h := ?_); walk_at "int"))
  k_with "ints" => (intro l' ws' e' h' tk' I' F' N' l1; (try simp only [AllNe, and_true] at l1); (try k_sweep); (try dsimp only))
  k_with "call ref" => (with_reducible refine atc 163 ?_; k_dflt (refine PureCall.ints (C := c_limbs _ _ _ _ _ _ (by walk_at "om") (by walk_at "om")) (h := ?_); walk_at "ints"))
  k_with "pair" => (intro t' l' l2' ws' e' us' e2' h' tk' I' I2' F' N' l1 l2 l3; (try simp only [AllNe, and_true] at l1 l2 l3); (try k_sweep); (try dsimp only))
  k_with "call ref" => (with_reducible refine atc 182 ?_; k_dflt (refine PureCall.pair (C := c_divrem _ _ _ _ _ _ _ _ _ _ _ _ (by walk_at "my get") (by assumption) (by walk_at "my get") (by assumption) (by walk_at "om") (by walk_at "om") (by walk_at "om") (by assumption)) (h := ?_); walk_at "pair"))
  k_with "call ref" => (with_reducible refine atc 79 ?_; k_dflt (refine PureCall.ints (C := c_normal _ _ _ _ _ _ _ (by walk_at "my get") (by assumption) (by walk_at "om") (by assumption)) (h := ?_); walk_at "ints"))
  k_with "call ref" => (with_reducible refine atc 100 ?_; k_dflt (refine PureCall.ints (C := c_common _ _ _ _ _ _ _ _ _ _ _ _ (by walk_at "my get") (by assumption) (by walk_at "my get") (by assumption) (by walk_at "om") (by walk_at "om") (by assumption)) (h := ?_); walk_at "ints"))
  k_with "my mem" => (first | exact List.Mem.head _ | (refine List.Mem.tail _ ?_; walk_at "my mem"))
  k_with "call ref" => (with_reducible refine atc 121 ?_; k_dflt (refine PureCall.int (C := c_plain _ _ _ _ _ _ _ _ (by walk_at "my get") (by assumption) (by walk_at "om") (by assumption)) (h := ?_); walk_at "int"))
  k_with "call ref" => (with_reducible refine atc 86 ?_; k_dflt (refine PureCall.ints (C := c_nat_of _ _ _ _ _ _ (by walk_at "om") (by walk_at "om")) (h := ?_); walk_at "ints"))
  k_with "call ref" => (with_reducible refine atc 128 ?_; k_dflt (refine PureCall.text (C := c_nat_text _ _ _ _ _ _ _ _ _ _ (by walk_at "my get") (by assumption) (by walk_at "om") (by assumption) (by assumption)) (h := ?_); walk_at "int"))
  k_with "call ref" => (with_reducible refine atc 175 ?_; k_dflt (refine PureCall.ints (C := c_mul _ _ _ _ _ _ _ _ _ _ _ _ (by walk_at "my get") (by assumption) (by walk_at "my get") (by assumption) (by walk_at "om") (by walk_at "om") (by walk_at "om") (by assumption)) (h := ?_); walk_at "ints"))
  k_with "call ref" => (with_reducible refine atc 93 ?_; k_dflt (refine PureCall.ints (C := c_add _ _ _ _ _ _ _ _ _ _ _ _ (by walk_at "my get") (by assumption) (by walk_at "my get") (by assumption) (by walk_at "om") (by walk_at "om") (by assumption)) (h := ?_); walk_at "ints"))
  k_with "call builtin:str.find" => (refine find_is (by assumption) ?_)
  k_with "call ref" => (with_reducible refine atc 58 ?_; k_dflt (refine call_bad (h := ?_); intro e' tp' d' hs' t' tn' h' tk' F' N' l1; (try k_sweep); (try dsimp only)))
  trivial
end SN10
section OEx7
open Builtin Builtin.Str
section
variable {w : World} {mean : ExcName → Option Value} {mg mb : Str → Option Value} {dp un : Nat} {gd : Option (List Code)} {cn : Str} {cs : Scope} {a : Addr} {ccd : Value} {cl : List (Str × Addr)} {outer : List Env} {A₀ : Around} {base h₀ : Heap} {L : Addr} {m : Str → Option Value} {s : Shared} {Q E : Value → Shared → Prop}
  {news : List (Addr × Obj)} {f : Addr} {dn : Nat} {vs : List Value}
theorem XPall.any {P : Value → Heap → Prop} {Xc : Heap → List Env → Addr → Heap → Prop} (B : Below A₀ base outer h₀ := by k_asm) (F : Fr h₀ L s.heap m := by k_asm) (X : (Mine.hd.heap_1 w.params).In h₀ := by k_asm) (T : Top Mine.hd.view_1 (looseW Mine.hd.view_1 []) mean mg mb h₀ := by k_asm) (N : News h₀ L s.heap news := by k_asm) (hk : cs.kind = .function := by first | exact rfl | assumption)
    (C : XPall w f dn vs s.heap P Xc) (hd : dp + dn < recursionLimit := by ktr_room) (hu : un + 8 * dn < cLine := by ktr_units)
    (h : ∀ v h' tk', P v h' → Ext s.heap h' → Fr h₀ L h' m → News h₀ L h' news → Q v { s with heap := h', toks := tk' })
    (hx : ∀ e h' tk', Xc base (envX cn cs L a ccd cl :: outer) e h' → E (.ref e) { s with heap := h', toks := tk' }) :
    wpAny (model PG w) (ktrTop dp un gd cn cs L a ccd cl outer) (call (.ref f) vs) Q E s :=
  C _ _ _ _ _ _ _ _ _ _ _ _ _ _ _ _ _ _ _ _ rfl B F X T hk hd hu (fun v h' tk' x p => h v h' tk' p x (x.fr F) (x.news N)) hx
theorem XCall.any {prog : Program} {P : Value → Heap → Prop} {Xc : Heap → List Env → Addr → Heap → Prop} (B : Below A₀ base outer h₀ := by k_asm) (F : Fr h₀ L s.heap m := by k_asm) (X : (Mine.hd.heap_1 w.params).In h₀ := by k_asm) (T : Top Mine.hd.view_1 (looseW Mine.hd.view_1 []) mean mg mb h₀ := by k_asm) (N : News h₀ L s.heap news := by k_asm) (hk : cs.kind = .function := by first | exact rfl | assumption)
    (C : XCall w f dn vs s.heap P Xc) (hd : dp + dn < recursionLimit := by ktr_room) (hu : un + 8 * dn < cLine := by ktr_units)
    (h : ∀ v h' tk', P v h' → Ext s.heap h' → Fr h₀ L h' m → News h₀ L h' news → Q v { s with heap := h', toks := tk' })
    (hx : ∀ e h' tk', Xc base (envX cn cs L a ccd cl :: outer) e h' → E (.ref e) { s with heap := h', toks := tk' }) :
    wpAny (model prog w) (ktrTop dp un gd cn cs L a ccd cl outer) (call (.ref f) vs) Q E s :=
  C _ _ _ _ _ _ _ _ _ _ _ _ _ _ _ _ _ _ _ _ _ rfl B F X T hk hd hu (fun v h' tk' x p => h v h' tk' p x (x.fr F) (x.news N)) hx
end
theorem NewRat.mono {h1 h2 h' : Heap} {b : Bool} {ns ms : List Int} {v : Value} (k : Ext h1 h2) (x : NewRat h2 b ns ms v h') : NewRat h1 b ns ms v h' := by
  obtain ⟨t, t2, l, l2, ws, e, us, e2, rfl, a1, a2, a3, a4, r⟩ := x
  have f : ∀ b, h2.get? b = none → h1.get? b = none := fun b q => by
    cases z : h1.get? b with
    | none => rfl
    | some o => rw [k _ _ z] at q; cases q
  exact ⟨t, t2, l, l2, ws, e, us, e2, rfl, f _ a1, f _ a2, f _ a3, f _ a4, r⟩
section
variable {w : World} {mean : ExcName → Option Value} {mg mb : Str → Option Value} {dp un : Nat} {gd : Option (List Code)} {cn : Str} {cs : Scope} {a : Addr} {ccd : Value} {cl : List (Str × Addr)} {outer : List Env} {A₀ : Around} {base h₀ : Heap} {L : Addr} {m : Str → Option Value} {s : Shared} {Q E : Value → Shared → Prop}
  {news : List (Addr × Obj)} {f : Addr} {dn : Nat} {vs : List Value} {k b spot : Nat} {ℓ : List Nat}
theorem PureCall.one {prog : Program} {o : Obj} (B : Below A₀ base outer h₀ := by k_asm) (F : Fr h₀ L s.heap m := by k_asm) (X : (Mine.hd.heap_1 w.params).In h₀ := by k_asm) (T : Top Mine.hd.view_1 (looseW Mine.hd.view_1 []) mean mg mb h₀ := by k_asm) (N : News h₀ L s.heap news := by k_asm) (hk : cs.kind = .function := by first | exact rfl | assumption)
    (C : PureCall w f dn vs s.heap (fun v h' => ∃ t, v = .ref t ∧ s.heap.get? t = none ∧ h'.get? t = some o)) (hd : dp + dn < recursionLimit := by ktr_room) (hu : un + 8 * dn < cLine := by ktr_units)
    (h : ∀ t h' tk', Fr h₀ L h' m → News h₀ L h' ((t, o) :: news) → AllNe t news → Q (.ref t) { s with heap := h', toks := tk' }) :
    wpAny (model prog w) (ktrTop dp un gd cn cs L a ccd cl outer) (call (.ref f) vs) Q E s := by
  refine PureCall.any B F X T N hk C hd hu fun v h' tk' p x' F' N' => ?_
  obtain ⟨t, rfl, hn, ho⟩ := p
  exact h t h' tk' F' (Ext.cons F N' hn ho) (allNe_of hn N)
theorem XPall.nat {Xc : Heap → List Env → Addr → Heap → Prop} (B : Below A₀ base outer h₀ := by k_asm) (F : Fr h₀ L s.heap m := by k_asm) (X : (Mine.hd.heap_1 w.params).In h₀ := by k_asm) (T : Top Mine.hd.view_1 (looseW Mine.hd.view_1 []) mean mg mb h₀ := by k_asm) (N : News h₀ L s.heap news := by k_asm) (hk : cs.kind = .function := by first | exact rfl | assumption)
    (C : XPall w f dn vs s.heap (fun v h' => ∃ n, n < 2 ^ 63 ∧ readNat b ℓ spot = .inr n ∧ NewInts s.heap (limbs k n) v h') Xc) (hd : dp + dn < recursionLimit := by ktr_room) (hu : un + 8 * dn < cLine := by ktr_units)
    (h : ∀ n l ws e h' tk', n < 2 ^ 63 → (limbs k n).length ≤ 64 → readNat b ℓ spot = .inr n → IntsAre ws (limbs k n) → Fr h₀ L h' m → News h₀ L h' ((l, W.listOf (List.toArray ws) e) :: news) → AllNe l news → Q (.ref l) { s with heap := h', toks := tk' })
    (hx : ∀ e h' tk', Xc base (envX cn cs L a ccd cl :: outer) e h' → E (.ref e) { s with heap := h', toks := tk' }) :
    wpAny (model PG w) (ktrTop dp un gd cn cs L a ccd cl outer) (call (.ref f) vs) Q E s := by
  refine XPall.any B F X T N hk C hd hu (fun v h' tk' p x F' N' => ?_) hx
  obtain ⟨n, hn, hr, l, ws, e, rfl, hl, ho, hI⟩ := p
  exact h n l ws e h' tk' hn (limbs_len (Nat.lt_trans hn (by decide))) hr hI F' (Ext.cons F N' hl ho) (allNe_of hl N)
end
end OEx7
section ON11
open Builtin Builtin.Str
theorem one_ints {k : Nat} (hk : 2 ≤ k) (t : Tok) : IntsAre [.int 1 t] (limbs k 1) := by
  rw [limbs_one hk]
  exact .cons _ _ .nil
theorem rat_whole {b k N : Nat} {x : Str} {h hc h' : Heap} {sg : Bool} {v : Value} (hr : readNat b (topOf x) (begOf x) = .inr N) (hb : barOf x = x.length) (hN : N < 2 ^ 63) (p : 0 < 1 ∧ NewRat hc sg (limbs k (N / Nat.gcd N 1)) (limbs k (1 / Nat.gcd N 1)) v h')
    (hs : sg = (negOf x && decide (0 < N))) (e : Ext h hc) : ∃ neg N M, readR b x = .told neg N M ∧ 0 < M ∧ N < 2 ^ 63 ∧ M < 2 ^ 63 ∧ NewRat h (neg && decide (0 < N)) (limbs k (N / Nat.gcd N M)) (limbs k (M / Nat.gcd N M)) v h' :=
  ⟨_, _, _, readR_whole hr hb, p.1, hN, by decide, hs ▸ p.2.mono e⟩
theorem rat_bar {b k N M : Nat} {x : Str} {h hc h' : Heap} {sg : Bool} {v : Value} (hr : readNat b (topOf x) (begOf x) = .inr N) (hb : barOf x ≠ x.length) (hr2 : readNat b (botOf x) (barOf x + 1) = .inr M) (hN : N < 2 ^ 63) (hM : M < 2 ^ 63) (p : 0 < M ∧ NewRat hc sg (limbs k (N / Nat.gcd N M)) (limbs k (M / Nat.gcd N M)) v h')
    (hs : sg = (negOf x && decide (0 < N))) (e : Ext h hc) : ∃ neg N M, readR b x = .told neg N M ∧ 0 < M ∧ N < 2 ^ 63 ∧ M < 2 ^ 63 ∧ NewRat h (neg && decide (0 < N)) (limbs k (N / Nat.gcd N M)) (limbs k (M / Nat.gcd N M)) v h' :=
  ⟨_, _, _, readR_told hr hb hr2 p.1, p.1, hN, hM, hs ▸ p.2.mono e⟩
theorem sign_len {k : Nat} (hk : 0 < k) (n : Nat) : (decide ((0 : Int) < ((limbs k n).length : Int)) && decide (0 < n)) = (true && decide (0 < n)) := by
  rcases Nat.eq_zero_or_pos n with h | h
  · subst h; simp
  · have := List.length_pos_iff.mpr (limbs_ne_nil hk h)
    simp [h, this]
theorem c_nat_from2 (w : World) (h : Heap) (y : Str) (l : List Nat) (sp : Int) (b k spot : Nat) (u u2 u3 t : Tok) (hl : y.cps.toList = l) (hs : sp = (spot : Int))
    (hx : l.length ≤ 12) (hb : 2 ≤ b ∧ b ≤ 36) (hk : 2 ≤ k ∧ k ≤ 9) : XPall w 142 8 [.str y t, .int sp u3, .int b u2, .int k u, .ref 175] h (fun v h' => ∃ N, N < 2 ^ 63 ∧ readNat b l spot = .inr N ∧ NewInts h (limbs k N) v h') (fun base l₂ e h' => ∃ n : Nat, readNat b l spot = .inl n ∧ BadFly n base h l₂ e h' ∧ h.UpToSlots h') := by
  subst hl hs
  exact c_nat_from w h y b k spot u u2 u3 t (by rwa [Array.length_toList] at hx) hb hk
example : True := by
  k_with "call ref" => (with_reducible refine atc 107 ?_; k_dflt (refine PureCall.one (C := c_signed_of _ _ _) (h := ?_); intro t' h' tk' F' N' l1; (try simp only [AllNe, and_true] at l1); (try k_sweep); (try dsimp only)))
  trivial
section SN11
example : True := by
  k_with_none
  k_with "my enter" => (refine' enterP ?k1_8126 ?k2_8126 ?k3_8126 ?k5_8126 ?kA_8126 ?kF_8126 ?kK_8126 ?k6_8126 ?k7_8126 ?k8_8126 ?kZ_8126 ?k9_8126 ?kB_8126 ?_ ?c2_8126 ?c3_8126 ?c4_8126 ?c5_8126; (case kA_8126 => exact rfl); (case kF_8126 => exact rfl); (case kK_8126 => assumption); (case k1_8126 => k_asm); (case k2_8126 => k_asm); (case k3_8126 => k_asm); (case k5_8126 => k_asm); (case k6_8126 => k_is); (case k7_8126 => k_is); (case k8_8126 => ktr_room); (case kZ_8126 => simp only [List.map_cons, List.map_nil, List.zip_cons_cons, List.zip_nil_left, List.zip_nil_right, List.reverse_cons, List.reverse_nil, List.nil_append, List.cons_append]; exact rfl); (case k9_8126 => exact BindsTo.of_eq rfl); (case c5_8126 => decide); (case kB_8126 => exact locs rfl); (case c2_8126 => exact rfl); (case c3_8126 => exact rfl); (case c4_8126 => exact rfl); k_whole; intro L' h' tk' F' N' B' X' T'; (try dsimp only); (try k_lift B'); (try k_fold))
  k_with "my enterC" => (refine' enterPC ?k1_8392 ?k2_8392 ?k3_8392 ?k5_8392 ?kA_8392 ?kF_8392 ?kK_8392 ?k6_8392 ?k7_8392 ?k8_8392 ?k9_8392 ?kB_8392 ?kD_8392 ?_ ?c2_8392 ?c3_8392 ?c4_8392; (case kA_8392 => exact rfl); (case kF_8392 => exact rfl); (case kK_8392 => assumption); (case k1_8392 => k_asm); (case k2_8392 => k_asm); (case k3_8392 => k_asm); (case k5_8392 => k_asm); (case k6_8392 => k_is); (case k7_8392 => k_is); (case k8_8392 => ktr_room); (case k9_8392 => exact BindsTo.of_eq rfl); (case kB_8392 => exact rfl); (case kD_8392 => decide +kernel); (case c2_8392 => exact rfl); (case c3_8392 => exact rfl); (case c4_8392 => exact rfl); k_whole; intro L' h' tk' cells' F' N' Y' B' X' T'; k_cells Y'; (try simp only [List.cons_append, List.nil_append] at N'); (try dsimp only); (try k_lift B'); (try k_fold))
  k_with "my keeps" => (first
  | exact True.intro
  | exact fun _ => True.intro
  | exact And.intro (fun o => mapFields_kd _ o) True.intro
  | exact And.intro (fun _ => And.intro rfl rfl) True.intro
  | assumption
  | (refine Keeps.bind ?_ fun _ => ?_ <;> walk_at "my keeps")
  | (split <;> walk_at "my keeps"))
  k_with "my get" => (first | exact News.get (by k_asm) (by assumption) | exact News.get (by k_asm) (by k_mem) | exact Fr.keep (by k_asm) _ _ (by assumption))
  k_with "om" => (first | assumption | omega)
  k_with "int" => (intro t' h' tk' F' N'; (try k_sweep); (try dsimp only))
  k_with "call ref" => (with_reducible refine atc 168 ?_; k_dflt (refine PureCall.int (C := c_whole _ _ _ _ _ _ _ _ (by walk_at "my get") (by assumption) (by walk_at "om") (by walk_at "om")) (h := ?_); walk_at "int"))
  k_with "ints" => (intro l' ws' e' h' tk' I' F' N' l1; (try simp only [AllNe, and_true] at l1); (try k_sweep); (try dsimp only))
  k_with "call ref" => (with_reducible refine atc 163 ?_; k_dflt (refine PureCall.ints (C := c_limbs _ _ _ _ _ _ (by walk_at "om") (by walk_at "om")) (h := ?_); walk_at "ints"))
  k_with "pair" => (intro t' l' l2' ws' e' us' e2' h' tk' I' I2' F' N' l1 l2 l3; (try simp only [AllNe, and_true] at l1 l2 l3); (try k_sweep); (try dsimp only))
  k_with "call ref" => (with_reducible refine atc 182 ?_; k_dflt (refine PureCall.pair (C := c_divrem _ _ _ _ _ _ _ _ _ _ _ _ (by walk_at "my get") (by assumption) (by walk_at "my get") (by assumption) (by walk_at "om") (by walk_at "om") (by walk_at "om") (by assumption)) (h := ?_); walk_at "pair"))
  k_with "call ref" => (with_reducible refine atc 79 ?_; k_dflt (refine PureCall.ints (C := c_normal _ _ _ _ _ _ _ (by walk_at "my get") (by assumption) (by walk_at "om") (by assumption)) (h := ?_); walk_at "ints"))
  k_with "call ref" => (with_reducible refine atc 100 ?_; k_dflt (refine PureCall.ints (C := c_common _ _ _ _ _ _ _ _ _ _ _ _ (by walk_at "my get") (by assumption) (by walk_at "my get") (by assumption) (by walk_at "om") (by walk_at "om") (by assumption)) (h := ?_); walk_at "ints"))
  k_with "my mem" => (first | exact List.Mem.head _ | (refine List.Mem.tail _ ?_; walk_at "my mem"))
  k_with "call ref" => (with_reducible refine atc 121 ?_; k_dflt (refine PureCall.int (C := c_plain _ _ _ _ _ _ _ _ (by walk_at "my get") (by assumption) (by walk_at "om") (by assumption)) (h := ?_); walk_at "int"))
  k_with "call ref" => (with_reducible refine atc 86 ?_; k_dflt (refine PureCall.ints (C := c_nat_of _ _ _ _ _ _ (by walk_at "om") (by walk_at "om")) (h := ?_); walk_at "ints"))
  k_with "call ref" => (with_reducible refine atc 128 ?_; k_dflt (refine PureCall.text (C := c_nat_text _ _ _ _ _ _ _ _ _ _ (by walk_at "my get") (by assumption) (by walk_at "om") (by assumption) (by assumption)) (h := ?_); walk_at "int"))
  k_with "call ref" => (with_reducible refine atc 175 ?_; k_dflt (refine PureCall.ints (C := c_mul _ _ _ _ _ _ _ _ _ _ _ _ (by walk_at "my get") (by assumption) (by walk_at "my get") (by assumption) (by walk_at "om") (by walk_at "om") (by walk_at "om") (by assumption)) (h := ?_); walk_at "ints"))
  k_with "call ref" => (with_reducible refine atc 93 ?_; k_dflt (refine PureCall.ints (C := c_add _ _ _ _ _ _ _ _ _ _ _ _ (by walk_at "my get") (by assumption) (by walk_at "my get") (by assumption) (by walk_at "om") (by walk_at "om") (by assumption)) (h := ?_); walk_at "ints"))
  k_with "call builtin:str.find" => (refine find_is (by assumption) ?_)
  k_with "call ref" => (with_reducible refine atc 58 ?_; k_dflt (refine call_bad (h := ?_); intro e' tp' d' hs' t' tn' h' tk' F' N' l1; (try k_sweep); (try dsimp only)))
  k_with "call ref" => (with_reducible refine atc 107 ?_; k_dflt (refine PureCall.one (C := c_signed_of _ _ _) (h := ?_); intro t' h' tk' F' N' l1; (try simp only [AllNe, and_true] at l1); (try k_sweep); (try dsimp only)))
  k_with "call ref" => (with_reducible refine atc 142 ?_; k_dflt (refine XPall.nat (C := c_nat_from2 _ _ _ _ _ _ _ _ _ _ _ _ (by assumption) (by assumption) (by assumption) (by assumption) (by assumption)) (h := ?_) (hx := ?_); rotate_left; intro e' h' tk' R'; refine Hold.out ?_; rotate_left; intro n' l' ws' e' h' tk' hn' hq' hr' I' F' N' l1; (try simp only [AllNe, and_true] at l1); (try k_sweep); (try dsimp only)))
  k_with "call ref" => (with_reducible refine atc 114 ?_; k_dflt (refine XCall.any (C := c_make _ _ _ _ _ _ _ _ _ _ _ _ _ _ _ (by walk_at "my get") (by walk_at "my get") (by walk_at "my get") (by assumption) (by walk_at "my get") (by first | assumption | (refine one_ints ?_ _; omega)) (by walk_at "om") (by walk_at "om") (by assumption)) (h := ?_) (hx := ?_); rotate_left; intro e' h' tk' R'; refine Hold.out ?_; rotate_left; intro v' h' tk' p' x' F' N'; clear N'; refine Hold.out ?_))
  trivial
set_option maxHeartbeats 8000000 in
theorem c_r_from (w : World) (h : Heap) (x : Str) (b k : Nat) (u u2 t : Tok)
    (hx : x.length ≤ 64) (hp1 : (topOf x).length ≤ 12) (hp2 : (botOf x).length ≤ 12) (hb : 2 ≤ b ∧ b ≤ 36) (hk : 2 ≤ k ∧ k ≤ 9) : XPall w 149 18 [.str x t, .int b u2, .int k u, .ref 175, .ref 182] h
    (fun v h' => ∃ neg N M, readR b x = .told neg N M ∧ 0 < M ∧ N < 2 ^ 63 ∧ M < 2 ^ 63 ∧ NewRat h (neg && decide (0 < N)) (limbs k (N / Nat.gcd N M)) (limbs k (M / Nat.gcd N M)) v h')
    (fun base l e h' => (∃ n : Nat, readR b x = .bad n ∧ BadFly n base h l e h' ∧ h.UpToSlots h') ∨ (readR b x = .nought ∧ Flew 37 h base l e h')) := by
  unfold XPall
  intro mean mg mb dp un gd cn cs a ccd cl outer A₀ base h₀ L m s Q E hs B F X T hkd hd hu hret hexc
  subst hs
  have hn1 := sl_one x
  have hbeg : begOf x = if negOf x = true then 1 else 0 := rfl
  have htopd : (x.cps.toList.take (barOf x)).drop (begOf x) = topOf x := rfl
  have hbotd : x.cps.toList.drop (barOf x + 1) = botOf x := rfl
  rcases find_spec x (Str.ofString "/") with hf | ⟨i, hf, hi1, hi2⟩
  · have hbar := bar_none hf
    rcases hng : negOf x with _ | _
    · rw [hng] at hn1 hbeg
      have hs1 : (0 : Int) = ((begOf x : Nat) : Int) := by rw [hbeg]; rfl
      have hl1 := sl_ss (x := x) (a := 0) (c := x.length) (by omega) (by omega)
      rw [← hbar, show (0 : Nat) = begOf x from hbeg.symm, htopd, hbar, show ((begOf x : Nat) : Int) = 0 from hs1.symm] at hl1
      k_dflt (walk_at "my enter")
      k_steps
      all_goals refine Hold.intro ?_
      all_goals rename Fr _ _ _ _ => F9
      all_goals first
        | exact absurd (show (x.length : Int) = x.length from rfl) (by assumption)
        | (rename (_ = 0 ∧ Flew _ _ _ _ _ _) => R9
           obtain ⟨hz, t9, vs9, S9, U9⟩ := R9
           change wpAny _ _ (leaving _ _) _ _ _
           refine leave_onS (by assumption) F9 S9 U9 fun h' S' K' U' => hexc _ _ _ (.inr ⟨?_, _, _, S', U'⟩)
           first
           | exact absurd hz (by decide)
           | exact readR_zero (by assumption) hbne (by assumption) hz)
        | (rename (∃ _, _ ∧ _ ∧ _) => R9
           obtain ⟨n9, hr9, S9, U9⟩ := R9
           change wpAny _ _ (leaving _ _) _ _ _
           refine leave_on_bad (by assumption) F9 S9 U9 fun h' S' U' => hexc _ _ _ (.inl ⟨n9, ?_, S', U'⟩)
           first
           | exact readR_bad1 hr9
           | exact readR_bad2 (by assumption) hbne hr9)
        | (rename (_ ∧ NewRat _ _ _ _ _ _) => p9
           rename Ext _ _ => x9
           refine hret _ _ _ F9.keep (rat_whole (by assumption) hbar (by assumption) p9 ?_ (Fr.keep (by assumption)))
           rw [hng]
           first | rfl | exact sign_len (by omega) _)
    · rw [hng] at hn1 hbeg
      have hlen := neg_len hng
      have hs1 : (1 : Int) = ((begOf x : Nat) : Int) := by rw [hbeg]; rfl
      have hl1 := sl_ss (x := x) (a := 1) (c := x.length) (by omega) (by omega)
      rw [← hbar, show (1 : Nat) = begOf x from hbeg.symm, htopd, hbar, show ((begOf x : Nat) : Int) = 1 from hs1.symm] at hl1
      k_dflt (walk_at "my enter")
      k_steps
      all_goals refine Hold.intro ?_
      all_goals rename Fr _ _ _ _ => F9
      all_goals first
        | exact absurd (show (x.length : Int) = x.length from rfl) (by assumption)
        | (rename (_ = 0 ∧ Flew _ _ _ _ _ _) => R9
           obtain ⟨hz, t9, vs9, S9, U9⟩ := R9
           change wpAny _ _ (leaving _ _) _ _ _
           refine leave_onS (by assumption) F9 S9 U9 fun h' S' K' U' => hexc _ _ _ (.inr ⟨?_, _, _, S', U'⟩)
           first
           | exact absurd hz (by decide)
           | exact readR_zero (by assumption) hbne (by assumption) hz)
        | (rename (∃ _, _ ∧ _ ∧ _) => R9
           obtain ⟨n9, hr9, S9, U9⟩ := R9
           change wpAny _ _ (leaving _ _) _ _ _
           refine leave_on_bad (by assumption) F9 S9 U9 fun h' S' U' => hexc _ _ _ (.inl ⟨n9, ?_, S', U'⟩)
           first
           | exact readR_bad1 hr9
           | exact readR_bad2 (by assumption) hbne hr9)
        | (rename (_ ∧ NewRat _ _ _ _ _ _) => p9
           rename Ext _ _ => x9
           refine hret _ _ _ F9.keep (rat_whole (by assumption) hbar (by assumption) p9 ?_ (Fr.keep (by assumption)))
           rw [hng]
           first | rfl | exact sign_len (by omega) _)
  · have hbar := bar_some hf
    have hat := bar_at hi1 hi2
    have hil := hat.1
    have hbne : barOf x ≠ x.length := by omega
    have hs2 : (i : Int) + 1 = ((barOf x + 1 : Nat) : Int) := by rw [hbar]; rfl
    have hl2 := sl_s (x := x) (a := i + 1) (by omega)
    rw [show i + 1 = barOf x + 1 by rw [hbar], hbotd, show ((barOf x + 1 : Nat) : Int) = (i : Int) + 1 from hs2.symm] at hl2
    rcases hng : negOf x with _ | _
    · rw [hng] at hn1 hbeg
      have hs1 : (0 : Int) = ((begOf x : Nat) : Int) := by rw [hbeg]; rfl
      have hl1 := sl_ss (x := x) (a := 0) (c := i) (by omega) (by omega)
      rw [← hbar, show (0 : Nat) = begOf x from hbeg.symm, htopd, hbar, show ((begOf x : Nat) : Int) = 0 from hs1.symm] at hl1
      k_dflt (walk_at "my enter")
      k_steps
      all_goals refine Hold.intro ?_
      all_goals rename Fr _ _ _ _ => F9
      all_goals first
        | exact absurd (show (i : Int) = x.length by assumption) (by omega)
        | (rename (_ = 0 ∧ Flew _ _ _ _ _ _) => R9
           obtain ⟨hz, t9, vs9, S9, U9⟩ := R9
           change wpAny _ _ (leaving _ _) _ _ _
           refine leave_onS (by assumption) F9 S9 U9 fun h' S' K' U' => hexc _ _ _ (.inr ⟨?_, _, _, S', U'⟩)
           first
           | exact absurd hz (by decide)
           | exact readR_zero (by assumption) hbne (by assumption) hz)
        | (rename (∃ _, _ ∧ _ ∧ _) => R9
           obtain ⟨n9, hr9, S9, U9⟩ := R9
           change wpAny _ _ (leaving _ _) _ _ _
           refine leave_on_bad (by assumption) F9 S9 U9 fun h' S' U' => hexc _ _ _ (.inl ⟨n9, ?_, S', U'⟩)
           first
           | exact readR_bad1 hr9
           | exact readR_bad2 (by assumption) hbne hr9)
        | (rename (_ ∧ NewRat _ _ _ _ _ _) => p9
           rename Ext _ _ => x9
           refine hret _ _ _ F9.keep (rat_bar (by assumption) hbne (by assumption) (by assumption) (by assumption) p9 ?_ (Fr.keep (by assumption)))
           rw [hng]
           first | rfl | exact sign_len (by omega) _)
    · rw [hng] at hn1 hbeg
      have hi1' := neg_bar hng hat.2
      have hs1 : (1 : Int) = ((begOf x : Nat) : Int) := by rw [hbeg]; rfl
      have hl1 := sl_ss (x := x) (a := 1) (c := i) (by omega) (by omega)
      rw [← hbar, show (1 : Nat) = begOf x from hbeg.symm, htopd, hbar, show ((begOf x : Nat) : Int) = 1 from hs1.symm] at hl1
      k_dflt (walk_at "my enter")
      k_steps
      all_goals refine Hold.intro ?_
      all_goals rename Fr _ _ _ _ => F9
      all_goals first
        | exact absurd (show (i : Int) = x.length by assumption) (by omega)
        | (rename (_ = 0 ∧ Flew _ _ _ _ _ _) => R9
           obtain ⟨hz, t9, vs9, S9, U9⟩ := R9
           change wpAny _ _ (leaving _ _) _ _ _
           refine leave_onS (by assumption) F9 S9 U9 fun h' S' K' U' => hexc _ _ _ (.inr ⟨?_, _, _, S', U'⟩)
           first
           | exact absurd hz (by decide)
           | exact readR_zero (by assumption) hbne (by assumption) hz)
        | (rename (∃ _, _ ∧ _ ∧ _) => R9
           obtain ⟨n9, hr9, S9, U9⟩ := R9
           change wpAny _ _ (leaving _ _) _ _ _
           refine leave_on_bad (by assumption) F9 S9 U9 fun h' S' U' => hexc _ _ _ (.inl ⟨n9, ?_, S', U'⟩)
           first
           | exact readR_bad1 hr9
           | exact readR_bad2 (by assumption) hbne hr9)
        | (rename (_ ∧ NewRat _ _ _ _ _ _) => p9
           rename Ext _ _ => x9
           refine hret _ _ _ F9.keep (rat_bar (by assumption) hbne (by assumption) (by assumption) (by assumption) p9 ?_ (Fr.keep (by assumption)))
           rw [hng]
           first | rfl | exact sign_len (by omega) _)
example : True := by
  k_with_none
  k_with "my enter" => (refine' enterP ?k1_8126 ?k2_8126 ?k3_8126 ?k5_8126 ?kA_8126 ?kF_8126 ?kK_8126 ?k6_8126 ?k7_8126 ?k8_8126 ?kZ_8126 ?k9_8126 ?kB_8126 ?_ ?c2_8126 ?c3_8126 ?c4_8126 ?c5_8126; (case kA_8126 => exact rfl); (case kF_8126 => exact rfl); (case kK_8126 => assumption); (case k1_8126 => k_asm); (case k2_8126 => k_asm); (case k3_8126 => k_asm); (case k5_8126 => k_asm); (case k6_8126 => k_is); (case k7_8126 => k_is); (case k8_8126 => ktr_room); (case kZ_8126 => simp only [List.map_cons, List.map_nil, List.zip_cons_cons, List.zip_nil_left, List.zip_nil_right, List.reverse_cons, List.reverse_nil, List.nil_append, List.cons_append]; exact rfl); (case k9_8126 => exact BindsTo.of_eq rfl); (case c5_8126 => decide); (case kB_8126 => exact locs rfl); (case c2_8126 => exact rfl); (case c3_8126 => exact rfl); (case c4_8126 => exact rfl); k_whole; intro L' h' tk' F' N' B' X' T'; (try dsimp only); (try k_lift B'); (try k_fold))
  k_with "my enterC" => (refine' enterPC ?k1_8392 ?k2_8392 ?k3_8392 ?k5_8392 ?kA_8392 ?kF_8392 ?kK_8392 ?k6_8392 ?k7_8392 ?k8_8392 ?k9_8392 ?kB_8392 ?kD_8392 ?_ ?c2_8392 ?c3_8392 ?c4_8392; (case kA_8392 => exact rfl); (case kF_8392 => exact rfl); (case kK_8392 => assumption); (case k1_8392 => k_asm); (case k2_8392 => k_asm); (case k3_8392 => k_asm); (case k5_8392 => k_asm); (case k6_8392 => k_is); (case k7_8392 => k_is); (case k8_8392 => ktr_room); (case k9_8392 => exact BindsTo.of_eq rfl); (case kB_8392 => exact rfl); (case kD_8392 => decide +kernel); (case c2_8392 => exact rfl); (case c3_8392 => exact rfl); (case c4_8392 => exact rfl); k_whole; intro L' h' tk' cells' F' N' Y' B' X' T'; k_cells Y'; (try simp only [List.cons_append, List.nil_append] at N'); (try dsimp only); (try k_lift B'); (try k_fold))
  k_with "my keeps" => (first
  | exact True.intro
  | exact fun _ => True.intro
  | exact And.intro (fun o => mapFields_kd _ o) True.intro
  | exact And.intro (fun _ => And.intro rfl rfl) True.intro
  | assumption
  | (refine Keeps.bind ?_ fun _ => ?_ <;> walk_at "my keeps")
  | (split <;> walk_at "my keeps"))
  k_with "my get" => (first | exact News.get (by k_asm) (by assumption) | exact News.get (by k_asm) (by k_mem) | exact Fr.keep (by k_asm) _ _ (by assumption))
  k_with "om" => (first | assumption | omega)
  k_with "int" => (intro t' h' tk' F' N'; (try k_sweep); (try dsimp only))
  k_with "call ref" => (with_reducible refine atc 168 ?_; k_dflt (refine PureCall.int (C := c_whole _ _ _ _ _ _ _ _ (by walk_at "my get") (by assumption) (by walk_at "om") (by walk_at "om")) (h := ?_); walk_at "int"))
  k_with "ints" => (intro l' ws' e' h' tk' I' F' N' l1; (try simp only [AllNe, and_true] at l1); (try k_sweep); (try dsimp only))
  k_with "call ref" => (with_reducible refine atc 163 ?_; k_dflt (refine PureCall.ints (C := c_limbs _ _ _ _ _ _ (by walk_at "om") (by walk_at "om")) (h := ?_); walk_at "ints"))
  k_with "pair" => (intro t' l' l2' ws' e' us' e2' h' tk' I' I2' F' N' l1 l2 l3; (try simp only [AllNe, and_true] at l1 l2 l3); (try k_sweep); (try dsimp only))
  k_with "call ref" => (with_reducible refine atc 182 ?_; k_dflt (refine PureCall.pair (C := c_divrem _ _ _ _ _ _ _ _ _ _ _ _ (by walk_at "my get") (by assumption) (by walk_at "my get") (by assumption) (by walk_at "om") (by walk_at "om") (by walk_at "om") (by assumption)) (h := ?_); walk_at "pair"))
  k_with "call ref" => (with_reducible refine atc 79 ?_; k_dflt (refine PureCall.ints (C := c_normal _ _ _ _ _ _ _ (by walk_at "my get") (by assumption) (by walk_at "om") (by assumption)) (h := ?_); walk_at "ints"))
  k_with "call ref" => (with_reducible refine atc 100 ?_; k_dflt (refine PureCall.ints (C := c_common _ _ _ _ _ _ _ _ _ _ _ _ (by walk_at "my get") (by assumption) (by walk_at "my get") (by assumption) (by walk_at "om") (by walk_at "om") (by assumption)) (h := ?_); walk_at "ints"))
  k_with "my mem" => (first | exact List.Mem.head _ | (refine List.Mem.tail _ ?_; walk_at "my mem"))
  k_with "call ref" => (with_reducible refine atc 121 ?_; k_dflt (refine PureCall.int (C := c_plain _ _ _ _ _ _ _ _ (by walk_at "my get") (by assumption) (by walk_at "om") (by assumption)) (h := ?_); walk_at "int"))
  k_with "call ref" => (with_reducible refine atc 86 ?_; k_dflt (refine PureCall.ints (C := c_nat_of _ _ _ _ _ _ (by walk_at "om") (by walk_at "om")) (h := ?_); walk_at "ints"))
  k_with "call ref" => (with_reducible refine atc 128 ?_; k_dflt (refine PureCall.text (C := c_nat_text _ _ _ _ _ _ _ _ _ _ (by walk_at "my get") (by assumption) (by walk_at "om") (by assumption) (by assumption)) (h := ?_); walk_at "int"))
  k_with "call ref" => (with_reducible refine atc 175 ?_; k_dflt (refine PureCall.ints (C := c_mul _ _ _ _ _ _ _ _ _ _ _ _ (by walk_at "my get") (by assumption) (by walk_at "my get") (by assumption) (by walk_at "om") (by walk_at "om") (by walk_at "om") (by assumption)) (h := ?_); walk_at "ints"))
  k_with "call ref" => (with_reducible refine atc 93 ?_; k_dflt (refine PureCall.ints (C := c_add _ _ _ _ _ _ _ _ _ _ _ _ (by walk_at "my get") (by assumption) (by walk_at "my get") (by assumption) (by walk_at "om") (by walk_at "om") (by assumption)) (h := ?_); walk_at "ints"))
  k_with "call builtin:str.find" => (refine find_is (by assumption) ?_)
  k_with "call ref" => (with_reducible refine atc 58 ?_; k_dflt (refine call_bad (h := ?_); intro e' tp' d' hs' t' tn' h' tk' F' N' l1; (try k_sweep); (try dsimp only)))
  k_with "call ref" => (with_reducible refine atc 107 ?_; k_dflt (refine PureCall.one (C := c_signed_of _ _ _) (h := ?_); intro t' h' tk' F' N' l1; (try simp only [AllNe, and_true] at l1); (try k_sweep); (try dsimp only)))
  trivial
end SN11
end ON11
section OEx8
open Builtin Builtin.Str
theorem bad_ga {P : Params} : findIn (Mine.hd.heap_1 P) (.ref 58) (Str.ofString "__getattribute__") = some (some (.builtin "BaseException.__getattribute__")) := by k_is
theorem bad_hook {P : Params} : findIn (Mine.hd.heap_1 P) (.ref 58) (Str.ofString "__getattr__") = some none := by k_is
theorem bad_mro {P : Params} : mroIn (Mine.hd.heap_1 P) 58 (.type "BaseException") = some true := by k_is
theorem bad_hd {P : Params} : hasDictIn (Mine.hd.heap_1 P) 58 = true := by k_is
theorem bad_value {prog : Program} {w : World} {A : Around} {E Q : Value → Shared → Prop} {s : Shared} {e : Addr} {oe : Obj} {od : Option Obj} {v : Value} {expr : Bool} (X : (Mine.hd.heap_1 w.params).In s.heap) (I : InstAt s.heap e oe 58 od)
    (hf : findObj (Mine.hd.heap_1 w.params) 58 od (Str.ofString "at") = some (.value v)) (hh : handedIn v = true) (h : Q v { s with toks := s.toks + 1 }) : wpAny (model prog w) A (getAttr (.ref e) (Str.ofString "at") expr) Q E s := by
  obtain ⟨hp, g, d, t, os⟩ := s
  have L0 := I.type (M := model prog w)
  have L1 := looks_findIn (M := model prog w) X bad_ga
  have L2 := looks_findIn (M := model prog w) X bad_hook
  have L3 := looks_find (M := model prog w) X I hf
  unfold getAttr getAttrBy
  refine wpAny_bind (wpAny_mkText (wpAny_holding (wpAny_bind (L0.at (wpAny_bind (L1.at ?_))))))
  show wpAny _ _ (getAttrByItsOwn (.ref e) (.str (Str.ofString "at") t) (.ref 58) (.builtin "BaseException.__getattribute__") true expr) _ _ _
  unfold getAttrByItsOwn hookBefore callGetattribute boundAndCalled
  refine wpAny_bind ?_
  rw [if_pos (show onTheHeap (.ref 58) = true from rfl)]
  refine L2.at ?_
  refine wpAny_bind (wpAny_attempt (wpAny_holding ?_))
  rw [if_neg (show ¬ (expr && onTheHeap (.builtin "BaseException.__getattribute__")) = true by cases expr <;> decide)]
  refine wpAny_bind (wpAny_of_eq (PySem.F.attr_Exception.ga.bind _) ?_)
  have hi : Looks (model prog w) hp (isInstance (.ref e) (.type "BaseException")) true := L0.andThen (looks_mroIn X bad_mro)
  refine wpAny_call (codeAny_call_builtin PySem.F.attr_Exception.ga.plain PySem.F.entry_bexc_ga (@check_slot (model prog w) _ _ _ "BaseException.__getattribute__" "BaseException" "__getattribute__" (.ref e) [.str (Str.ofString "at") t] [] _ (by decide +kernel) (by decide +kernel) hi (PySem.F.args_bexc_ga _ _) ?_))
  unfold Builtin.«object.__getattribute__»
  repeat (first | with_reducible refine L0.at ?_ | with_reducible refine L3.at ?_ | wp_step)
  show wpAny _ _ (handedOut v) _ _ _
  rw [handedOut_of hh]
  exact wpAny_pure h
theorem bad_attr {prog : Program} {w : World} {A : Around} {E Q : Value → Shared → Prop} {s : Shared} {h₀ : Heap} {L e d : Addr} {m : Str → Option Value} {news : List (Addr × Obj)} {oe : Obj} {vs : Array Value} {hs : Int} {t' tn : Tok} {n : Int} {expr : Bool}
    (F : Fr h₀ L s.heap m) (X : (Mine.hd.heap_1 w.params).In h₀) (N : News h₀ L s.heap news) (hm : (e, oe) ∈ news) (hm2 : (d, atObj hs t' tn n) ∈ news) (hc : oe.cls = .ref 58) (hd : oe.dict = some d) (hv : oe.data = .fields vs)
    (h : Q (.int n tn) { s with toks := s.toks + 1 }) : wpAny (model prog w) A (getAttr (.ref e) (Str.ofString "at") expr) Q E s := by
  have I : InstAt s.heap e oe 58 (some (atObj hs t' tn n)) := by
    refine ⟨(N _ hm).1, hc, ?_, ?_⟩
    · obtain ⟨a, b, c, f⟩ := oe
      dsimp only at hv
      subst hv
      rfl
    · rw [hd]; exact (N _ hm2).1
  exact bad_value (X.keeps F.keep) I (findObj_own bad_hd bad_at rfl (by rw [lookIn_dict]; rfl)) rfl h
section
variable {w : World} {A₀ : Around} {E : Value → Shared → Prop} {s' : Shared} {base g g₀ G : Heap} {outer : List Env} {L a e : Addr} {m : Str → Option Value} {name : Str} {scope : Scope} {cd : Value}
  {n : Str} {b₀ : Stmt} {suite : List Stmt} {pos : Pos} {rest hs : List ExceptHandler} {Q : Flow → Shared → Prop} {tt : Expr}
  {p : Program} {loose : List Str} {mean : ExcName → Option Value} {mg mb : Str → Option Value} {nn : Int} {prog : Program}
theorem look_bad (R : BadFly nn base G (envOf name scope L a cd :: outer) e s'.heap) (K : Below A₀ base outer g) (hsm : G.UpToSlots s'.heap)
    (k : ∀ h', BadFly nn base G (envOf name scope L a cd :: outer) e h' → G.UpToSlots h' → wpAny (model prog w) (A₀.deeper (envOf name scope L a cd)) (handleBy (.ref e) (envOf name scope L a cd) hs) Q E { s' with heap := h' }) :
    wpAny (model prog w) (A₀.deeper (envOf name scope L a cd)) (noteFrame (.ref e) (envOf name scope L a cd))
      (fun _ s₂ => wpAny (model prog w) (A₀.deeper (envOf name scope L a cd)) (setFlight (.ref e) none) (fun _ s₃ =>
        wpAny (model prog w) (A₀.deeper (envOf name scope L a cd)) (handleBy (.ref e) (envOf name scope L a cd) hs) Q E s₃) E s₂) E s' := by
  obtain ⟨B, a0, d, hs', t', tn, hB, hBG, hd1, hd2, hd3, hfl, kd⟩ := R
  refine Keeps.any (e := e) (d := some d) (.noteFrame _ _) kd ?_
  refine wpAny_looks_onW (Around.frames_deeper K.stack) rfl hfl fun h₄ hheld₄ hsm₄ kd₄ => ?_
  refine Keeps.any (e := e) (d := some d) (.setFlight _ _) kd₄ ?_
  refine wpAny_landsW hheld₄ fun h₅ hheld hsm₅' kd₅ => ?_
  exact k h₅ ⟨B, a0, d, hs', t', tn, hB, hBG, hd1, hd2, hd3, hheld, kd₅⟩ (hsm.trans (hsm₄.trans hsm₅'))
theorem BadFly.toSN (R : BadFly nn base G (envOf name scope L a cd :: outer) e s'.heap) : ∃ d hs t' tn, RaisedSN base G (envOf name scope L a cd :: outer) e (.ref 58) [(d, atObj hs t' tn nn)] s'.heap := by
  obtain ⟨B, a0, d, hs', t', tn, hB, hBG, hd1, hd2, hd3, hfl, kd⟩ := R
  exact ⟨d, hs', t', tn, B, a0, hB, hBG, fun q hq => by rw [List.mem_singleton.mp hq]; exact ⟨hd1, hd2, hd3⟩, hfl⟩
theorem hit_bad {KF : Frag} (R : BadFly nn base G (envOf name scope L a cd :: outer) e s'.heap) (F : Fr g L G m) (K : Below A₀ base outer g) (hsm : G.UpToSlots s'.heap) (XB : KF.In base) (TB : Top p loose mean mg mb base)
    (D : KtsDicts (outer.filterMap (·.frame)) g) (T : KtsTest prog w KF p loose mg mb name scope L a cd (.ref 58) tt true)
    (k : ∀ h' g' tk oe vs d hs t' tn, KtsTurn (outer.filterMap (·.frame)) g g' → Fr g' L h' (fun y => if y = n then some (.ref e) else m y) → News g' L h' [(e, oe), (d, atObj hs t' tn nn)] → oe.cls = .ref 58 → oe.dict = some d → oe.data = .fields vs →
      Below A₀ base outer g' → KF.In g' → Top p loose mean mg mb g' → KtsDicts (outer.filterMap (·.frame)) g' →
      wpAny (model prog w) ((A₀.deeper (envOf name scope L a cd)).mark (some (.ref e))) (execs (b₀ :: suite) (envOf name scope L a cd))
        (fun f s₄ => wpAny (model prog w) (A₀.deeper (envOf name scope L a cd)) (do bindName (envOf name scope L a cd) n .none; unbindBehindTheSuite (envOf name scope L a cd) n pos) (fun _ s₅ => Q f s₅) E s₄)
        (AsSuiteRaised (model prog w) ((A₀.deeper (envOf name scope L a cd)).mark (some (.ref e))) (envOf name scope L a cd) n pos (notedBy (model prog w) ((A₀.deeper (envOf name scope L a cd)).mark (some (.ref e))) (envOf name scope L a cd) (cameBackBy (model prog w) (A₀.deeper (envOf name scope L a cd)) (envOf name scope L a cd) E)))
        { s' with heap := h', toks := tk })
    (hk : scope.kind = .function := by rfl) (hlo : (envOf name scope L a cd).kindOf n = some .local := by rfl) :
    wpAny (model prog w) (A₀.deeper (envOf name scope L a cd)) (handleBy (.ref e) (envOf name scope L a cd) (.ExceptHandler (some tt) (some n) (b₀ :: suite) pos :: rest)) Q E s' := by
  obtain ⟨B, a0, d, hs', t', tn, hB, hBG, hd1, hd2, hd3, hfl, kd⟩ := R
  obtain ⟨g₅, T₅, F₅, K₅⟩ := kts_ground K F hBG hfl.1 hsm
  have ty : Looks (model prog w) s'.heap (typeOf (.ref e)) (.ref 58) := by
    obtain ⟨ob, hob, hc⟩ := hfl.there
    exact hc ▸ (Looks.ld hob).andThen .now
  refine wpAny_handleBy_cons (codeAny_handlers_test (T _ _ _ _ g₅ e m F₅ (XB.keeps K₅.stays) (topRead_of (TB.keeps K₅.stays)) ty fun h₅ kp => ?_)) (by intro q; cases q)
  have hsm₅ : G.UpToSlots h₅ := hsm.trans (Heap.UpToSlots.of_keeps kp)
  have hheld := flying_keeps hfl kp
  have hL : B.get? L = none := by
    obtain ⟨_, ⟨L', _, hf, hn', _⟩, _⟩ := hheld.2.2.1
    obtain rfl : L = L' := Option.some.inj hf
    exact hn'
  have kd₅ : KD e (some d) h₅ := by
    obtain ⟨o, ho, hod⟩ := kd
    exact ⟨o, kp _ _ ho, hod⟩
  refine codeAny_handlers_suite_as ?_
  refine Keeps.any (e := e) (d := some d) (.setFlight _ _) kd₅ ?_
  refine lands_againW hheld fun h₆ hfl₆ hsm₆ kd₆ => ?_
  obtain ⟨g₆, T₆, F₆, K₆⟩ := kts_ground K F hBG hfl₆.1 (hsm₅.trans hsm₆)
  obtain ⟨oe, ws, hoe, hoec, hoed, hoe0⟩ := hfl₆.first
  obtain ⟨oe', hoe', hdict⟩ := kd₆
  have hq : oe' = oe := Option.some.inj (hoe'.symm.trans hoe)
  subst hq
  have heL : e ≠ L := fun q => by
    obtain ⟨_, ⟨L', o, hf, _, ho, hnf⟩, _⟩ := hfl₆.2.2.1
    obtain rfl : L = L' := Option.some.inj hf
    rw [q, ho] at hoe
    cases hoe
    exact hnf _ hoed
  have ne₆ : g₆.get? e = none := T₆.none_ _ (kts_fresh F hBG hfl₆.2.1 fun o ho m => by
    obtain ⟨_, o', ho', hd⟩ := K.frames.mem m
    rw [ho] at ho'
    cases ho'
    obtain ⟨sl, hs⟩ := (hsm₅.trans hsm₆) _ _ (F.keep _ _ ho) hd
    rw [hoe] at hs
    cases hs
    exact hd _ hoed)
  have Nl : News g₆ L h₆ [(e, oe'), (d, atObj hs' t' tn nn)] := fun q hq => by
    simp only [List.mem_cons, List.not_mem_nil, or_false] at hq
    rcases hq with rfl | rfl
    · exact ⟨hoe, heL, ne₆⟩
    · refine ⟨hfl₆.1 _ _ hd1, ?_, T₆.none_ _ (kts_none F.keep hd2)⟩
      intro z
      rw [show d = L from z, hL] at hd1
      cases hd1
  refine stN F₆ Nl (fun h₇ F₇ N₇ => ?_) hk hlo
  exact k h₇ g₆ _ oe' ws d hs' t' tn T₆ F₇ N₇ hoec hdict hoed K₆ (XB.keeps K₆.stays) (TB.keeps K₆.stays) (D.turn T₆)
end
noncomputable def IsOut : Out → Array Value → Prop
  | .bad n, vs => ∃ t u, vs = #[.str (Str.ofString "bad") t, .int (n : Int) u]
  | .nought, vs => ∃ t, vs = #[.str (Str.ofString "nought") t]
  | .told a b, vs => ∃ t u u2, vs = #[.str (Str.ofString "told") t, .int a u, .int (b : Int) u2]
noncomputable def NewOut (o : Out) (h : Heap) (v : Value) (h' : Heap) : Prop := ∃ t vs, v = .ref t ∧ h.get? t = none ∧ h'.get? t = some (tup vs) ∧ IsOut o vs
noncomputable def HCall (w : World) (f : Addr) (dn : Nat) (vs : List Value) (h : Heap) (P : Value → Heap → Prop) : Prop :=
  ∀ (mean : ExcName → Option Value) (mg mb : Str → Option Value) (dp un : Nat) (gd : Option (List Code)) (cn : Str) (cs : Scope) (a : Addr) (ccd : Value) (cl : List (Str × Addr)) (A₀ : Around) (h₀ : Heap) (L : Addr) (m : Str → Option Value) (s : Shared) (Q E : Value → Shared → Prop),
    s.heap = h → Below A₀ h₀ [] h₀ → Fr h₀ L s.heap m → (Mine.hd.heap_1 w.params).In h₀ → Top Mine.hd.view_1 (looseW Mine.hd.view_1 []) mean mg mb h₀ → cs.kind = .function → dp + dn < recursionLimit → un + 8 * dn < cLine →
    (∀ v h' g' tk', KtsTurn [L] s.heap g' → Ext g' h' → P v h' → Q v { s with heap := h', toks := tk' }) →
    wpAny (model PG w) (ktrTop dp un gd cn cs L a ccd cl []) (call (.ref f) vs) Q E s
section
variable {w : World} {mean : ExcName → Option Value} {mg mb : Str → Option Value} {dp un : Nat} {gd : Option (List Code)} {cn : Str} {cs : Scope} {a : Addr} {ccd : Value} {cl : List (Str × Addr)} {outer : List Env} {A₀ : Around} {base h₀ : Heap} {L : Addr} {m : Str → Option Value} {s : Shared} {Q E : Value → Shared → Prop}
  {news : List (Addr × Obj)} {f : Addr} {dn : Nat} {vs : List Value} {k b : Nat} {x : Str}
theorem XPall.rat {Xc : Heap → List Env → Addr → Heap → Prop} (B : Below A₀ base outer h₀ := by k_asm) (F : Fr h₀ L s.heap m := by k_asm) (X : (Mine.hd.heap_1 w.params).In h₀ := by k_asm) (T : Top Mine.hd.view_1 (looseW Mine.hd.view_1 []) mean mg mb h₀ := by k_asm) (N : News h₀ L s.heap news := by k_asm) (hk : cs.kind = .function := by first | exact rfl | assumption)
    (C : XPall w f dn vs s.heap (fun v h' => ∃ neg N M, readR b x = .told neg N M ∧ 0 < M ∧ N < 2 ^ 63 ∧ M < 2 ^ 63 ∧ NewRat s.heap (neg && decide (0 < N)) (limbs k (N / Nat.gcd N M)) (limbs k (M / Nat.gcd N M)) v h') Xc) (hd : dp + dn < recursionLimit := by ktr_room) (hu : un + 8 * dn < cLine := by ktr_units)
    (h : ∀ (sg : Bool) (P R : Nat) t t2 l l2 ws e us e2 h' tk', (readR b x).out = .told (if sg = true then 0 - (P : Int) else (P : Int)) R → P < 2 ^ 64 → R < 2 ^ 64 → IntsAre ws (limbs k P) → IntsAre us (limbs k R) → Fr h₀ L h' m →
      News h₀ L h' ((t, tup #[.ref t2, .ref l2]) :: (t2, tup #[.bool sg, .ref l]) :: (l, W.listOf (List.toArray ws) e) :: (l2, W.listOf (List.toArray us) e2) :: news) → Q (.ref t) { s with heap := h', toks := tk' })
    (hx : ∀ e h' tk', Xc base (envX cn cs L a ccd cl :: outer) e h' → E (.ref e) { s with heap := h', toks := tk' }) :
    wpAny (model PG w) (ktrTop dp un gd cn cs L a ccd cl outer) (call (.ref f) vs) Q E s := by
  refine XPall.any B F X T N hk C hd hu (fun v h' tk' p x F' N' => ?_) hx
  obtain ⟨neg, P, R, hr, hR, hP1, hR1, t, t2, l, l2, ws, e, us, e2, rfl, a1, a2, a3, a4, b1, b2, b3, b4, i1, i2⟩ := p
  refine h _ _ _ t t2 l l2 ws e us e2 h' tk' (by rw [hr]; rfl) (Nat.lt_of_le_of_lt (Nat.div_le_self _ _) (Nat.lt_trans hP1 (show 2 ^ 63 < 2 ^ 64 by decide))) (Nat.lt_of_le_of_lt (Nat.div_le_self _ _) (Nat.lt_trans hR1 (show 2 ^ 63 < 2 ^ 64 by decide))) i1 i2 F'
    (Ext.cons F (Ext.cons F (Ext.cons F (Ext.cons F N' a4 b4) a3 b3) a2 b2) a1 b1)
end
theorem dicts_of {h₀ h : Heap} {L : Addr} {m : Str → Option Value} (F : Fr h₀ L h m) : KtsDicts [L] h := fun b hb => by
  rw [List.mem_singleton.mp hb]
  obtain ⟨o, es, ep, ho, hd, _⟩ := F.ns
  exact ⟨o, es, ep, ho, hd⟩
end OEx8
section ON12
open Builtin Builtin.Str
theorem turn_none {fs : List Addr} {g g' : Heap} {b : Addr} (T : KtsTurn fs g g') (h : g'.get? b = none) : g.get? b = none := by
  cases q : g.get? b with
  | none => rfl
  | some o =>
    obtain ⟨sl, hs⟩ := T.up q
    rw [h] at hs
    cases hs
section SN12
example : True := by
  k_with_none
  k_with "my enter" => (refine' enterP ?k1_8126 ?k2_8126 ?k3_8126 ?k5_8126 ?kA_8126 ?kF_8126 ?kK_8126 ?k6_8126 ?k7_8126 ?k8_8126 ?kZ_8126 ?k9_8126 ?kB_8126 ?_ ?c2_8126 ?c3_8126 ?c4_8126 ?c5_8126; (case kA_8126 => exact rfl); (case kF_8126 => exact rfl); (case kK_8126 => assumption); (case k1_8126 => k_asm); (case k2_8126 => k_asm); (case k3_8126 => k_asm); (case k5_8126 => k_asm); (case k6_8126 => k_is); (case k7_8126 => k_is); (case k8_8126 => ktr_room); (case kZ_8126 => simp only [List.map_cons, List.map_nil, List.zip_cons_cons, List.zip_nil_left, List.zip_nil_right, List.reverse_cons, List.reverse_nil, List.nil_append, List.cons_append]; exact rfl); (case k9_8126 => exact BindsTo.of_eq rfl); (case c5_8126 => decide); (case kB_8126 => exact locs rfl); (case c2_8126 => exact rfl); (case c3_8126 => exact rfl); (case c4_8126 => exact rfl); k_whole; intro L' h' tk' F' N' B' X' T'; (try dsimp only); (try k_lift B'); (try k_fold))
  k_with "my enterC" => (refine' enterPC ?k1_8392 ?k2_8392 ?k3_8392 ?k5_8392 ?kA_8392 ?kF_8392 ?kK_8392 ?k6_8392 ?k7_8392 ?k8_8392 ?k9_8392 ?kB_8392 ?kD_8392 ?_ ?c2_8392 ?c3_8392 ?c4_8392; (case kA_8392 => exact rfl); (case kF_8392 => exact rfl); (case kK_8392 => assumption); (case k1_8392 => k_asm); (case k2_8392 => k_asm); (case k3_8392 => k_asm); (case k5_8392 => k_asm); (case k6_8392 => k_is); (case k7_8392 => k_is); (case k8_8392 => ktr_room); (case k9_8392 => exact BindsTo.of_eq rfl); (case kB_8392 => exact rfl); (case kD_8392 => decide +kernel); (case c2_8392 => exact rfl); (case c3_8392 => exact rfl); (case c4_8392 => exact rfl); k_whole; intro L' h' tk' cells' F' N' Y' B' X' T'; k_cells Y'; (try simp only [List.cons_append, List.nil_append] at N'); (try dsimp only); (try k_lift B'); (try k_fold))
  k_with "my keeps" => (first
  | exact True.intro
  | exact fun _ => True.intro
  | exact And.intro (fun o => mapFields_kd _ o) True.intro
  | exact And.intro (fun _ => And.intro rfl rfl) True.intro
  | assumption
  | (refine Keeps.bind ?_ fun _ => ?_ <;> walk_at "my keeps")
  | (split <;> walk_at "my keeps"))
  k_with "my get" => (first | exact News.get (by k_asm) (by assumption) | exact News.get (by k_asm) (by k_mem) | exact Fr.keep (by k_asm) _ _ (by assumption))
  k_with "om" => (first | assumption | omega)
  k_with "int" => (intro t' h' tk' F' N'; (try k_sweep); (try dsimp only))
  k_with "call ref" => (with_reducible refine atc 168 ?_; k_dflt (refine PureCall.int (C := c_whole _ _ _ _ _ _ _ _ (by walk_at "my get") (by assumption) (by walk_at "om") (by walk_at "om")) (h := ?_); walk_at "int"))
  k_with "ints" => (intro l' ws' e' h' tk' I' F' N' l1; (try simp only [AllNe, and_true] at l1); (try k_sweep); (try dsimp only))
  k_with "call ref" => (with_reducible refine atc 163 ?_; k_dflt (refine PureCall.ints (C := c_limbs _ _ _ _ _ _ (by walk_at "om") (by walk_at "om")) (h := ?_); walk_at "ints"))
  k_with "pair" => (intro t' l' l2' ws' e' us' e2' h' tk' I' I2' F' N' l1 l2 l3; (try simp only [AllNe, and_true] at l1 l2 l3); (try k_sweep); (try dsimp only))
  k_with "call ref" => (with_reducible refine atc 182 ?_; k_dflt (refine PureCall.pair (C := c_divrem _ _ _ _ _ _ _ _ _ _ _ _ (by walk_at "my get") (by assumption) (by walk_at "my get") (by assumption) (by walk_at "om") (by walk_at "om") (by walk_at "om") (by assumption)) (h := ?_); walk_at "pair"))
  k_with "call ref" => (with_reducible refine atc 79 ?_; k_dflt (refine PureCall.ints (C := c_normal _ _ _ _ _ _ _ (by walk_at "my get") (by assumption) (by walk_at "om") (by assumption)) (h := ?_); walk_at "ints"))
  k_with "call ref" => (with_reducible refine atc 100 ?_; k_dflt (refine PureCall.ints (C := c_common _ _ _ _ _ _ _ _ _ _ _ _ (by walk_at "my get") (by assumption) (by walk_at "my get") (by assumption) (by walk_at "om") (by walk_at "om") (by assumption)) (h := ?_); walk_at "ints"))
  k_with "my mem" => (first | exact List.Mem.head _ | (refine List.Mem.tail _ ?_; walk_at "my mem"))
  k_with "call ref" => (with_reducible refine atc 121 ?_; k_dflt (refine PureCall.int (C := c_plain _ _ _ _ _ _ _ _ (by walk_at "my get") (by assumption) (by walk_at "om") (by assumption)) (h := ?_); walk_at "int"))
  k_with "call ref" => (with_reducible refine atc 86 ?_; k_dflt (refine PureCall.ints (C := c_nat_of _ _ _ _ _ _ (by walk_at "om") (by walk_at "om")) (h := ?_); walk_at "ints"))
  k_with "call ref" => (with_reducible refine atc 128 ?_; k_dflt (refine PureCall.text (C := c_nat_text _ _ _ _ _ _ _ _ _ _ (by walk_at "my get") (by assumption) (by walk_at "om") (by assumption) (by assumption)) (h := ?_); walk_at "int"))
  k_with "call ref" => (with_reducible refine atc 175 ?_; k_dflt (refine PureCall.ints (C := c_mul _ _ _ _ _ _ _ _ _ _ _ _ (by walk_at "my get") (by assumption) (by walk_at "my get") (by assumption) (by walk_at "om") (by walk_at "om") (by walk_at "om") (by assumption)) (h := ?_); walk_at "ints"))
  k_with "call ref" => (with_reducible refine atc 93 ?_; k_dflt (refine PureCall.ints (C := c_add _ _ _ _ _ _ _ _ _ _ _ _ (by walk_at "my get") (by assumption) (by walk_at "my get") (by assumption) (by walk_at "om") (by walk_at "om") (by assumption)) (h := ?_); walk_at "ints"))
  k_with "call builtin:str.find" => (refine find_is (by assumption) ?_)
  k_with "call ref" => (with_reducible refine atc 58 ?_; k_dflt (refine call_bad (h := ?_); intro e' tp' d' hs' t' tn' h' tk' F' N' l1; (try k_sweep); (try dsimp only)))
  k_with "call ref" => (with_reducible refine atc 107 ?_; k_dflt (refine PureCall.one (C := c_signed_of _ _ _) (h := ?_); intro t' h' tk' F' N' l1; (try simp only [AllNe, and_true] at l1); (try k_sweep); (try dsimp only)))
  k_with "call ref" => (with_reducible refine atc 149 ?_; k_dflt (refine XPall.rat (C := c_r_from _ _ _ _ _ _ _ _ (by assumption) (by assumption) (by assumption) (by assumption) (by assumption)) (h := ?_) (hx := ?_); rotate_left; intro e' h' tk' R'; refine Hold.out ?_; rotate_left; intro sg' P' R' t' t2' l' l2' ws' e' us' e2' h' tk' hr' hP' hR' I1' I2' F' N'; (try k_sweep); (try dsimp only)))
  k_with "getAttr ref" => ((with_reducible show wpAny _ _ (getAttr (Value.ref _) (Str.ofString "at") _) _ _ _); k_dflt (refine' bad_attr ?F_8061 ?X_8061 ?N_8061 ?hm_8061 ?hm2_8061 ?hc_8061 ?hd_8061 ?hv_8061 ?_; (case F_8061 => k_asm); (case X_8061 => k_asm); (case N_8061 => k_asm); (case hm_8061 => k_mem); (case hm2_8061 => k_mem); (case hc_8061 => assumption); (case hd_8061 => assumption); (case hv_8061 => assumption)))
  k_with "exec Try" => (k_dflt (refine wpAny_Try_except ?_))
  trivial
set_option maxHeartbeats 8000000 in
theorem c_heard (w : World) (h : Heap) (x : Str) (b k : Nat) (u u2 t : Tok)
    (hx : x.length ≤ 64) (hp1 : (topOf x).length ≤ 12) (hp2 : (botOf x).length ≤ 12) (hb : 2 ≤ b ∧ b ≤ 36) (hk : 2 ≤ k ∧ k ≤ 9) : HCall w 210 20 [.str x t, .int b u2, .int k u] h (NewOut (readR b x).out h) := by
  unfold HCall
  intro mean mg mb dp un gd cn cs a ccd cl A₀ h₀ L m s Q E hs B F X T hkd hd hu hret
  subst hs
  have D := dicts_of F
  k_dflt (walk_at "my enter")
  k_steps
  · rename Fr _ _ _ _ => F9
    rename News _ _ _ _ => N9
    rename Bool => sg9
    rename (Heard.out _ = _) => hr9
    refine hret _ _ s.heap _ KtsTurn.refl F9.keep ⟨_, _, rfl, (N9 _ (.head _)).2.2, (N9 _ (.head _)).1, ?_⟩
    rw [hr9]
    cases sg9 <;> first | contradiction | exact ⟨_, _, _, rfl⟩
  · rename Fr _ _ _ _ => F9
    rename News _ _ _ _ => N9
    rename Bool => sg9
    rename (Heard.out _ = _) => hr9
    refine hret _ _ s.heap _ KtsTurn.refl F9.keep ⟨_, _, rfl, (N9 _ (.head _)).2.2, (N9 _ (.head _)).1, ?_⟩
    rw [hr9]
    cases sg9 <;> first | contradiction | exact ⟨_, _, _, rfl⟩
  · refine Hold.intro ?_
    rename (_ ∨ _) => R9
    rename Fr _ _ _ _ => F9
    rename News _ _ _ _ => N9
    rcases R9 with ⟨n9, hr9, S9, U9⟩ | ⟨hr9, t9, vs9, S9, U9⟩
    · refine look_bad S9 (by assumption) U9 fun h' R' U' => ?_
      refine hit_bad R' F9 (by assumption) U' X T D ?_ ?_
      · kts_test
      · intro h' g' tk oe vs d hs' t' tn T' F' N' hc' hd' hv' K' X' P' D'
        clear F9 N9
        k_steps
        rename Fr _ _ _ _ => F10
        rename News _ _ _ _ => N10
        refine hret _ _ g' _ T' F10.keep ⟨_, _, rfl, turn_none T' (N10 _ (.head _)).2.2, (N10 _ (.head _)).1, ?_⟩
        rw [hr9]
        exact ⟨_, _, rfl⟩
    · refine kts_lookS S9 F9 (by assumption) U9 D fun h' R' U' => ?_
      refine pass_S R' F9 (by assumption) U' X T D ?_ fun h'' R'' U'' => ?_
      · kts_test
      refine hit_S0 R'' F9 (by assumption) U'' X T D KtsTurn.refl ?_ ?_
      · kts_test
      · intro h' g' n₂ T' F' N₂ G' N' K' X' P' D'
        clear F9 N9
        k_steps
        rename Fr _ _ _ _ => F10
        rename News _ _ _ _ => N10
        refine hret _ _ g' _ T' F10.keep ⟨_, _, rfl, turn_none T' (N10 _ (.head _)).2.2, (N10 _ (.head _)).1, ?_⟩
        rw [hr9]
        exact ⟨_, rfl⟩
example : True := by
  k_with_none
  k_with "my enter" => (refine' enterP ?k1_8126 ?k2_8126 ?k3_8126 ?k5_8126 ?kA_8126 ?kF_8126 ?kK_8126 ?k6_8126 ?k7_8126 ?k8_8126 ?kZ_8126 ?k9_8126 ?kB_8126 ?_ ?c2_8126 ?c3_8126 ?c4_8126 ?c5_8126; (case kA_8126 => exact rfl); (case kF_8126 => exact rfl); (case kK_8126 => assumption); (case k1_8126 => k_asm); (case k2_8126 => k_asm); (case k3_8126 => k_asm); (case k5_8126 => k_asm); (case k6_8126 => k_is); (case k7_8126 => k_is); (case k8_8126 => ktr_room); (case kZ_8126 => simp only [List.map_cons, List.map_nil, List.zip_cons_cons, List.zip_nil_left, List.zip_nil_right, List.reverse_cons, List.reverse_nil, List.nil_append, List.cons_append]; exact rfl); (case k9_8126 => exact BindsTo.of_eq rfl); (case c5_8126 => decide); (case kB_8126 => exact locs rfl); (case c2_8126 => exact rfl); (case c3_8126 => exact rfl); (case c4_8126 => exact rfl); k_whole; intro L' h' tk' F' N' B' X' T'; (try dsimp only); (try k_lift B'); (try k_fold))
  k_with "my enterC" => (refine' enterPC ?k1_8392 ?k2_8392 ?k3_8392 ?k5_8392 ?kA_8392 ?kF_8392 ?kK_8392 ?k6_8392 ?k7_8392 ?k8_8392 ?k9_8392 ?kB_8392 ?kD_8392 ?_ ?c2_8392 ?c3_8392 ?c4_8392; (case kA_8392 => exact rfl); (case kF_8392 => exact rfl); (case kK_8392 => assumption); (case k1_8392 => k_asm); (case k2_8392 => k_asm); (case k3_8392 => k_asm); (case k5_8392 => k_asm); (case k6_8392 => k_is); (case k7_8392 => k_is); (case k8_8392 => ktr_room); (case k9_8392 => exact BindsTo.of_eq rfl); (case kB_8392 => exact rfl); (case kD_8392 => decide +kernel); (case c2_8392 => exact rfl); (case c3_8392 => exact rfl); (case c4_8392 => exact rfl); k_whole; intro L' h' tk' cells' F' N' Y' B' X' T'; k_cells Y'; (try simp only [List.cons_append, List.nil_append] at N'); (try dsimp only); (try k_lift B'); (try k_fold))
  k_with "my keeps" => (first
  | exact True.intro
  | exact fun _ => True.intro
  | exact And.intro (fun o => mapFields_kd _ o) True.intro
  | exact And.intro (fun _ => And.intro rfl rfl) True.intro
  | assumption
  | (refine Keeps.bind ?_ fun _ => ?_ <;> walk_at "my keeps")
  | (split <;> walk_at "my keeps"))
  k_with "my get" => (first | exact News.get (by k_asm) (by assumption) | exact News.get (by k_asm) (by k_mem) | exact Fr.keep (by k_asm) _ _ (by assumption))
  k_with "om" => (first | assumption | omega)
  k_with "int" => (intro t' h' tk' F' N'; (try k_sweep); (try dsimp only))
  k_with "call ref" => (with_reducible refine atc 168 ?_; k_dflt (refine PureCall.int (C := c_whole _ _ _ _ _ _ _ _ (by walk_at "my get") (by assumption) (by walk_at "om") (by walk_at "om")) (h := ?_); walk_at "int"))
  k_with "ints" => (intro l' ws' e' h' tk' I' F' N' l1; (try simp only [AllNe, and_true] at l1); (try k_sweep); (try dsimp only))
  k_with "call ref" => (with_reducible refine atc 163 ?_; k_dflt (refine PureCall.ints (C := c_limbs _ _ _ _ _ _ (by walk_at "om") (by walk_at "om")) (h := ?_); walk_at "ints"))
  k_with "pair" => (intro t' l' l2' ws' e' us' e2' h' tk' I' I2' F' N' l1 l2 l3; (try simp only [AllNe, and_true] at l1 l2 l3); (try k_sweep); (try dsimp only))
  k_with "call ref" => (with_reducible refine atc 182 ?_; k_dflt (refine PureCall.pair (C := c_divrem _ _ _ _ _ _ _ _ _ _ _ _ (by walk_at "my get") (by assumption) (by walk_at "my get") (by assumption) (by walk_at "om") (by walk_at "om") (by walk_at "om") (by assumption)) (h := ?_); walk_at "pair"))
  k_with "call ref" => (with_reducible refine atc 79 ?_; k_dflt (refine PureCall.ints (C := c_normal _ _ _ _ _ _ _ (by walk_at "my get") (by assumption) (by walk_at "om") (by assumption)) (h := ?_); walk_at "ints"))
  k_with "call ref" => (with_reducible refine atc 100 ?_; k_dflt (refine PureCall.ints (C := c_common _ _ _ _ _ _ _ _ _ _ _ _ (by walk_at "my get") (by assumption) (by walk_at "my get") (by assumption) (by walk_at "om") (by walk_at "om") (by assumption)) (h := ?_); walk_at "ints"))
  k_with "my mem" => (first | exact List.Mem.head _ | (refine List.Mem.tail _ ?_; walk_at "my mem"))
  k_with "call ref" => (with_reducible refine atc 121 ?_; k_dflt (refine PureCall.int (C := c_plain _ _ _ _ _ _ _ _ (by walk_at "my get") (by assumption) (by walk_at "om") (by assumption)) (h := ?_); walk_at "int"))
  k_with "call ref" => (with_reducible refine atc 86 ?_; k_dflt (refine PureCall.ints (C := c_nat_of _ _ _ _ _ _ (by walk_at "om") (by walk_at "om")) (h := ?_); walk_at "ints"))
  k_with "call ref" => (with_reducible refine atc 128 ?_; k_dflt (refine PureCall.text (C := c_nat_text _ _ _ _ _ _ _ _ _ _ (by walk_at "my get") (by assumption) (by walk_at "om") (by assumption) (by assumption)) (h := ?_); walk_at "int"))
  k_with "call ref" => (with_reducible refine atc 175 ?_; k_dflt (refine PureCall.ints (C := c_mul _ _ _ _ _ _ _ _ _ _ _ _ (by walk_at "my get") (by assumption) (by walk_at "my get") (by assumption) (by walk_at "om") (by walk_at "om") (by walk_at "om") (by assumption)) (h := ?_); walk_at "ints"))
  k_with "call ref" => (with_reducible refine atc 93 ?_; k_dflt (refine PureCall.ints (C := c_add _ _ _ _ _ _ _ _ _ _ _ _ (by walk_at "my get") (by assumption) (by walk_at "my get") (by assumption) (by walk_at "om") (by walk_at "om") (by assumption)) (h := ?_); walk_at "ints"))
  k_with "call builtin:str.find" => (refine find_is (by assumption) ?_)
  k_with "call ref" => (with_reducible refine atc 58 ?_; k_dflt (refine call_bad (h := ?_); intro e' tp' d' hs' t' tn' h' tk' F' N' l1; (try k_sweep); (try dsimp only)))
  k_with "call ref" => (with_reducible refine atc 107 ?_; k_dflt (refine PureCall.one (C := c_signed_of _ _ _) (h := ?_); intro t' h' tk' F' N' l1; (try simp only [AllNe, and_true] at l1); (try k_sweep); (try dsimp only)))
  trivial
end SN12
end ON12
section ON13
open Builtin Builtin.Str
theorem cons_str (c : Nat) (l : List Nat) : (⟨#[c]⟩ : Str) ++ ⟨l.toArray⟩ = ⟨(c :: l).toArray⟩ := by
  show Str.append _ _ = _
  unfold Str.append
  congr 1
  apply Array.ext'
  simp
theorem tail_sg {prog : Program} {w : World} {A : Around} {E Q : Value → Shared → Prop} {s : Shared} {value slice : Expr} {i : Int} {t u : Tok} {d : Nat} (hi : i = (d : Int)) (hd : d < 36) (h : Q (.str ⟨#[dgc d]⟩ s.toks) { s with toks := s.toks + 1 })
    (hs : subscripted slice false (.str SG t) (.int i u) = operate [.str SG t, .int i u] (getItem (.str SG t) (.int i u)) := by with_unfolding_all rfl)
    (ht : ∀ r, letTemporaryGo value (.str SG t) r = pure () := by intro _; with_unfolding_all rfl) : wpAny (model prog w) A (subscriptTail value slice (.str SG t) (.int i u)) Q E s := by
  have hl : SG.length = 36 := by decide +kernel
  refine item_str (fitsSsize_of (N := 9223372036854775808) (by omega) (by omega) (Int.le_refl _)) (by omega) (by omega) (fun _ => ?_) hs ht
  subst hi
  rw [item_signs _ hd]
  exact h
theorem add_one {prog : Program} {w : World} {A : Around} {E Q : Value → Shared → Prop} {s : Shared} {c : Nat} {T : List Nat} {t u : Tok} (hT : T.length ≤ 100)
    (h : ∀ t' tk, Q (.str ⟨(c :: T).toArray⟩ t') { s with toks := tk }) : wpAny (model prog w) A (binaryOp .Add (.str ⟨#[c]⟩ t) (.str ⟨T.toArray⟩ u)) Q E s := by
  refine add_str (fun t' tk => ?_) ?_
  · rw [cons_str]; exact h t' tk
  · rw [sizeLine_eq]
    show 1 + T.toArray.size ≤ _
    rw [List.size_toArray]
    omega
theorem full_start {b n : Nat} (hb : 1 < b) : fullN b n = (digs b (n / b)).reverse ++ [dgc (n % b)] := by
  unfold fullN
  split
  · rename_i h
    subst h
    rw [Nat.zero_div, digs_zero, Nat.zero_mod]; rfl
  · rw [digs_pos (by omega) hb, List.reverse_cons]
theorem full_step {b P : Nat} (hb : 1 < b) (hP : b ≤ P) (T : List Nat) : (digs b (P / b)).reverse ++ T = (digs b (P / b / b)).reverse ++ (dgc (P / b % b) :: T) := by
  rw [digs_pos (Nat.div_pos hP (by omega)) hb, List.reverse_cons, List.append_assoc]; rfl
theorem full_len64 {b n : Nat} (hb : 1 < b) (hn : n < 2 ^ 64) : (fullN b n).length ≤ 65 := by
  unfold fullN
  split
  · simp
  · have := digs_len hb hn
    simp; omega
section SN13
local macro_rules | `(tactic| walk_at "subscriptTail") => `(tactic| (k_dflt (refine' tail_sg ?hi ?hd ?_; (case hi => assumption); (case hd => assumption))))
example : True := by
  k_with_none
  k_with "my enter" => (refine' enterP ?k1_8126 ?k2_8126 ?k3_8126 ?k5_8126 ?kA_8126 ?kF_8126 ?kK_8126 ?k6_8126 ?k7_8126 ?k8_8126 ?kZ_8126 ?k9_8126 ?kB_8126 ?_ ?c2_8126 ?c3_8126 ?c4_8126 ?c5_8126; (case kA_8126 => exact rfl); (case kF_8126 => exact rfl); (case kK_8126 => assumption); (case k1_8126 => k_asm); (case k2_8126 => k_asm); (case k3_8126 => k_asm); (case k5_8126 => k_asm); (case k6_8126 => k_is); (case k7_8126 => k_is); (case k8_8126 => ktr_room); (case kZ_8126 => simp only [List.map_cons, List.map_nil, List.zip_cons_cons, List.zip_nil_left, List.zip_nil_right, List.reverse_cons, List.reverse_nil, List.nil_append, List.cons_append]; exact rfl); (case k9_8126 => exact BindsTo.of_eq rfl); (case c5_8126 => decide); (case kB_8126 => exact locs rfl); (case c2_8126 => exact rfl); (case c3_8126 => exact rfl); (case c4_8126 => exact rfl); k_whole; intro L' h' tk' F' N' B' X' T'; (try dsimp only); (try k_lift B'); (try k_fold))
  k_with "my enterC" => (refine' enterPC ?k1_8392 ?k2_8392 ?k3_8392 ?k5_8392 ?kA_8392 ?kF_8392 ?kK_8392 ?k6_8392 ?k7_8392 ?k8_8392 ?k9_8392 ?kB_8392 ?kD_8392 ?_ ?c2_8392 ?c3_8392 ?c4_8392; (case kA_8392 => exact rfl); (case kF_8392 => exact rfl); (case kK_8392 => assumption); (case k1_8392 => k_asm); (case k2_8392 => k_asm); (case k3_8392 => k_asm); (case k5_8392 => k_asm); (case k6_8392 => k_is); (case k7_8392 => k_is); (case k8_8392 => ktr_room); (case k9_8392 => exact BindsTo.of_eq rfl); (case kB_8392 => exact rfl); (case kD_8392 => decide +kernel); (case c2_8392 => exact rfl); (case c3_8392 => exact rfl); (case c4_8392 => exact rfl); k_whole; intro L' h' tk' cells' F' N' Y' B' X' T'; k_cells Y'; (try simp only [List.cons_append, List.nil_append] at N'); (try dsimp only); (try k_lift B'); (try k_fold))
  k_with "my keeps" => (first
  | exact True.intro
  | exact fun _ => True.intro
  | exact And.intro (fun o => mapFields_kd _ o) True.intro
  | exact And.intro (fun _ => And.intro rfl rfl) True.intro
  | assumption
  | (refine Keeps.bind ?_ fun _ => ?_ <;> walk_at "my keeps")
  | (split <;> walk_at "my keeps"))
  k_with "my get" => (first | exact News.get (by k_asm) (by assumption) | exact News.get (by k_asm) (by k_mem) | exact Fr.keep (by k_asm) _ _ (by assumption))
  k_with "om" => (first | assumption | omega)
  k_with "int" => (intro t' h' tk' F' N'; (try k_sweep); (try dsimp only))
  k_with "call ref" => (with_reducible refine atc 168 ?_; k_dflt (refine PureCall.int (C := c_whole _ _ _ _ _ _ _ _ (by walk_at "my get") (by assumption) (by walk_at "om") (by walk_at "om")) (h := ?_); walk_at "int"))
  k_with "ints" => (intro l' ws' e' h' tk' I' F' N' l1; (try simp only [AllNe, and_true] at l1); (try k_sweep); (try dsimp only))
  k_with "call ref" => (with_reducible refine atc 163 ?_; k_dflt (refine PureCall.ints (C := c_limbs _ _ _ _ _ _ (by walk_at "om") (by walk_at "om")) (h := ?_); walk_at "ints"))
  k_with "pair" => (intro t' l' l2' ws' e' us' e2' h' tk' I' I2' F' N' l1 l2 l3; (try simp only [AllNe, and_true] at l1 l2 l3); (try k_sweep); (try dsimp only))
  k_with "call ref" => (with_reducible refine atc 182 ?_; k_dflt (refine PureCall.pair (C := c_divrem _ _ _ _ _ _ _ _ _ _ _ _ (by walk_at "my get") (by assumption) (by walk_at "my get") (by assumption) (by walk_at "om") (by walk_at "om") (by walk_at "om") (by assumption)) (h := ?_); walk_at "pair"))
  k_with "call ref" => (with_reducible refine atc 79 ?_; k_dflt (refine PureCall.ints (C := c_normal _ _ _ _ _ _ _ (by walk_at "my get") (by assumption) (by walk_at "om") (by assumption)) (h := ?_); walk_at "ints"))
  k_with "call ref" => (with_reducible refine atc 100 ?_; k_dflt (refine PureCall.ints (C := c_common _ _ _ _ _ _ _ _ _ _ _ _ (by walk_at "my get") (by assumption) (by walk_at "my get") (by assumption) (by walk_at "om") (by walk_at "om") (by assumption)) (h := ?_); walk_at "ints"))
  k_with "my mem" => (first | exact List.Mem.head _ | (refine List.Mem.tail _ ?_; walk_at "my mem"))
  k_with "call ref" => (with_reducible refine atc 121 ?_; k_dflt (refine PureCall.int (C := c_plain _ _ _ _ _ _ _ _ (by walk_at "my get") (by assumption) (by walk_at "om") (by assumption)) (h := ?_); walk_at "int"))
  k_with "call ref" => (with_reducible refine atc 86 ?_; k_dflt (refine PureCall.ints (C := c_nat_of _ _ _ _ _ _ (by walk_at "om") (by walk_at "om")) (h := ?_); walk_at "ints"))
  k_with "call ref" => (with_reducible refine atc 128 ?_; k_dflt (refine PureCall.text (C := c_nat_text _ _ _ _ _ _ _ _ _ _ (by walk_at "my get") (by assumption) (by walk_at "om") (by assumption) (by assumption)) (h := ?_); walk_at "int"))
  k_with "call ref" => (with_reducible refine atc 175 ?_; k_dflt (refine PureCall.ints (C := c_mul _ _ _ _ _ _ _ _ _ _ _ _ (by walk_at "my get") (by assumption) (by walk_at "my get") (by assumption) (by walk_at "om") (by walk_at "om") (by walk_at "om") (by assumption)) (h := ?_); walk_at "ints"))
  k_with "call ref" => (with_reducible refine atc 93 ?_; k_dflt (refine PureCall.ints (C := c_add _ _ _ _ _ _ _ _ _ _ _ _ (by walk_at "my get") (by assumption) (by walk_at "my get") (by assumption) (by walk_at "om") (by walk_at "om") (by assumption)) (h := ?_); walk_at "ints"))
  k_with "call builtin:str.find" => (refine find_is (by assumption) ?_)
  k_with "call ref" => (with_reducible refine atc 58 ?_; k_dflt (refine call_bad (h := ?_); intro e' tp' d' hs' t' tn' h' tk' F' N' l1; (try k_sweep); (try dsimp only)))
  k_with "call ref" => (with_reducible refine atc 107 ?_; k_dflt (refine PureCall.one (C := c_signed_of _ _ _) (h := ?_); intro t' h' tk' F' N' l1; (try simp only [AllNe, and_true] at l1); (try k_sweep); (try dsimp only)))
  k_with "binaryOp Add str str" => (refine add_one (by assumption) ?_; intro _ _)
  k_with "exec While Compare cons nil" => (refine Hold.out ?_)
  trivial
set_option maxHeartbeats 8000000 in
theorem c_shown (w : World) (h : Heap) (n b : Nat) (u t : Tok) (hn : n < 2 ^ 64) (hb : 2 ≤ b ∧ b ≤ 36) : PureCall w 203 2 [.int n t, .int b u] h (fun v _ => ∃ t, v = .str (shownN b n) t) := by
  unfold PureCall
  intro prog mean mg mb dp un gd cn cs a ccd cl outer A₀ base h₀ L m s Q E hs B F X T hkd hd hu hret
  subst hs
  have hb0 : n % b < 36 := Nat.lt_of_lt_of_le (Nat.mod_lt _ (by omega)) hb.2
  have hj0 : ((n : Int).fmod (b : Int)) = ((n % b : Nat) : Int) := (Int.ofNat_fmod _ _).symm
  have hfl := full_len64 (by omega) hn (b := b)
  k_dflt (walk_at "my enter")
  k_steps
  rename Fr _ _ _ _ => F1
  rename News _ _ _ _ => N1
  refine Hold.intro (While_my (fun m₀ i m nx => ∃ (P : Nat) (j : Int) (T : List Nat) (tp tt : Tok), P = i ∧ j = (P : Int) ∧ fullN b n = (digs b (P / b)).reverse ++ T ∧ m (Str.ofString "number") = some (.int j tp) ∧ m (Str.ofString "text") = some (.str ⟨T.toArray⟩ tt) ∧ ∀ y, y ≠ Str.ofString "number" → y ≠ Str.ofString "text" → m y = m₀ y) F1 N1 n [] (fun _ h => nomatch h)
    ⟨n, n, [dgc (n % b)], _, _, rfl, rfl, full_start (by omega), rfl, rfl, fun _ _ _ => rfl⟩ ?_)
  rintro i m1 nx h1 tk1 F2 N2 ⟨P, j, T', tp, tt, rfl, rfl, hfu, e1, e2, e3⟩
  clear F1 N1
  rw [form22 e1 e2 e3] at F2
  have hTl : T'.length ≤ 100 := by
    have := congrArg List.length hfu
    rw [List.length_append] at this
    omega
  have hb1 : P / b % b < 36 := Nat.lt_of_lt_of_le (Nat.mod_lt _ (by omega)) hb.2
  have hj1 : (((P : Int).fdiv (b : Int)).fmod (b : Int)) = ((P / b % b : Nat) : Int) := by rw [← Int.ofNat_fdiv, ← Int.ofNat_fmod]
  k_steps
  · rename Fr _ _ _ _ => F9
    rename News _ _ _ _ => N9
    have hbP : b ≤ P := Int.ofNat_le.mp (by assumption)
    refine WhileStep2.go (nx := []) F9 N9 (show P / b < P from Nat.div_lt_self (by omega) (by omega)) (fun _ h => nomatch h) ⟨P / b, _, dgc (P / b % b) :: T', _, _, rfl, (Int.ofNat_fdiv _ _).symm, by rw [hfu, full_step (by omega) hbP], rfl, rfl, fun y h1 h2 => by simp [h1, h2]⟩
  · rename Fr _ _ _ _ => F9
    have hbP : ¬ b ≤ P := fun q => absurd (Int.ofNat_le.mpr q) (by assumption)
    refine hret _ _ _ F9.keep ⟨_, congrArg (Value.str · _) ?_⟩
    rw [shownN_full, hfu, Nat.div_eq_of_lt (by omega), digs_zero]
    rfl
example : True := by
  k_with_none
  k_with "my enter" => (refine' enterP ?k1_8126 ?k2_8126 ?k3_8126 ?k5_8126 ?kA_8126 ?kF_8126 ?kK_8126 ?k6_8126 ?k7_8126 ?k8_8126 ?kZ_8126 ?k9_8126 ?kB_8126 ?_ ?c2_8126 ?c3_8126 ?c4_8126 ?c5_8126; (case kA_8126 => exact rfl); (case kF_8126 => exact rfl); (case kK_8126 => assumption); (case k1_8126 => k_asm); (case k2_8126 => k_asm); (case k3_8126 => k_asm); (case k5_8126 => k_asm); (case k6_8126 => k_is); (case k7_8126 => k_is); (case k8_8126 => ktr_room); (case kZ_8126 => simp only [List.map_cons, List.map_nil, List.zip_cons_cons, List.zip_nil_left, List.zip_nil_right, List.reverse_cons, List.reverse_nil, List.nil_append, List.cons_append]; exact rfl); (case k9_8126 => exact BindsTo.of_eq rfl); (case c5_8126 => decide); (case kB_8126 => exact locs rfl); (case c2_8126 => exact rfl); (case c3_8126 => exact rfl); (case c4_8126 => exact rfl); k_whole; intro L' h' tk' F' N' B' X' T'; (try dsimp only); (try k_lift B'); (try k_fold))
  k_with "my enterC" => (refine' enterPC ?k1_8392 ?k2_8392 ?k3_8392 ?k5_8392 ?kA_8392 ?kF_8392 ?kK_8392 ?k6_8392 ?k7_8392 ?k8_8392 ?k9_8392 ?kB_8392 ?kD_8392 ?_ ?c2_8392 ?c3_8392 ?c4_8392; (case kA_8392 => exact rfl); (case kF_8392 => exact rfl); (case kK_8392 => assumption); (case k1_8392 => k_asm); (case k2_8392 => k_asm); (case k3_8392 => k_asm); (case k5_8392 => k_asm); (case k6_8392 => k_is); (case k7_8392 => k_is); (case k8_8392 => ktr_room); (case k9_8392 => exact BindsTo.of_eq rfl); (case kB_8392 => exact rfl); (case kD_8392 => decide +kernel); (case c2_8392 => exact rfl); (case c3_8392 => exact rfl); (case c4_8392 => exact rfl); k_whole; intro L' h' tk' cells' F' N' Y' B' X' T'; k_cells Y'; (try simp only [List.cons_append, List.nil_append] at N'); (try dsimp only); (try k_lift B'); (try k_fold))
  k_with "my keeps" => (first
  | exact True.intro
  | exact fun _ => True.intro
  | exact And.intro (fun o => mapFields_kd _ o) True.intro
  | exact And.intro (fun _ => And.intro rfl rfl) True.intro
  | assumption
  | (refine Keeps.bind ?_ fun _ => ?_ <;> walk_at "my keeps")
  | (split <;> walk_at "my keeps"))
  k_with "my get" => (first | exact News.get (by k_asm) (by assumption) | exact News.get (by k_asm) (by k_mem) | exact Fr.keep (by k_asm) _ _ (by assumption))
  k_with "om" => (first | assumption | omega)
  k_with "int" => (intro t' h' tk' F' N'; (try k_sweep); (try dsimp only))
  k_with "call ref" => (with_reducible refine atc 168 ?_; k_dflt (refine PureCall.int (C := c_whole _ _ _ _ _ _ _ _ (by walk_at "my get") (by assumption) (by walk_at "om") (by walk_at "om")) (h := ?_); walk_at "int"))
  k_with "ints" => (intro l' ws' e' h' tk' I' F' N' l1; (try simp only [AllNe, and_true] at l1); (try k_sweep); (try dsimp only))
  k_with "call ref" => (with_reducible refine atc 163 ?_; k_dflt (refine PureCall.ints (C := c_limbs _ _ _ _ _ _ (by walk_at "om") (by walk_at "om")) (h := ?_); walk_at "ints"))
  k_with "pair" => (intro t' l' l2' ws' e' us' e2' h' tk' I' I2' F' N' l1 l2 l3; (try simp only [AllNe, and_true] at l1 l2 l3); (try k_sweep); (try dsimp only))
  k_with "call ref" => (with_reducible refine atc 182 ?_; k_dflt (refine PureCall.pair (C := c_divrem _ _ _ _ _ _ _ _ _ _ _ _ (by walk_at "my get") (by assumption) (by walk_at "my get") (by assumption) (by walk_at "om") (by walk_at "om") (by walk_at "om") (by assumption)) (h := ?_); walk_at "pair"))
  k_with "call ref" => (with_reducible refine atc 79 ?_; k_dflt (refine PureCall.ints (C := c_normal _ _ _ _ _ _ _ (by walk_at "my get") (by assumption) (by walk_at "om") (by assumption)) (h := ?_); walk_at "ints"))
  k_with "call ref" => (with_reducible refine atc 100 ?_; k_dflt (refine PureCall.ints (C := c_common _ _ _ _ _ _ _ _ _ _ _ _ (by walk_at "my get") (by assumption) (by walk_at "my get") (by assumption) (by walk_at "om") (by walk_at "om") (by assumption)) (h := ?_); walk_at "ints"))
  k_with "my mem" => (first | exact List.Mem.head _ | (refine List.Mem.tail _ ?_; walk_at "my mem"))
  k_with "call ref" => (with_reducible refine atc 121 ?_; k_dflt (refine PureCall.int (C := c_plain _ _ _ _ _ _ _ _ (by walk_at "my get") (by assumption) (by walk_at "om") (by assumption)) (h := ?_); walk_at "int"))
  k_with "call ref" => (with_reducible refine atc 86 ?_; k_dflt (refine PureCall.ints (C := c_nat_of _ _ _ _ _ _ (by walk_at "om") (by walk_at "om")) (h := ?_); walk_at "ints"))
  k_with "call ref" => (with_reducible refine atc 128 ?_; k_dflt (refine PureCall.text (C := c_nat_text _ _ _ _ _ _ _ _ _ _ (by walk_at "my get") (by assumption) (by walk_at "om") (by assumption) (by assumption)) (h := ?_); walk_at "int"))
  k_with "call ref" => (with_reducible refine atc 175 ?_; k_dflt (refine PureCall.ints (C := c_mul _ _ _ _ _ _ _ _ _ _ _ _ (by walk_at "my get") (by assumption) (by walk_at "my get") (by assumption) (by walk_at "om") (by walk_at "om") (by walk_at "om") (by assumption)) (h := ?_); walk_at "ints"))
  k_with "call ref" => (with_reducible refine atc 93 ?_; k_dflt (refine PureCall.ints (C := c_add _ _ _ _ _ _ _ _ _ _ _ _ (by walk_at "my get") (by assumption) (by walk_at "my get") (by assumption) (by walk_at "om") (by walk_at "om") (by assumption)) (h := ?_); walk_at "ints"))
  k_with "call builtin:str.find" => (refine find_is (by assumption) ?_)
  k_with "call ref" => (with_reducible refine atc 58 ?_; k_dflt (refine call_bad (h := ?_); intro e' tp' d' hs' t' tn' h' tk' F' N' l1; (try k_sweep); (try dsimp only)))
  k_with "call ref" => (with_reducible refine atc 107 ?_; k_dflt (refine PureCall.one (C := c_signed_of _ _ _) (h := ?_); intro t' h' tk' F' N' l1; (try simp only [AllNe, and_true] at l1); (try k_sweep); (try dsimp only)))
  trivial
end SN13
end ON13
section ON14
open Builtin Builtin.Str
noncomputable def numV (num : Option Nat) (v : Value) : Prop := match num with
  | none => v = .none
  | some n => ∃ t, v = .int (n : Int) t
theorem told_is {neg : Bool} (n0 n1 A : Nat) (hga : A = Nat.gcd n0 n1) (top : Int) (ht : top = if neg = true then 0 - (n0 : Int) else (n0 : Int)) (u v w : Tok) :
    IsOut (.told ((if neg = true then 0 - (n0 : Int) else (n0 : Int)).fdiv (Nat.gcd n0 n1 : Int)) (n1 / Nat.gcd n0 n1)) #[.str (Str.ofString "told") u, .int (top.fdiv (A : Int)) v, .int ((n1 : Int).fdiv (A : Int)) w] := by
  subst hga ht
  exact ⟨_, _, _, by rw [Int.ofNat_fdiv]⟩
theorem beg_one {x : Str} (h : ((begOf x : Nat) : Int) = 1) : negOf x = true := by
  unfold begOf at h
  split at h
  · assumption
  · exact absurd h (by decide)
theorem beg_ne {x : Str} (h : ((begOf x : Nat) : Int) ≠ 1) : negOf x = false := by
  unfold begOf at h
  split at h
  · exact absurd rfl h
  · rename_i q; exact Bool.eq_false_iff.mpr q
theorem fdiv_my {prog : Program} {w : World} {A : Around} {E Q : Value → Shared → Prop} {s : Shared} {a : Int} {n : Nat} {t u : Tok} (h0 : 0 < n) (hn : n < 2 ^ 64) (h : Q (.int (a.fdiv (n : Int)) s.toks) { s with toks := s.toks + 1 }) :
    wpAny (model prog w) A (binaryOp .FloorDiv (.int a t) (.int (n : Int) u)) Q E s :=
  floordiv_int (by omega) h (Or.inl (PyProof.noPylong_of_log2 (by
    rw [Int.natAbs_natCast]
    exact (Nat.log2_lt (by omega)).mpr (Nat.lt_of_lt_of_le hn (Nat.pow_le_pow_right (by omega) (by omega))))))
theorem dig_lt0 {b i d : Nat} (h : d < b) : d + (none : Option Nat).getD 0 * b < b ^ (i + 1) := by
  show d + 0 * b < _
  rw [Nat.zero_mul, Nat.pow_succ]
  exact Nat.lt_of_lt_of_le h (Nat.le_mul_of_pos_left b (Nat.pow_pos (by omega)))
theorem dig_lt1 {b i d n : Nat} (h : d < b) (hn : n < b ^ i) : d + (some n).getD 0 * b < b ^ (i + 1) := by
  show d + n * b < _
  rw [Nat.pow_succ]
  have h1 : (n + 1) * b ≤ b ^ i * b := Nat.mul_le_mul_right _ hn
  have h2 : (n + 1) * b = n * b + b := Nat.succ_mul n b
  omega
theorem max_if (a b : Int) : (if b > a then b else a) = max a b := by
  rw [Int.max_def]; split <;> split <;> omega
theorem eq_nil_t {prog : Program} {w : World} {A : Around} {E Q : Value → Shared → Prop} {s : Shared} {a b : Addr} {wn : List Value} {e e2 : Nat} (ha : s.heap.get? a = some (W.listOf wn.toArray e)) (hb : s.heap.get? b = some (W.listOf #[] e2)) (hi : IntsAre wn []) (hu : A.units + 64 < cLine) (h : Q (.bool true) s) :
    wpAny (model prog w) A (compareOp .Eq (.ref a) (.ref b)) Q E s := ke_eq_ints (isList_of ha) (isList_of (ws := []) hb) hi .nil hu h
theorem eq_nil_f {prog : Program} {w : World} {A : Around} {E Q : Value → Shared → Prop} {s : Shared} {a b : Addr} {wn : List Value} {e e2 : Nat} {n : Int} {l : List Int} (ha : s.heap.get? a = some (W.listOf wn.toArray e)) (hb : s.heap.get? b = some (W.listOf #[] e2)) (hi : IntsAre wn (n :: l)) (hu : A.units + 64 < cLine) (h : Q (.bool false) s) :
    wpAny (model prog w) A (compareOp .Eq (.ref a) (.ref b)) Q E s := ke_eq_ints (isList_of ha) (isList_of (ws := []) hb) hi .nil hu (by rw [decide_eq_false (by simp)]; exact h)
theorem merge_sign {M : Model} {A : Around} {E : Value → Shared → Prop} {Q : Value → Shared → Prop} {s : Shared} {env : Env} {x : Str} {k k2 : Nat} {p p2 : Pos} (hn : (Txt.slice x none (some 1) == Str.ofString "-") = negOf x)
    (h : Q (.int ((begOf x : Nat) : Int) s.toks) { s with toks := s.toks + 1 }) :
    if (Txt.slice x none (some 1) == Str.ofString "-") = true then wpAny M A (eval (.Constant (.int 1) k p) env) Q E s else wpAny M A (eval (.Constant (.int 0) k2 p2) env) Q E s := by
  rw [hn]
  unfold begOf at h
  cases hq : negOf x with
  | true => rw [hq] at h; rw [if_pos rfl]; exact wpAny_Constant_int h
  | false => rw [hq] at h; rw [if_neg (by decide)]; exact wpAny_Constant_int h
noncomputable def HoldLt : Prop := True
noncomputable def HoldA2 : Prop := True
section SN14
local macro_rules | `(tactic| walk_at "compareOp Eq ref ref") => `(tactic| ((with_reducible show wpAny _ _ (compareOp CmpOp.Eq (Value.ref _) (Value.ref _)) _ _ _); k_dflt (first
  | (refine' eq_nil_t ?ha ?hb ?hi ?hu ?_; (case ha => walk_at "my get"); (case hb => walk_at "my get"); (case hi => assumption); (case hu => ktr_units))
  | (refine' eq_nil_f ?ha ?hb ?hi ?hu ?_; (case ha => walk_at "my get"); (case hb => walk_at "my get"); (case hi => assumption); (case hu => ktr_units)))))
local macro_rules | `(tactic| walk_at "pad") => `(tactic| skip)
example : True := by
  k_with_none
  k_with "my enter" => (refine' enterP ?k1_8126 ?k2_8126 ?k3_8126 ?k5_8126 ?kA_8126 ?kF_8126 ?kK_8126 ?k6_8126 ?k7_8126 ?k8_8126 ?kZ_8126 ?k9_8126 ?kB_8126 ?_ ?c2_8126 ?c3_8126 ?c4_8126 ?c5_8126; (case kA_8126 => exact rfl); (case kF_8126 => exact rfl); (case kK_8126 => assumption); (case k1_8126 => k_asm); (case k2_8126 => k_asm); (case k3_8126 => k_asm); (case k5_8126 => k_asm); (case k6_8126 => k_is); (case k7_8126 => k_is); (case k8_8126 => ktr_room); (case kZ_8126 => simp only [List.map_cons, List.map_nil, List.zip_cons_cons, List.zip_nil_left, List.zip_nil_right, List.reverse_cons, List.reverse_nil, List.nil_append, List.cons_append]; exact rfl); (case k9_8126 => exact BindsTo.of_eq rfl); (case c5_8126 => decide); (case kB_8126 => exact locs rfl); (case c2_8126 => exact rfl); (case c3_8126 => exact rfl); (case c4_8126 => exact rfl); k_whole; intro L' h' tk' F' N' B' X' T'; (try dsimp only); (try k_lift B'); (try k_fold))
  k_with "my enterC" => (refine' enterPC ?k1_8392 ?k2_8392 ?k3_8392 ?k5_8392 ?kA_8392 ?kF_8392 ?kK_8392 ?k6_8392 ?k7_8392 ?k8_8392 ?k9_8392 ?kB_8392 ?kD_8392 ?_ ?c2_8392 ?c3_8392 ?c4_8392; (case kA_8392 => exact rfl); (case kF_8392 => exact rfl); (case kK_8392 => assumption); (case k1_8392 => k_asm); (case k2_8392 => k_asm); (case k3_8392 => k_asm); (case k5_8392 => k_asm); (case k6_8392 => k_is); (case k7_8392 => k_is); (case k8_8392 => ktr_room); (case k9_8392 => exact BindsTo.of_eq rfl); (case kB_8392 => exact rfl); (case kD_8392 => decide +kernel); (case c2_8392 => exact rfl); (case c3_8392 => exact rfl); (case c4_8392 => exact rfl); k_whole; intro L' h' tk' cells' F' N' Y' B' X' T'; k_cells Y'; (try simp only [List.cons_append, List.nil_append] at N'); (try dsimp only); (try k_lift B'); (try k_fold))
  k_with "my keeps" => (first
  | exact True.intro
  | exact fun _ => True.intro
  | exact And.intro (fun o => mapFields_kd _ o) True.intro
  | exact And.intro (fun _ => And.intro rfl rfl) True.intro
  | assumption
  | (refine Keeps.bind ?_ fun _ => ?_ <;> walk_at "my keeps")
  | (split <;> walk_at "my keeps"))
  k_with "my get" => (first | exact News.get (by k_asm) (by assumption) | exact News.get (by k_asm) (by k_mem) | exact Fr.keep (by k_asm) _ _ (by assumption))
  k_with "om" => (first | assumption | omega)
  k_with "int" => (intro t' h' tk' F' N'; (try k_sweep); (try dsimp only))
  k_with "call ref" => (with_reducible refine atc 168 ?_; k_dflt (refine PureCall.int (C := c_whole _ _ _ _ _ _ _ _ (by walk_at "my get") (by assumption) (by walk_at "om") (by walk_at "om")) (h := ?_); walk_at "int"))
  k_with "ints" => (intro l' ws' e' h' tk' I' F' N' l1; (try simp only [AllNe, and_true] at l1); (try k_sweep); (try dsimp only))
  k_with "call ref" => (with_reducible refine atc 163 ?_; k_dflt (refine PureCall.ints (C := c_limbs _ _ _ _ _ _ (by walk_at "om") (by walk_at "om")) (h := ?_); walk_at "ints"))
  k_with "pair" => (intro t' l' l2' ws' e' us' e2' h' tk' I' I2' F' N' l1 l2 l3; (try simp only [AllNe, and_true] at l1 l2 l3); (try k_sweep); (try dsimp only))
  k_with "call ref" => (with_reducible refine atc 182 ?_; k_dflt (refine PureCall.pair (C := c_divrem _ _ _ _ _ _ _ _ _ _ _ _ (by walk_at "my get") (by assumption) (by walk_at "my get") (by assumption) (by walk_at "om") (by walk_at "om") (by walk_at "om") (by assumption)) (h := ?_); walk_at "pair"))
  k_with "call ref" => (with_reducible refine atc 79 ?_; k_dflt (refine PureCall.ints (C := c_normal _ _ _ _ _ _ _ (by walk_at "my get") (by assumption) (by walk_at "om") (by assumption)) (h := ?_); walk_at "ints"))
  k_with "call ref" => (with_reducible refine atc 100 ?_; k_dflt (refine PureCall.ints (C := c_common _ _ _ _ _ _ _ _ _ _ _ _ (by walk_at "my get") (by assumption) (by walk_at "my get") (by assumption) (by walk_at "om") (by walk_at "om") (by assumption)) (h := ?_); walk_at "ints"))
  k_with "my mem" => (first | exact List.Mem.head _ | (refine List.Mem.tail _ ?_; walk_at "my mem"))
  k_with "call ref" => (with_reducible refine atc 121 ?_; k_dflt (refine PureCall.int (C := c_plain _ _ _ _ _ _ _ _ (by walk_at "my get") (by assumption) (by walk_at "om") (by assumption)) (h := ?_); walk_at "int"))
  k_with "call ref" => (with_reducible refine atc 86 ?_; k_dflt (refine PureCall.ints (C := c_nat_of _ _ _ _ _ _ (by walk_at "om") (by walk_at "om")) (h := ?_); walk_at "ints"))
  k_with "call ref" => (with_reducible refine atc 128 ?_; k_dflt (refine PureCall.text (C := c_nat_text _ _ _ _ _ _ _ _ _ _ (by walk_at "my get") (by assumption) (by walk_at "om") (by assumption) (by assumption)) (h := ?_); walk_at "int"))
  k_with "call ref" => (with_reducible refine atc 175 ?_; k_dflt (refine PureCall.ints (C := c_mul _ _ _ _ _ _ _ _ _ _ _ _ (by walk_at "my get") (by assumption) (by walk_at "my get") (by assumption) (by walk_at "om") (by walk_at "om") (by walk_at "om") (by assumption)) (h := ?_); walk_at "ints"))
  k_with "call ref" => (with_reducible refine atc 93 ?_; k_dflt (refine PureCall.ints (C := c_add _ _ _ _ _ _ _ _ _ _ _ _ (by walk_at "my get") (by assumption) (by walk_at "my get") (by assumption) (by walk_at "om") (by walk_at "om") (by assumption)) (h := ?_); walk_at "ints"))
  k_with "call builtin:str.find" => (refine find_is (by assumption) ?_)
  k_with "call ref" => (with_reducible refine atc 58 ?_; k_dflt (refine call_bad (h := ?_); intro e' tp' d' hs' t' tn' h' tk' F' N' l1; (try k_sweep); (try dsimp only)))
  k_with "call ref" => (with_reducible refine atc 107 ?_; k_dflt (refine PureCall.one (C := c_signed_of _ _ _) (h := ?_); intro t' h' tk' F' N' l1; (try simp only [AllNe, and_true] at l1); (try k_sweep); (try dsimp only)))
  k_with "exec For Name Call cons nil" => (refine Hold.out ?_)
  k_with "pyIter ref" => (refine Hold.out ?_)
  k_with "exec While Compare cons nil" => (refine Hold.out ?_)
  k_with "binaryOp FloorDiv int int" => (refine fdiv_my (by assumption) (by assumption) ?_)
  k_with "ite" => (refine merge_sign (by assumption) ?_)
  k_with "exec If" => ((with_reducible rename HoldSt => hq; clear hq); refine Hold.out ?_)
  k_with "exec Assign" => ((with_reducible rename HoldA2 => hq; clear hq); refine Hold.out ?_)
  k_with "compareOp Lt int int" => ((with_reducible rename HoldLt => hq; clear hq); refine Hold.out ?_)
  trivial
set_option maxHeartbeats 8000000 in
theorem c_read (w : World) (h : Heap) (x : Str) (b : Nat) (u t : Tok) (hx : x.length ≤ 11) (hb : 2 ≤ b ∧ b ≤ 36) : PureCall w 196 13 [.str x t, .int b u] h (NewOut (lawOut b x) h) := by
  unfold PureCall
  intro prog mean mg mb dp un gd cn cs a ccd cl outer A₀ base h₀ L m s Q E hs B F X T hkd hd hu hret
  subst hs
  have hx64 : x.length ≤ 64 := by omega
  have hn1 := sl_one x
  have hbeg : begOf x = if negOf x = true then 1 else 0 := rfl
  have hB1 : begOf x ≤ x.length := by
    rw [hbeg]
    split
    · rename_i q; exact neg_len q
    · exact Nat.zero_le _
  have hB2 : begOf x ≤ 1 := by rw [hbeg]; split <;> omega
  k_dflt (walk_at "my enter")
  k_steps
  refine Hold.intro (For1_my (by assumption) (by rfl) (by rfl) ?_)
  k_steps
  rename IsRange _ _ _ _ _ _ _ _ => hR
  refine Hold.intro (at_range (x.length - begOf x + 1) (fun m₀ i m nx => ∃ (l : Addr) (wn : List Value) (en : Nat) (nums : List Nat) (num : Option Nat) (nv : Value), m₀ (Str.ofString "numbers") = some (.ref l) ∧ nx = [(l, W.listOf wn.toArray en)] ∧ IntsAre wn (nums.map fun (n : Nat) => (n : Int)) ∧ numV num nv ∧
    m (Str.ofString "number") = some nv ∧ (∀ y, y ≠ Str.ofString "number" → y ≠ Str.ofString "digit" → y ≠ Str.ofString "at" → y ≠ Str.ofString "sign" → m y = m₀ y) ∧
    ((∀ n ∈ nums, n < b ^ i) ∧ ∀ n, num = some n → n < b ^ i) ∧
    ((i ≤ x.length - begOf x ∧ nums.length ≤ 1 ∧ rd b (x.cps.toList.drop (begOf x)) (begOf x) [] none = rd b (x.cps.toList.drop (begOf x + i)) (begOf x + i) nums num) ∨ (i = x.length - begOf x + 1 ∧ rd b (x.cps.toList.drop (begOf x)) (begOf x) [] none = .inr nums ∧ 1 ≤ nums.length ∧ nums.length ≤ 2)))
    rfl hR (small_range (by omega) (by omega) (by omega) (by omega)) (by rw [rangeSize_nat]; omega) (by assumption) (by assumption) [(_, W.listOf #[] 0)] (fun p hp => ?_) ⟨_, [], 0, [], none, .none, rfl, rfl, .nil, rfl, rfl, fun _ _ _ _ _ => rfl, ⟨fun _ h => (nomatch h), fun _ h => (nomatch h)⟩, .inl ⟨Nat.zero_le _, Nat.zero_le _, rfl⟩⟩ ?_ ?_)
  · rw [List.mem_singleton.mp hp]; k_mem
  · rintro i t m1 nx h2 tk2 I oI hi ⟨l, wn, en, nums, num, nv, hl, rfl, hV, hnv, e1, e2, ⟨hb1, hb2⟩, hd⟩ F2 N2 hne
    have hl' : some (Value.ref _) = some (Value.ref l) := hl
    injection hl' with hl'
    injection hl' with hl'
    subst hl'
    obtain ⟨hiK, hnl, hrd⟩ : i ≤ x.length - begOf x ∧ nums.length ≤ 1 ∧ rd b (x.cps.toList.drop (begOf x)) (begOf x) [] none = rd b (x.cps.toList.drop (begOf x + i)) (begOf x + i) nums num := by
      rcases hd with q | ⟨q, _⟩
      · exact q
      · omega
    rw [form5 e1 e2] at F2
    have hIl : @Ne Nat _ I := hne _ (.head _)
    have hvl := hV.length
    have hpw : ∀ n, n < b ^ i → n < b ^ (i + 1) := fun n q => Nat.lt_of_lt_of_le q (Nat.pow_le_pow_right (by omega) (Nat.le_succ i))
    have hlaw : ∀ n, rd b (x.cps.toList.drop (begOf x)) (begOf x) [] none = .inl n → lawOut b x = .bad n := fun n q => by unfold lawOut; rw [q]
    have hH : HoldSt := trivial
    k_steps
    refine Hold.intro ?_
    rcases Nat.lt_or_ge i (x.length - begOf x) with hik | hik
    · obtain ⟨c, hc⟩ : ∃ c, x.cps.toList[begOf x + i]? = some c := ⟨_, List.getElem?_eq_getElem (by rw [Array.length_toList]; show begOf x + i < x.length; omega)⟩
      have hsl := slice_at (x := x) (a := begOf x + i) (I := ((begOf x : Nat) : Int) + (i : Int)) (J := ((begOf x : Nat) : Int) + (i : Int) + 1) (by omega) (by omega) hc
      have hdr : x.cps.toList.drop (begOf x + i) = c :: x.cps.toList.drop (begOf x + i + 1) := by
        obtain ⟨q1, q2⟩ := List.getElem?_eq_some_iff.mp hc
        rw [List.drop_eq_getElem_cons q1, q2]
      have g0 : (Txt.slice x (some (((begOf x : Nat) : Int) + (i : Int))) (some (((begOf x : Nat) : Int) + (i : Int) + 1)) == Str.ofString "") = false := by rw [hsl]; exact one_not_nil c
      have g1 : (Txt.slice x (some (((begOf x : Nat) : Int) + (i : Int))) (some (((begOf x : Nat) : Int) + (i : Int) + 1)) == Str.ofString "/") = decide (c = 47) := by rw [hsl]; exact one_bar c
      obtain ⟨f1, hf1⟩ : ∃ f, Txt.find SG (Txt.slice x (some (((begOf x : Nat) : Int) + (i : Int))) (some (((begOf x : Nat) : Int) + (i : Int) + 1))) = f := ⟨_, rfl⟩
      obtain ⟨f2, hf2⟩ : ∃ f, Txt.find SGU (Txt.slice x (some (((begOf x : Nat) : Int) + (i : Int))) (some (((begOf x : Nat) : Int) + (i : Int) + 1))) = f := ⟨_, rfl⟩
      have hmx : (if f2 > f1 then f2 else f1) = dfind c := by rw [max_if, ← hf1, ← hf2, hsl]; exact find_max c
      by_cases c47 : c = 47
      · rw [decide_eq_true c47] at g1
        subst c47
        have hdf : dfind 47 = -1 := by decide
        rw [hdf] at hmx
        have hs47 : sdig 47 = none := by decide
        rcases nums with _ | ⟨n0, _ | ⟨n1, _⟩⟩
        · have hV0 : IntsAre wn [] := hV
          rcases num with _ | nn
          · have hnv' : nv = .none := hnv
            subst hnv'
            k_steps
            all_goals first
              | (rename Fr _ _ _ _ => F9
                 rename News _ _ _ _ => N9
                 refine hret _ _ _ F9.keep ⟨_, _, rfl, (N9 _ (.head _)).2.2, (N9 _ (.head _)).1, ?_⟩
                 rw [hlaw (begOf x + i) (by rw [hrd, hdr]; exact rd_bar_none)]
                 exact ⟨_, _, by rw [Int.natCast_add]⟩)
          · obtain ⟨tn, rfl⟩ : ∃ t, nv = .int (nn : Int) t := hnv
            k_steps
            all_goals first
              | (rename Fr _ _ _ _ => F9
                 rename News _ _ _ _ => N9
                 rw [List.push_toArray] at N9
                 exact StepMy.go [(_, _)] F9 (fun p hp => N9 p hp) (fun p hp => .tail _ hp) (fun p hp q hq => by rw [List.mem_singleton.mp hp, List.mem_singleton.mp hq]; exact hIl)
                   ⟨_, _, _, [nn], none, .none, hl, rfl, ints_snoc hV rfl, rfl, rfl, fun y h1 h2 h3 h4 => by simp [h1, h2, h3, h4], ⟨fun n hn => by rw [List.mem_singleton.mp hn]; exact hpw _ (hb2 nn rfl), fun _ h => (nomatch h)⟩, .inl ⟨by omega, Nat.le_refl _, by rw [hrd, hdr, rd_bar_some]; rfl⟩⟩)
        · have hV0 : IntsAre wn [(n0 : Int)] := hV
          k_steps
          all_goals first
            | (exfalso; simp_all; done)
            | (rename Fr _ _ _ _ => F9
               rename News _ _ _ _ => N9
               refine hret _ _ _ F9.keep ⟨_, _, rfl, (N9 _ (.head _)).2.2, (N9 _ (.head _)).1, ?_⟩
               rw [hlaw (begOf x + i) (by rw [hrd, hdr]; exact rd_none (fun q => nomatch q.2) hs47)]
               exact ⟨_, _, by rw [Int.natCast_add]⟩)
        · exact absurd hnl (by simp)
      · rw [decide_eq_false c47] at g1
        have hnb : ¬ (c = 47 ∧ nums = []) := fun q => c47 q.1
        have hH : HoldLt := trivial
        k_steps
        refine Hold.intro ?_
        rcases hsd : sdig c with _ | dd
        · have hdf : dfind c = -1 := by unfold dfind; rw [hsd]
          rw [hdf] at hmx
          k_steps
          all_goals first
            | (rename Fr _ _ _ _ => F9
               rename News _ _ _ _ => N9
               refine hret _ _ _ F9.keep ⟨_, _, rfl, (N9 _ (.head _)).2.2, (N9 _ (.head _)).1, ?_⟩
               rw [hlaw (begOf x + i) (by rw [hrd, hdr]; exact rd_none hnb hsd)]
               exact ⟨_, _, by rw [Int.natCast_add]⟩)
        · have hdf : dfind c = (dd : Int) := by unfold dfind; rw [hsd]
          rw [hdf] at hmx
          rcases num with _ | nn
          · have hnv' : nv = .none := hnv
            subst hnv'
            k_steps
            all_goals first
              | (rename Fr _ _ _ _ => F9
                 rename News _ _ _ _ => N9
                 refine hret _ _ _ F9.keep ⟨_, _, rfl, (N9 _ (.head _)).2.2, (N9 _ (.head _)).1, ?_⟩
                 rw [hlaw (begOf x + i) (by rw [hrd, hdr]; exact rd_big hnb hsd (by omega))]
                 exact ⟨_, _, by rw [Int.natCast_add]⟩)
              | (rename Fr _ _ _ _ => F9
                 rename News _ _ _ _ => N9
                 have hdb : dd < b := by omega
                 exact StepMy.go [(_, _)] F9 N9 (fun p hp => hp) (fun p hp q hq => by rw [List.mem_singleton.mp hp, List.mem_singleton.mp hq]; exact hIl)
                   ⟨_, _, _, nums, some (dd + (none : Option Nat).getD 0 * b), _, hl, rfl, hV, ⟨_, congrArg (Value.int · _) (by rw [hmx]; simp)⟩, rfl, fun y h1 h2 h3 h4 => by simp [h1, h2, h3, h4], ⟨fun n q => hpw n (hb1 n q), fun n q => by injection q with q; subst q; exact dig_lt0 hdb⟩, .inl ⟨by omega, hnl, by rw [hrd, hdr]; exact rd_dig hnb hsd hdb⟩⟩)
          · obtain ⟨tn, rfl⟩ : ∃ t, nv = .int (nn : Int) t := hnv
            k_steps
            all_goals first
              | (rename Fr _ _ _ _ => F9
                 rename News _ _ _ _ => N9
                 refine hret _ _ _ F9.keep ⟨_, _, rfl, (N9 _ (.head _)).2.2, (N9 _ (.head _)).1, ?_⟩
                 rw [hlaw (begOf x + i) (by rw [hrd, hdr]; exact rd_big hnb hsd (by omega))]
                 exact ⟨_, _, by rw [Int.natCast_add]⟩)
              | (rename Fr _ _ _ _ => F9
                 rename News _ _ _ _ => N9
                 have hdb : dd < b := by omega
                 exact StepMy.go [(_, _)] F9 N9 (fun p hp => hp) (fun p hp q hq => by rw [List.mem_singleton.mp hp, List.mem_singleton.mp hq]; exact hIl)
                   ⟨_, _, _, nums, some (dd + (some nn).getD 0 * b), _, hl, rfl, hV, ⟨_, congrArg (Value.int · _) (by rw [hmx]; simp)⟩, rfl, fun y h1 h2 h3 h4 => by simp [h1, h2, h3, h4], ⟨fun n q => hpw n (hb1 n q), fun n q => by injection q with q; subst q; exact dig_lt1 hdb (hb2 nn rfl)⟩, .inl ⟨by omega, hnl, by rw [hrd, hdr]; exact rd_dig hnb hsd hdb⟩⟩)
    · have hik' : i = x.length - begOf x := by omega
      have hsl := slice_end (x := x) (I := ((begOf x : Nat) : Int) + (i : Int)) (J := ((begOf x : Nat) : Int) + (i : Int) + 1) (by omega) (by omega)
      have hdr : x.cps.toList.drop (begOf x + i) = [] := List.drop_eq_nil_of_le (by rw [Array.length_toList]; show x.length ≤ _; omega)
      have g0 : (Txt.slice x (some (((begOf x : Nat) : Int) + (i : Int))) (some (((begOf x : Nat) : Int) + (i : Int) + 1)) == Str.ofString "") = true := by rw [hsl]; exact beq_self_eq_true _
      rcases num with _ | nn
      · have hnv' : nv = .none := hnv
        subst hnv'
        k_steps
        all_goals first
          | (rename Fr _ _ _ _ => F9
             rename News _ _ _ _ => N9
             refine hret _ _ _ F9.keep ⟨_, _, rfl, (N9 _ (.head _)).2.2, (N9 _ (.head _)).1, ?_⟩
             rw [hlaw (begOf x + i) (by rw [hrd, hdr]; exact rd_end_none)]
             exact ⟨_, _, by rw [Int.natCast_add]⟩)
      · obtain ⟨tn, rfl⟩ : ∃ t, nv = .int (nn : Int) t := hnv
        k_steps
        all_goals first
          | (rename Fr _ _ _ _ => F9
             rename News _ _ _ _ => N9
             rw [List.push_toArray] at N9
             exact StepMy.go [(_, _)] F9 N9 (fun p hp => hp) (fun p hp q hq => by rw [List.mem_singleton.mp hp, List.mem_singleton.mp hq]; exact hIl)
               ⟨_, _, _, nums ++ [nn], none, .none, hl, rfl, by rw [List.map_append]; exact ints_snoc hV rfl, rfl, rfl, fun y h1 h2 h3 h4 => by simp [h1, h2, h3, h4], ⟨fun n hn => (List.mem_append.mp hn).elim (fun q => hpw _ (hb1 n q)) fun q => by rw [List.mem_singleton.mp q]; exact hpw _ (hb2 nn rfl), fun _ h => (nomatch h)⟩, .inr ⟨by omega, by rw [hrd, hdr]; exact rd_end_some, by simp, by simp; omega⟩⟩)
  · rintro m1 nx h2 tk2 ⟨l, wn, en, nums, num, nv, hl, rfl, hV, hnv, e1, e2, ⟨hb1, hb2⟩, hd⟩ F2 N2
    have hl' : some (Value.ref _) = some (Value.ref l) := hl
    injection hl' with hl'
    injection hl' with hl'
    subst hl'
    obtain ⟨hrd, hn1', hn2'⟩ : rd b (x.cps.toList.drop (begOf x)) (begOf x) [] none = .inr nums ∧ 1 ≤ nums.length ∧ nums.length ≤ 2 := by
      rcases hd with ⟨q, _⟩ | ⟨_, q⟩
      · omega
      · exact q
    rw [form5 e1 e2] at F2
    have hlaw : lawOut b x = outOf (negOf x) nums := by unfold lawOut; rw [hrd]
    clear hR
    have hp64 : ∀ n ∈ nums, n < 2 ^ 64 := fun n q => Nat.lt_trans (hb1 n q) (Nat.lt_of_le_of_lt (Nat.pow_le_pow_left hb.2 _) (Nat.lt_of_le_of_lt (Nat.pow_le_pow_right (by omega) (show x.length - begOf x + 1 ≤ 12 by omega)) (by decide)))
    clear hb1 hb2 hd
    dsimp only
    obtain ⟨n0, hn0⟩ : ∃ n, nums.getD 0 0 = n := ⟨_, rfl⟩
    obtain ⟨n1, hn1⟩ : ∃ n, nums.getD 1 1 = n := ⟨_, rfl⟩
    have hlaw2 : lawOut b x = if n1 = 0 then .nought else .told ((if negOf x = true then 0 - ((n0 : Nat) : Int) else ((n0 : Nat) : Int)).fdiv ((Nat.gcd n0 n1 : Nat) : Int)) (n1 / Nat.gcd n0 n1) := by
      rw [hlaw]; unfold outOf; rw [hn0, hn1]
    have hq0 : n0 < 2 ^ 64 := by
      rw [← hn0]
      rcases nums with _ | ⟨a, r⟩
      · decide
      · exact hp64 a (by simp)
    have hq1 : n1 < 2 ^ 64 := by
      rw [← hn1]
      rcases nums with _ | ⟨a, _ | ⟨a2, r⟩⟩
      · decide
      · exact (show (1 : Nat) < 2 ^ 64 by decide)
      · exact hp64 a2 (by simp)
    clear hp64 hlaw
    have hH : HoldA2 := trivial
    k_steps
    rename Fr _ _ _ _ => F1
    refine Hold.intro (St_cut (fun m₀ m' nx => nx = [] ∧ ∃ (t0 t1 : Tok), m' (Str.ofString "top") = some (.int ((n0 : Nat) : Int) t0) ∧ m' (Str.ofString "bottom") = some (.int ((n1 : Nat) : Int) t1) ∧ ∀ z, z ≠ Str.ofString "top" → z ≠ Str.ofString "bottom" → m' z = m₀ z) F1 ?_ ?_)
    · rcases nums with _ | ⟨a0, _ | ⟨a1, _ | ⟨a2, r⟩⟩⟩
      · exact absurd hn1' (by simp)
      · obtain ⟨t0, hw0⟩ : ∃ t0, wn = [.int (a0 : Int) t0] := by cases hV with | cons _ t r => cases r; exact ⟨t, rfl⟩
        subst hw0
        have ea : a0 = n0 := hn0
        have eb : 1 = n1 := hn1
        subst ea eb
        clear hV hlaw2
        k_steps
        rename Fr _ _ _ _ => F9
        exact StEnd.go (nx := []) F9 (fun _ h => nomatch h) ⟨rfl, _, _, rfl, rfl, fun z h1 h2 => by simp [h1, h2]⟩
      · obtain ⟨t0, t1, hw0⟩ : ∃ t0 t1, wn = [.int (a0 : Int) t0, .int (a1 : Int) t1] := by cases hV with | cons _ t r => cases r with | cons _ t2 r => cases r; exact ⟨t, t2, rfl⟩
        subst hw0
        have ea : a0 = n0 := hn0
        have eb : a1 = n1 := hn1
        subst ea eb
        clear hV hlaw2
        k_steps
        rename Fr _ _ _ _ => F9
        exact StEnd.go (nx := []) F9 (fun _ h => nomatch h) ⟨rfl, _, _, rfl, rfl, fun z h1 h2 => by simp [h1, h2]⟩
      · exact absurd hn2' (by simp)
    · clear F1 hV hn0 hn1 hn1' hn2' hrd
      rintro h' tk' m' nx F2 N2 ⟨rfl, t0, t1, e1, e2, e3⟩
      rw [form22 e1 e2 e3] at F2
      clear e1 e2 e3
      k_steps
      · rename Fr _ _ _ _ => F9
        rename News _ _ _ _ => N9
        have hz : n1 = 0 := Int.ofNat.inj (show (n1 : Int) = 0 by assumption)
        refine hret _ _ _ F9.keep ⟨_, _, rfl, (N9 _ (.head _)).2.2, (N9 _ (.head _)).1, ?_⟩
        rw [hlaw2, if_pos hz]
        exact ⟨_, rfl⟩
      · have hb0 : 0 < n1 := Nat.pos_of_ne_zero (fun q => absurd (show (n1 : Int) = 0 by rw [q]; rfl) (by assumption))
        rename Fr _ _ _ _ => F1
        rename News _ _ _ _ => N1
        refine Hold.intro (While_my (fun m₀ i m nx => ∃ (A C : Nat) (ta tc : Tok), C = i ∧ Nat.gcd A C = Nat.gcd n0 n1 ∧ 0 < A + C ∧ A < 2 ^ 64 ∧ C < 2 ^ 64 ∧ m (Str.ofString "one") = some (.int (A : Int) ta) ∧ m (Str.ofString "other") = some (.int (C : Int) tc) ∧ ∀ y, y ≠ Str.ofString "one" → y ≠ Str.ofString "other" → m y = m₀ y) F1 N1 n1 [] (fun _ h => nomatch h)
          ⟨n0, n1, _, _, rfl, rfl, by omega, by omega, by omega, rfl, rfl, fun _ _ _ => rfl⟩ ?_)
        rintro i m1 nx h1 tk1 F3 N3 ⟨A, C, ta, tc, rfl, hg, hAC, hA64, hC64, e1, e2, e3⟩
        clear F1 N1
        rw [form22 e1 e2 e3] at F3
        have hCA : C = 0 → 0 < A := fun q => by omega
        rcases Nat.eq_zero_or_pos C with hC0 | hC0
        · have hA0 := hCA hC0
          have hga : A = Nat.gcd n0 n1 := by rw [← hg, hC0, Nat.gcd_zero_right]
          k_steps
          all_goals first
            | (exfalso; omega)
            | (rename Fr _ _ _ _ => F9
               rename News _ _ _ _ => N9
               refine hret _ _ _ F9.keep ⟨_, _, rfl, (N9 _ (.head _)).2.2, (N9 _ (.head _)).1, ?_⟩
               rw [hlaw2, if_neg (show ¬ n1 = 0 by omega)]
               first
               | (rename (_ : Int) = 1 => hq9
                  exact told_is n0 n1 A hga _ (by rw [beg_one hq9]; rfl) _ _ _)
               | (rename (_ : Int) ≠ 1 => hq9
                  exact told_is n0 n1 A hga _ (by rw [beg_ne hq9]; rfl) _ _ _))
        · k_steps
          all_goals first
            | (exfalso; omega)
            | (rename Fr _ _ _ _ => F9
               rename News _ _ _ _ => N9
               exact WhileStep2.go (nx := []) F9 N9 (show A % C < C from Nat.mod_lt _ hC0) (fun _ h => nomatch h) ⟨C, A % C, _, _, rfl, by rw [← hg, Nat.gcd_comm C, ← Nat.gcd_rec, Nat.gcd_comm], by omega, hC64, Nat.lt_trans (Nat.mod_lt _ hC0) hC64, rfl, congrArg some (congrArg (Value.int · _) (Int.ofNat_fmod _ _).symm), fun y h1 h2 => by simp [h1, h2]⟩)
example : True := by
  k_with_none
  k_with "my enter" => (refine' enterP ?k1_8126 ?k2_8126 ?k3_8126 ?k5_8126 ?kA_8126 ?kF_8126 ?kK_8126 ?k6_8126 ?k7_8126 ?k8_8126 ?kZ_8126 ?k9_8126 ?kB_8126 ?_ ?c2_8126 ?c3_8126 ?c4_8126 ?c5_8126; (case kA_8126 => exact rfl); (case kF_8126 => exact rfl); (case kK_8126 => assumption); (case k1_8126 => k_asm); (case k2_8126 => k_asm); (case k3_8126 => k_asm); (case k5_8126 => k_asm); (case k6_8126 => k_is); (case k7_8126 => k_is); (case k8_8126 => ktr_room); (case kZ_8126 => simp only [List.map_cons, List.map_nil, List.zip_cons_cons, List.zip_nil_left, List.zip_nil_right, List.reverse_cons, List.reverse_nil, List.nil_append, List.cons_append]; exact rfl); (case k9_8126 => exact BindsTo.of_eq rfl); (case c5_8126 => decide); (case kB_8126 => exact locs rfl); (case c2_8126 => exact rfl); (case c3_8126 => exact rfl); (case c4_8126 => exact rfl); k_whole; intro L' h' tk' F' N' B' X' T'; (try dsimp only); (try k_lift B'); (try k_fold))
  k_with "my enterC" => (refine' enterPC ?k1_8392 ?k2_8392 ?k3_8392 ?k5_8392 ?kA_8392 ?kF_8392 ?kK_8392 ?k6_8392 ?k7_8392 ?k8_8392 ?k9_8392 ?kB_8392 ?kD_8392 ?_ ?c2_8392 ?c3_8392 ?c4_8392; (case kA_8392 => exact rfl); (case kF_8392 => exact rfl); (case kK_8392 => assumption); (case k1_8392 => k_asm); (case k2_8392 => k_asm); (case k3_8392 => k_asm); (case k5_8392 => k_asm); (case k6_8392 => k_is); (case k7_8392 => k_is); (case k8_8392 => ktr_room); (case k9_8392 => exact BindsTo.of_eq rfl); (case kB_8392 => exact rfl); (case kD_8392 => decide +kernel); (case c2_8392 => exact rfl); (case c3_8392 => exact rfl); (case c4_8392 => exact rfl); k_whole; intro L' h' tk' cells' F' N' Y' B' X' T'; k_cells Y'; (try simp only [List.cons_append, List.nil_append] at N'); (try dsimp only); (try k_lift B'); (try k_fold))
  k_with "my keeps" => (first
  | exact True.intro
  | exact fun _ => True.intro
  | exact And.intro (fun o => mapFields_kd _ o) True.intro
  | exact And.intro (fun _ => And.intro rfl rfl) True.intro
  | assumption
  | (refine Keeps.bind ?_ fun _ => ?_ <;> walk_at "my keeps")
  | (split <;> walk_at "my keeps"))
  k_with "my get" => (first | exact News.get (by k_asm) (by assumption) | exact News.get (by k_asm) (by k_mem) | exact Fr.keep (by k_asm) _ _ (by assumption))
  k_with "om" => (first | assumption | omega)
  k_with "int" => (intro t' h' tk' F' N'; (try k_sweep); (try dsimp only))
  k_with "call ref" => (with_reducible refine atc 168 ?_; k_dflt (refine PureCall.int (C := c_whole _ _ _ _ _ _ _ _ (by walk_at "my get") (by assumption) (by walk_at "om") (by walk_at "om")) (h := ?_); walk_at "int"))
  k_with "ints" => (intro l' ws' e' h' tk' I' F' N' l1; (try simp only [AllNe, and_true] at l1); (try k_sweep); (try dsimp only))
  k_with "call ref" => (with_reducible refine atc 163 ?_; k_dflt (refine PureCall.ints (C := c_limbs _ _ _ _ _ _ (by walk_at "om") (by walk_at "om")) (h := ?_); walk_at "ints"))
  k_with "pair" => (intro t' l' l2' ws' e' us' e2' h' tk' I' I2' F' N' l1 l2 l3; (try simp only [AllNe, and_true] at l1 l2 l3); (try k_sweep); (try dsimp only))
  k_with "call ref" => (with_reducible refine atc 182 ?_; k_dflt (refine PureCall.pair (C := c_divrem _ _ _ _ _ _ _ _ _ _ _ _ (by walk_at "my get") (by assumption) (by walk_at "my get") (by assumption) (by walk_at "om") (by walk_at "om") (by walk_at "om") (by assumption)) (h := ?_); walk_at "pair"))
  k_with "call ref" => (with_reducible refine atc 79 ?_; k_dflt (refine PureCall.ints (C := c_normal _ _ _ _ _ _ _ (by walk_at "my get") (by assumption) (by walk_at "om") (by assumption)) (h := ?_); walk_at "ints"))
  k_with "call ref" => (with_reducible refine atc 100 ?_; k_dflt (refine PureCall.ints (C := c_common _ _ _ _ _ _ _ _ _ _ _ _ (by walk_at "my get") (by assumption) (by walk_at "my get") (by assumption) (by walk_at "om") (by walk_at "om") (by assumption)) (h := ?_); walk_at "ints"))
  k_with "my mem" => (first | exact List.Mem.head _ | (refine List.Mem.tail _ ?_; walk_at "my mem"))
  k_with "call ref" => (with_reducible refine atc 121 ?_; k_dflt (refine PureCall.int (C := c_plain _ _ _ _ _ _ _ _ (by walk_at "my get") (by assumption) (by walk_at "om") (by assumption)) (h := ?_); walk_at "int"))
  k_with "call ref" => (with_reducible refine atc 86 ?_; k_dflt (refine PureCall.ints (C := c_nat_of _ _ _ _ _ _ (by walk_at "om") (by walk_at "om")) (h := ?_); walk_at "ints"))
  k_with "call ref" => (with_reducible refine atc 128 ?_; k_dflt (refine PureCall.text (C := c_nat_text _ _ _ _ _ _ _ _ _ _ (by walk_at "my get") (by assumption) (by walk_at "om") (by assumption) (by assumption)) (h := ?_); walk_at "int"))
  k_with "call ref" => (with_reducible refine atc 175 ?_; k_dflt (refine PureCall.ints (C := c_mul _ _ _ _ _ _ _ _ _ _ _ _ (by walk_at "my get") (by assumption) (by walk_at "my get") (by assumption) (by walk_at "om") (by walk_at "om") (by walk_at "om") (by assumption)) (h := ?_); walk_at "ints"))
  k_with "call ref" => (with_reducible refine atc 93 ?_; k_dflt (refine PureCall.ints (C := c_add _ _ _ _ _ _ _ _ _ _ _ _ (by walk_at "my get") (by assumption) (by walk_at "my get") (by assumption) (by walk_at "om") (by walk_at "om") (by assumption)) (h := ?_); walk_at "ints"))
  k_with "call builtin:str.find" => (refine find_is (by assumption) ?_)
  k_with "call ref" => (with_reducible refine atc 58 ?_; k_dflt (refine call_bad (h := ?_); intro e' tp' d' hs' t' tn' h' tk' F' N' l1; (try k_sweep); (try dsimp only)))
  k_with "call ref" => (with_reducible refine atc 107 ?_; k_dflt (refine PureCall.one (C := c_signed_of _ _ _) (h := ?_); intro t' h' tk' F' N' l1; (try simp only [AllNe, and_true] at l1); (try k_sweep); (try dsimp only)))
  trivial
end SN14
end ON14
section
variable {prog : Program} {w : World} {A₀ A : Around} {s : Shared} {base h₀ : Heap} {outer : List Env} {L : Addr} {m mg mb : Str → Option Value} {env : Env} {news : List (Addr × Obj)} {K : Frag} {p : Program} {loose : List Str} {mean : ExcName → Option Value}
  {Q E : Value → Shared → Prop} {name qual : Str} {params : Arguments} {body : List Stmt} {scope : Scope} {dV kV doc pm cdv ct oc : Value} {an od : Option Addr} {osl : Array (Option Value)} {f : Addr} {vs : List Value} {binds : List (Str × Value)}
theorem enterT (B : Below A₀ base outer h₀) (F : Fr h₀ L s.heap m) (X₀ : K.In h₀) (N : News h₀ L s.heap news) (T : Top p loose mean mg mb h₀) (hA : A.frames = some (env :: outer)) (hf : env.frame = some L) (hke : env.scope.kind = .function)
    (ho : K.lookup f = some ⟨oc, od, .func (fnOf name qual params body scope dV kV doc pm an cdv ct), osl⟩) (hcd : codeIn K cdv qual = true) (hroom : A.depth < recursionLimit)
    (hbind : BindsTo s (fnOf name qual params body scope dV kV doc pm an cdv ct) ⟨vs, []⟩ binds) (hloc : ∀ y ∈ binds, scope.names.lookup y.1 = some .local)
    (h : ∀ g L' h₁, (∀ b o, s.heap.get? b = some o → b ∉ news.map (·.1) → g.get? b = some o) → Fr g L' h₁ (fun y => binds.reverse.lookup y) → News g L' h₁ news → Below A base (env :: outer) g → K.In g → Top p loose mean mg mb g →
      wpAny (model prog w) (A.deeper (envX qual scope L' f cdv [])) (execs body (envX qual scope L' f cdv []))
        (fun fl s' => Done Q (match fl with | .ret v => v | _ => .none) s')
        (fun e s' => wpAny (model prog w) (A.deeper (envX qual scope L' f cdv [])) (leaving (envX qual scope L' f cdv []) e) (fun _ s'' => E e s'') E s')
        { s with heap := h₁, toks := s.toks + binds.length })
    (hcell : ∀ x ∈ scope.names, x.2 ≠ .cell) (hco : scope.isCoroutine = false) (hgen : scope.isGenerator = false) (hk : scope.kind = .function) : wpAny (model prog w) A (call (.ref f) vs) Q E s := by
  obtain ⟨_, BG, st, _⟩ := groundX (R := fun _ _ => True) B F N hA hf hke
  refine wpAny_call (codeAny_call_def (fd := fnOf name qual params body scope dV kV doc pm an cdv ct) (body := body) (binds := binds) hroom ((X₀.keeps F.keep) _ _ ho) rfl (T.nolimit.keeps F.keep) (codeRec_of (X₀.keeps F.keep) hcd) rfl hbind hcell hloc (fun h₁ hns hk₁ => ?_) hco hgen hk)
  exact h _ s.heap.objs.size h₁ (fun b o e nm => hideAll_get _ e nm) ⟨hns, fun b o e => hk₁ b o (of_hideAll _ e), Nat.le_of_eq (hideAll_size _ _)⟩
    (fun p hp => ⟨hk₁ _ _ (N p hp).1, Nat.ne_of_lt (Heap.lt_size (N p hp).1), hideAll_none _ (List.mem_map_of_mem hp)⟩) BG (X₀.keeps st) (T.keeps st)
end
noncomputable abbrev tapeO (i : Nat) (t : Tok) (l : Addr) (e : Nat) : Obj := W.listOf #[.int (i : Int) t, .ref l] e
noncomputable def TCall (w : World) (f : Addr) (dn : Nat) (vs : List Value) (h : Heap) (p l : Addr) (ws : List Value) (P : Value → Prop) (d : Nat) : Prop :=
  ∀ (prog : Program) (mean : ExcName → Option Value) (mg mb : Str → Option Value) (dp un : Nat) (gd : Option (List Code)) (cn : Str) (cs : Scope) (a : Addr) (ccd : Value) (cl : List (Str × Addr)) (outer : List Env) (A₀ : Around) (base h₀ : Heap) (L : Addr) (m : Str → Option Value) (s : Shared) (Q E : Value → Shared → Prop) (i : Nat) (t : Tok) (e e2 : Nat),
    s.heap = h → Below A₀ base outer h₀ → Fr h₀ L s.heap m → (Mine.hd.heap_1 w.params).In h₀ → Top Mine.hd.view_1 (looseW Mine.hd.view_1 []) mean mg mb h₀ → cs.kind = .function → dp + dn < recursionLimit → un + 8 * dn < cLine →
    News h₀ L h [(p, tapeO i t l e), (l, W.listOf ws.toArray e2)] → i + d ≤ 100 → p ≠ l →
    (∀ v h' tk' j t' e', (∀ b o, b ≠ p → h.get? b = some o → h'.get? b = some o) → h'.get? p = some (tapeO j t' l e') → j ≤ i + d → P v → Q v { s with heap := h', toks := tk' }) →
    wpAny (model prog w) (ktrTop dp un gd cn cs L a ccd cl outer) (call (.ref f) vs) Q E s
theorem fmod_in {many : Int} (h : (0 : Int) < many) (a : Int) (t : Tok) : ∃ (r : Nat) (t' : Tok), Value.int (a.fmod many) t = .int (r : Int) t' ∧ (r : Int) < many := by
  have h1 := Int.fmod_nonneg_of_pos a h
  have h2 := Int.fmod_lt_of_pos a h
  refine ⟨(a.fmod many).toNat, t, ?_, by omega⟩
  rw [Int.toNat_of_nonneg h1]
theorem tape_keep {s g h' : Heap} {L p l : Addr} {m : Str → Option Value} {o1 o2 : Obj} (hk : ∀ b o, s.get? b = some o → b ∉ [(p, o1), (l, o2)].map (·.1) → g.get? b = some o) {o1' : Obj} (F : Fr g L h' m) (N : News g L h' [(p, o1'), (l, o2)]) (hl : s.get? l = some o2) :
    ∀ b o, b ≠ p → s.get? b = some o → h'.get? b = some o := fun b o hb e => by
  by_cases hbl : b = l
  · subst hbl
    rw [hl] at e
    cases e
    exact (N _ (.tail _ (.head _))).1
  · refine F.keep b o (hk b o e fun hm => ?_)
    simp only [List.map_cons, List.map_nil, List.mem_cons, List.not_mem_nil, or_false] at hm
    rcases hm with q | q
    · exact hb q
    · exact hbl q
set_option maxHeartbeats 4000000 in
theorem c_next (w : World) (h : Heap) (p l : Addr) (ws : List Value) (ns : List Int) (many : Int) (u : Tok) (hI : IntsAre ws ns) (hn : ns.length ≤ 30) (hm : 0 < many) : TCall w 156 2 [.ref p, .int many u] h p l ws (fun v => ∃ (r : Nat) (t : Tok), v = .int (r : Int) t ∧ (r : Int) < many) 1 := by
  unfold TCall
  intro prog mean mg mb dp un gd cn cs a ccd cl outer A₀ base h₀ L m s Q E i t e e2 hs B F X T hkd hd hu N hi hpl hret
  subst hs
  have hpl' : @Ne Nat p l := hpl
  have hlp : @Ne Nat l p := hpl.symm
  have hws := hI.length
  have hwl : ws.toArray.size = ns.length := by simp [hws]
  k_dflt (refine' enterT B F X N T ?kA ?kF ?kK ?k6 ?k7 ?k8 ?k9 ?kB ?_ ?c5 ?c2 ?c3 ?c4)
  case kA => exact rfl
  case kF => exact rfl
  case kK => assumption
  case k6 => k_is
  case k7 => k_is
  case k8 => ktr_room
  case k9 => exact BindsTo.of_eq rfl
  case kB => exact locs rfl
  case c5 => decide
  case c2 => exact rfl
  case c3 => exact rfl
  case c4 => exact rfl
  intro g' L' h' hkeep F' N' B' X' T'
  have hNl : s.heap.get? l = some (W.listOf ws.toArray e2) := (N _ (.tail _ (.head _))).1
  clear F N B X T
  try dsimp only
  try k_lift B'
  try k_fold
  k_steps
  all_goals
    rename Fr _ _ _ _ => F9
    rename News _ _ _ _ => N9
    have hm0 : (0 : Int) < many := hm
    refine hret _ _ _ (i + 1) _ _ (tape_keep hkeep F9 N9 hNl) (N9 _ (.head _)).1 (Nat.le_refl _) (fmod_in hm0 _ _)
section ON16
open Builtin Builtin.Str
theorem form5' {m m₀ : Str → Option Value} {a b c d : Str} {v : Option Value} (h1 : m a = v) (h2 : ∀ y, y ≠ a → y ≠ b → y ≠ c → y ≠ d → m y = m₀ y) : m = fun y => if y = a then v else if y = b then m b else if y = c then m c else if y = d then m d else m₀ y := by
  funext y
  by_cases e1 : y = a
  · subst e1; simp [h1]
  · by_cases e2 : y = b
    · subst e2; simp [e1]
    · by_cases e3 : y = c
      · subst e3; simp [e1, e2]
      · by_cases e4 : y = d
        · subst e4; simp [e1, e2, e3]
        · simp [e1, e2, e3, e4, h2 y e1 e2 e3 e4]
theorem allNe_mem {l : Nat} : ∀ {news : List (Addr × Obj)}, AllNe l news → ∀ q ∈ news, q.1 ≠ l
  | [], _, _, hq => nomatch hq
  | p :: r, h, q, hq => by
    rcases List.mem_cons.mp hq with rfl | hq
    · exact h.1
    · exact allNe_mem h.2 q hq
theorem pre0 {h₀ h : Heap} {L : Addr} {q  : Addr × Obj} {post : List (Addr × Obj)} (N : News h₀ L h (q :: post)) : News h₀ L h ([] ++ q :: post) := N
theorem pre1 {h₀ h : Heap} {L : Addr} {q a : Addr × Obj} {post : List (Addr × Obj)} (N : News h₀ L h (a :: q :: post)) : News h₀ L h ([a] ++ q :: post) := N
theorem pre2 {h₀ h : Heap} {L : Addr} {q a b : Addr × Obj} {post : List (Addr × Obj)} (N : News h₀ L h (a :: b :: q :: post)) : News h₀ L h ([a, b] ++ q :: post) := N
theorem pre3 {h₀ h : Heap} {L : Addr} {q a b c : Addr × Obj} {post : List (Addr × Obj)} (N : News h₀ L h (a :: b :: c :: q :: post)) : News h₀ L h ([a, b, c] ++ q :: post) := N
theorem pre4 {h₀ h : Heap} {L : Addr} {q a b c d : Addr × Obj} {post : List (Addr × Obj)} (N : News h₀ L h (a :: b :: c :: d :: q :: post)) : News h₀ L h ([a, b, c, d] ++ q :: post) := N
section
variable {prog : Program} {w : World} {mean : ExcName → Option Value} {mg mb : Str → Option Value} {dp un : Nat} {gd : Option (List Code)} {cn : Str} {cs : Scope} {a : Addr} {ccd : Value} {cl : List (Str × Addr)} {outer : List Env} {A₀ : Around} {base h₀ : Heap} {L : Addr} {m : Str → Option Value} {s : Shared} {Q E : Value → Shared → Prop}
  {pre post : List (Addr × Obj)} {f : Addr} {dn : Nat} {vs : List Value} {p l : Addr} {ws : List Value} {P : Value → Prop} {d i e e2 : Nat} {t : Tok}
theorem TCall.any (B : Below A₀ base outer h₀ := by k_asm) (F : Fr h₀ L s.heap m := by k_asm) (X : (Mine.hd.heap_1 w.params).In h₀ := by k_asm) (T : Top Mine.hd.view_1 (looseW Mine.hd.view_1 []) mean mg mb h₀ := by k_asm) (N : News h₀ L s.heap (pre ++ (p, tapeO i t l e) :: post) := by k_asm) (hk : cs.kind = .function := by first | exact rfl | assumption)
    (C : TCall w f dn vs s.heap p l ws P d) (hd : dp + dn < recursionLimit := by ktr_room) (hu : un + 8 * dn < cLine := by ktr_units) (hl : (l, W.listOf ws.toArray e2) ∈ pre ++ (p, tapeO i t l e) :: post) (hi : i + d ≤ 100 := by omega) (hpl : @Ne Nat p l := by k_ne) (h1 : AllNe p pre) (h2 : AllNe p post)
    (h : ∀ v h' tk' j t' e', P v → j ≤ i + d → Fr h₀ L h' m → News h₀ L h' (pre ++ (p, tapeO j t' l e') :: post) → Q v { s with heap := h', toks := tk' }) :
    wpAny (model prog w) (ktrTop dp un gd cn cs L a ccd cl outer) (call (.ref f) vs) Q E s := by
  have Np := N (p, tapeO i t l e) (List.mem_append_right _ (.head _))
  refine C _ _ _ _ _ _ _ _ _ _ _ _ _ _ _ _ _ _ _ _ _ i t e e2 rfl B F X T hk hd hu (fun q hq => ?_) hi hpl fun v h' tk' j t' e' kp hp hj hP => ?_
  · simp only [List.mem_cons, List.not_mem_nil, or_false] at hq
    rcases hq with rfl | rfl
    · exact Np
    · exact N _ hl
  refine h v h' tk' j t' e' hP hj ⟨F.ns.at' fun o x => kp _ _ Np.2.1.symm x, fun b o x => kp b o (fun q => ?_) (F.keep b o x), F.above⟩ fun q hq => ?_
  · rw [q, Np.2.2] at x; cases x
  · rcases List.mem_append.mp hq with hq | hq
    · have := N q (List.mem_append_left _ hq)
      exact ⟨kp _ _ (allNe_mem h1 q hq) this.1, this.2⟩
    · rcases List.mem_cons.mp hq with rfl | hq
      · exact ⟨hp, Np.2⟩
      · have := N q (List.mem_append_right _ (.tail _ hq))
        exact ⟨kp _ _ (allNe_mem h2 q hq) this.1, this.2⟩
theorem TCall.next {many : Int} (B : Below A₀ base outer h₀ := by k_asm) (F : Fr h₀ L s.heap m := by k_asm) (X : (Mine.hd.heap_1 w.params).In h₀ := by k_asm) (T : Top Mine.hd.view_1 (looseW Mine.hd.view_1 []) mean mg mb h₀ := by k_asm) (N : News h₀ L s.heap (pre ++ (p, tapeO i t l e) :: post) := by first | exact pre0 (by k_asm) | exact pre1 (by k_asm) | exact pre2 (by k_asm) | exact pre3 (by k_asm) | exact pre4 (by k_asm)) (hk : cs.kind = .function := by first | exact rfl | assumption)
    (hl : (l, W.listOf ws.toArray e2) ∈ pre ++ (p, tapeO i t l e) :: post := by k_mem) (C : TCall w f dn vs s.heap p l ws (fun v => ∃ (r : Nat) (t : Tok), v = .int (r : Int) t ∧ (r : Int) < many) d) (hd : dp + dn < recursionLimit := by ktr_room) (hu : un + 8 * dn < cLine := by ktr_units) (hi : i + d ≤ 100 := by omega) (hpl : @Ne Nat p l := by k_ne) (h1 : AllNe p pre) (h2 : AllNe p post)
    (h : ∀ (r : Nat) tr h' tk' j t' e', (r : Int) < many → j ≤ i + d → Fr h₀ L h' m → News h₀ L h' (pre ++ (p, tapeO j t' l e') :: post) → Q (.int (r : Int) tr) { s with heap := h', toks := tk' }) :
    wpAny (model prog w) (ktrTop dp un gd cn cs L a ccd cl outer) (call (.ref f) vs) Q E s := by
  refine TCall.any B F X T N hk C hd hu hl hi hpl h1 h2 fun v h' tk' j t' e' P hj F' N' => ?_
  obtain ⟨r, tr, rfl, hr⟩ := P
  exact h r tr h' tk' j t' e' hr hj F' N'
theorem TCall.text {many : Nat} (B : Below A₀ base outer h₀ := by k_asm) (F : Fr h₀ L s.heap m := by k_asm) (X : (Mine.hd.heap_1 w.params).In h₀ := by k_asm) (T : Top Mine.hd.view_1 (looseW Mine.hd.view_1 []) mean mg mb h₀ := by k_asm) (N : News h₀ L s.heap (pre ++ (p, tapeO i t l e) :: post) := by first | exact pre0 (by k_asm) | exact pre1 (by k_asm) | exact pre2 (by k_asm) | exact pre3 (by k_asm) | exact pre4 (by k_asm)) (hk : cs.kind = .function := by first | exact rfl | assumption)
    (hl : (l, W.listOf ws.toArray e2) ∈ pre ++ (p, tapeO i t l e) :: post := by k_mem) (C : TCall w f dn vs s.heap p l ws (fun v => ∃ x t, v = .str x t ∧ x.length ≤ many) d) (hd : dp + dn < recursionLimit := by ktr_room) (hu : un + 8 * dn < cLine := by ktr_units) (hi : i + d ≤ 100 := by omega) (hpl : @Ne Nat p l := by k_ne) (h1 : AllNe p pre) (h2 : AllNe p post)
    (h : ∀ r tr h' tk' j t' e', r.length ≤ many → j ≤ i + d → Fr h₀ L h' m → News h₀ L h' (pre ++ (p, tapeO j t' l e') :: post) → Q (.str r tr) { s with heap := h', toks := tk' }) :
    wpAny (model prog w) (ktrTop dp un gd cn cs L a ccd cl outer) (call (.ref f) vs) Q E s := by
  refine TCall.any B F X T N hk C hd hu hl hi hpl h1 h2 fun v h' tk' j t' e' P hj F' N' => ?_
  obtain ⟨r, tr, rfl, hr⟩ := P
  exact h r tr h' tk' j t' e' hr hj F' N'
end
theorem StepMy.goT {h₀ : Heap} {L : Addr} {J' : (Str → Option Value) → List (Addr × Obj) → Prop} {s₁ : Shared} {Q : Flow → Shared → Prop} {h' : Heap} {tk : Nat} {m : Str → Option Value} {pre post : List (Addr × Obj)} {I p l : Addr} {oI o1 o2 : Obj}
    (F : Fr h₀ L h' m) (N : News h₀ L h' (pre ++ (p, o1) :: post)) (hI : (I, oI) ∈ pre ++ (p, o1) :: post) (hl : (l, o2) ∈ pre ++ (p, o1) :: post) (hpI : @Ne Nat p I) (hlI : @Ne Nat l I) (hJ : J' m [(p, o1), (l, o2)]) :
    StepMy h₀ L [(I, oI)] J' s₁ Q .next { s₁ with heap := h', toks := tk } := by
  refine StepMy.go [(p, o1), (l, o2)] F N (fun x hx => ?_) (fun x hx q hq => ?_) hJ
  · simp only [List.mem_append, List.mem_cons, List.not_mem_nil, or_false] at hx
    rcases hx with rfl | rfl | rfl
    · exact hI
    · exact List.mem_append_right _ (.head _)
    · exact hl
  · rw [List.mem_singleton.mp hq]
    simp only [List.mem_cons, List.not_mem_nil, or_false] at hx
    rcases hx with rfl | rfl
    · exact hpI
    · exact hlI
example : True := by
  k_with "my tape" => (first | exact True.intro | (simp only [AllNe, and_true]; (repeat' apply And.intro) <;> first | exact True.intro | k_ne))
  trivial
example : True := by
  k_with "tape" => (intro r' tr' h' tk' j' t' e' hr' hj' F' N'; (try dsimp only [List.cons_append, List.nil_append] at N'); (try k_sweep); (try dsimp only))
  trivial
example : True := by
  k_with "call ref" => (with_reducible refine atc 156 ?_; k_dflt (refine TCall.next (C := c_next _ _ _ _ _ _ _ _ (by assumption) (by walk_at "om") (by walk_at "om")) (h1 := by walk_at "my tape") (h2 := by walk_at "my tape") (h := ?_); walk_at "tape"))
  trivial
section SN16
example : True := by
  k_with_none
  k_with "my enter" => (refine' enterP ?k1_8126 ?k2_8126 ?k3_8126 ?k5_8126 ?kA_8126 ?kF_8126 ?kK_8126 ?k6_8126 ?k7_8126 ?k8_8126 ?kZ_8126 ?k9_8126 ?kB_8126 ?_ ?c2_8126 ?c3_8126 ?c4_8126 ?c5_8126; (case kA_8126 => exact rfl); (case kF_8126 => exact rfl); (case kK_8126 => assumption); (case k1_8126 => k_asm); (case k2_8126 => k_asm); (case k3_8126 => k_asm); (case k5_8126 => k_asm); (case k6_8126 => k_is); (case k7_8126 => k_is); (case k8_8126 => ktr_room); (case kZ_8126 => simp only [List.map_cons, List.map_nil, List.zip_cons_cons, List.zip_nil_left, List.zip_nil_right, List.reverse_cons, List.reverse_nil, List.nil_append, List.cons_append]; exact rfl); (case k9_8126 => exact BindsTo.of_eq rfl); (case c5_8126 => decide); (case kB_8126 => exact locs rfl); (case c2_8126 => exact rfl); (case c3_8126 => exact rfl); (case c4_8126 => exact rfl); k_whole; intro L' h' tk' F' N' B' X' T'; (try dsimp only); (try k_lift B'); (try k_fold))
  k_with "my enterC" => (refine' enterPC ?k1_8392 ?k2_8392 ?k3_8392 ?k5_8392 ?kA_8392 ?kF_8392 ?kK_8392 ?k6_8392 ?k7_8392 ?k8_8392 ?k9_8392 ?kB_8392 ?kD_8392 ?_ ?c2_8392 ?c3_8392 ?c4_8392; (case kA_8392 => exact rfl); (case kF_8392 => exact rfl); (case kK_8392 => assumption); (case k1_8392 => k_asm); (case k2_8392 => k_asm); (case k3_8392 => k_asm); (case k5_8392 => k_asm); (case k6_8392 => k_is); (case k7_8392 => k_is); (case k8_8392 => ktr_room); (case k9_8392 => exact BindsTo.of_eq rfl); (case kB_8392 => exact rfl); (case kD_8392 => decide +kernel); (case c2_8392 => exact rfl); (case c3_8392 => exact rfl); (case c4_8392 => exact rfl); k_whole; intro L' h' tk' cells' F' N' Y' B' X' T'; k_cells Y'; (try simp only [List.cons_append, List.nil_append] at N'); (try dsimp only); (try k_lift B'); (try k_fold))
  k_with "my keeps" => (first
  | exact True.intro
  | exact fun _ => True.intro
  | exact And.intro (fun o => mapFields_kd _ o) True.intro
  | exact And.intro (fun _ => And.intro rfl rfl) True.intro
  | assumption
  | (refine Keeps.bind ?_ fun _ => ?_ <;> walk_at "my keeps")
  | (split <;> walk_at "my keeps"))
  k_with "my get" => (first | exact News.get (by k_asm) (by assumption) | exact News.get (by k_asm) (by k_mem) | exact Fr.keep (by k_asm) _ _ (by assumption))
  k_with "om" => (first | assumption | omega)
  k_with "int" => (intro t' h' tk' F' N'; (try k_sweep); (try dsimp only))
  k_with "call ref" => (with_reducible refine atc 168 ?_; k_dflt (refine PureCall.int (C := c_whole _ _ _ _ _ _ _ _ (by walk_at "my get") (by assumption) (by walk_at "om") (by walk_at "om")) (h := ?_); walk_at "int"))
  k_with "ints" => (intro l' ws' e' h' tk' I' F' N' l1; (try simp only [AllNe, and_true] at l1); (try k_sweep); (try dsimp only))
  k_with "call ref" => (with_reducible refine atc 163 ?_; k_dflt (refine PureCall.ints (C := c_limbs _ _ _ _ _ _ (by walk_at "om") (by walk_at "om")) (h := ?_); walk_at "ints"))
  k_with "pair" => (intro t' l' l2' ws' e' us' e2' h' tk' I' I2' F' N' l1 l2 l3; (try simp only [AllNe, and_true] at l1 l2 l3); (try k_sweep); (try dsimp only))
  k_with "call ref" => (with_reducible refine atc 182 ?_; k_dflt (refine PureCall.pair (C := c_divrem _ _ _ _ _ _ _ _ _ _ _ _ (by walk_at "my get") (by assumption) (by walk_at "my get") (by assumption) (by walk_at "om") (by walk_at "om") (by walk_at "om") (by assumption)) (h := ?_); walk_at "pair"))
  k_with "call ref" => (with_reducible refine atc 79 ?_; k_dflt (refine PureCall.ints (C := c_normal _ _ _ _ _ _ _ (by walk_at "my get") (by assumption) (by walk_at "om") (by assumption)) (h := ?_); walk_at "ints"))
  k_with "call ref" => (with_reducible refine atc 100 ?_; k_dflt (refine PureCall.ints (C := c_common _ _ _ _ _ _ _ _ _ _ _ _ (by walk_at "my get") (by assumption) (by walk_at "my get") (by assumption) (by walk_at "om") (by walk_at "om") (by assumption)) (h := ?_); walk_at "ints"))
  k_with "my mem" => (first | exact List.Mem.head _ | (refine List.Mem.tail _ ?_; walk_at "my mem"))
  k_with "call ref" => (with_reducible refine atc 121 ?_; k_dflt (refine PureCall.int (C := c_plain _ _ _ _ _ _ _ _ (by walk_at "my get") (by assumption) (by walk_at "om") (by assumption)) (h := ?_); walk_at "int"))
  k_with "call ref" => (with_reducible refine atc 86 ?_; k_dflt (refine PureCall.ints (C := c_nat_of _ _ _ _ _ _ (by walk_at "om") (by walk_at "om")) (h := ?_); walk_at "ints"))
  k_with "call ref" => (with_reducible refine atc 128 ?_; k_dflt (refine PureCall.text (C := c_nat_text _ _ _ _ _ _ _ _ _ _ (by walk_at "my get") (by assumption) (by walk_at "om") (by assumption) (by assumption)) (h := ?_); walk_at "int"))
  k_with "call ref" => (with_reducible refine atc 175 ?_; k_dflt (refine PureCall.ints (C := c_mul _ _ _ _ _ _ _ _ _ _ _ _ (by walk_at "my get") (by assumption) (by walk_at "my get") (by assumption) (by walk_at "om") (by walk_at "om") (by walk_at "om") (by assumption)) (h := ?_); walk_at "ints"))
  k_with "call ref" => (with_reducible refine atc 93 ?_; k_dflt (refine PureCall.ints (C := c_add _ _ _ _ _ _ _ _ _ _ _ _ (by walk_at "my get") (by assumption) (by walk_at "my get") (by assumption) (by walk_at "om") (by walk_at "om") (by assumption)) (h := ?_); walk_at "ints"))
  k_with "call builtin:str.find" => (refine find_is (by assumption) ?_)
  k_with "call ref" => (with_reducible refine atc 58 ?_; k_dflt (refine call_bad (h := ?_); intro e' tp' d' hs' t' tn' h' tk' F' N' l1; (try k_sweep); (try dsimp only)))
  k_with "call ref" => (with_reducible refine atc 107 ?_; k_dflt (refine PureCall.one (C := c_signed_of _ _ _) (h := ?_); intro t' h' tk' F' N' l1; (try simp only [AllNe, and_true] at l1); (try k_sweep); (try dsimp only)))
  k_with "my tape" => (first | exact True.intro | (simp only [AllNe, and_true]; (repeat' apply And.intro) <;> first | exact True.intro | k_ne))
  k_with "tape" => (intro r' tr' h' tk' j' t' e' hr' hj' F' N'; (try dsimp only [List.cons_append, List.nil_append] at N'); (try k_sweep); (try dsimp only))
  k_with "call ref" => (with_reducible refine atc 156 ?_; k_dflt (refine TCall.next (C := c_next _ _ _ _ _ _ _ _ (by assumption) (by walk_at "om") (by walk_at "om")) (h1 := by walk_at "my tape") (h2 := by walk_at "my tape") (h := ?_); walk_at "tape"))
  k_with "exec For Name Call cons nil" => (refine Hold.out ?_)
  k_with "pyIter ref" => (refine Hold.out ?_)
  trivial
set_option maxHeartbeats 4000000 in
theorem c_digits (w : World) (h : Heap) (p l : Addr) (ws : List Value) (ns : List Int) (b many : Nat) (u u2 : Tok) (hI : IntsAre ws ns) (hn : ns.length ≤ 30) (hb : 2 ≤ b ∧ b ≤ 36) (hm : many ≤ 3) : TCall w 189 4 [.ref p, .int b u, .int many u2] h p l ws (fun v => ∃ x t, v = .str x t ∧ x.length ≤ many) (2 * many) := by
  unfold TCall
  intro prog mean mg mb dp un gd cn cs a ccd cl outer A₀ base h₀ L m s Q E i t e e2 hs B F X T hkd hd hu N hi hpl hret
  subst hs
  have hpl' : @Ne Nat p l := hpl
  have hlp : @Ne Nat l p := hpl.symm
  have hws := hI.length
  have hwl : ws.toArray.size = ns.length := by simp [hws]
  k_dflt (refine' enterT B F X N T ?kA ?kF ?kK ?k6 ?k7 ?k8 ?k9 ?kB ?_ ?c5 ?c2 ?c3 ?c4)
  case kA => exact rfl
  case kF => exact rfl
  case kK => assumption
  case k6 => k_is
  case k7 => k_is
  case k8 => ktr_room
  case k9 => exact BindsTo.of_eq rfl
  case kB => exact locs rfl
  case c5 => decide
  case c2 => exact rfl
  case c3 => exact rfl
  case c4 => exact rfl
  intro g' L' h' hkeep F' N' B' X' T'
  have hNl : s.heap.get? l = some (W.listOf ws.toArray e2) := (N _ (.tail _ (.head _))).1
  clear F N B X T
  try dsimp only
  try k_lift B'
  try k_fold
  k_steps
  refine Hold.intro (For1_my (by assumption) (by rfl) (by rfl) ?_)
  k_steps
  rename IsRange _ _ _ _ _ _ _ _ => hR
  refine Hold.intro (at_range many (fun m₀ c m nx => ∃ (j : Nat) (t' : Tok) (e' : Nat) (x : Str) (tx : Tok), j ≤ i + 2 * c ∧ nx = [(p, tapeO j t' l e'), (l, W.listOf ws.toArray e2)] ∧ x.length ≤ c ∧ m (Str.ofString "text") = some (.str x tx) ∧ ∀ y, y ≠ Str.ofString "text" → y ≠ Str.ofString "turn" → y ≠ Str.ofString "rows" → y ≠ Str.ofString "digit" → m y = m₀ y)
    rfl hR (small_range (by omega) (by omega) (by omega) (by omega)) (by rw [rangeSize_nat]; omega) (by assumption) (by assumption) [(p, tapeO i t l e), (l, W.listOf ws.toArray e2)] (fun q hq => ?_) ⟨i, t, e, Str.ofString "", _, by omega, rfl, Nat.le_of_eq slen_none, rfl, fun _ _ _ _ _ => rfl⟩ ?_ ?_)
  · exact hq
  · rintro c tc m1 nx h2 tk2 I oI hc ⟨j, t', e', x, tx, hj, rfl, hx, e1, e2'⟩ F2 N2 hne
    rw [form5' e1 e2'] at F2
    have hIp : @Ne Nat p I := hne _ (.head _)
    have hIl : @Ne Nat l I := hne _ (.tail _ (.head _))
    k_steps
    all_goals
      rename Fr _ _ _ _ => F9
      rename News _ _ _ _ => N9
      first
      | refine StepMy.goT (pre := []) F9 N9 (by k_mem) (by k_mem) hIp hIl ⟨_, _, _, _, _, ?_, rfl, ?_, rfl, fun y h1 h2 h3 h4 => by simp [h1, h2, h3, h4]⟩
      | refine StepMy.goT (pre := [_]) F9 N9 (by k_mem) (by k_mem) hIp hIl ⟨_, _, _, _, _, ?_, rfl, ?_, rfl, fun y h1 h2 h3 h4 => by simp [h1, h2, h3, h4]⟩
      | refine StepMy.goT (pre := [_, _]) F9 N9 (by k_mem) (by k_mem) hIp hIl ⟨_, _, _, _, _, ?_, rfl, ?_, rfl, fun y h1 h2 h3 h4 => by simp [h1, h2, h3, h4]⟩
      | refine StepMy.goT (pre := [_, _, _]) F9 N9 (by k_mem) (by k_mem) hIp hIl ⟨_, _, _, _, _, ?_, rfl, ?_, rfl, fun y h1 h2 h3 h4 => by simp [h1, h2, h3, h4]⟩
      · omega
      · rw [slen_app]
        first | (have q9 := len_item SG _; omega) | (rw [len_item]; omega)
  · rintro m1 nx h2 tk2 ⟨j, t', e', x, tx, hj, rfl, hx, e1, e2'⟩ F2 N2
    rw [form5' e1 e2'] at F2
    clear hR
    k_steps
    rename Fr _ _ _ _ => F9
    rename News _ _ _ _ => N9
    exact hret _ _ _ j _ _ (tape_keep hkeep F9 N9 hNl) (N9 _ (.head _)).1 hj ⟨x, _, rfl, hx⟩
example : True := by
  k_with_none
  k_with "my enter" => (refine' enterP ?k1_8126 ?k2_8126 ?k3_8126 ?k5_8126 ?kA_8126 ?kF_8126 ?kK_8126 ?k6_8126 ?k7_8126 ?k8_8126 ?kZ_8126 ?k9_8126 ?kB_8126 ?_ ?c2_8126 ?c3_8126 ?c4_8126 ?c5_8126; (case kA_8126 => exact rfl); (case kF_8126 => exact rfl); (case kK_8126 => assumption); (case k1_8126 => k_asm); (case k2_8126 => k_asm); (case k3_8126 => k_asm); (case k5_8126 => k_asm); (case k6_8126 => k_is); (case k7_8126 => k_is); (case k8_8126 => ktr_room); (case kZ_8126 => simp only [List.map_cons, List.map_nil, List.zip_cons_cons, List.zip_nil_left, List.zip_nil_right, List.reverse_cons, List.reverse_nil, List.nil_append, List.cons_append]; exact rfl); (case k9_8126 => exact BindsTo.of_eq rfl); (case c5_8126 => decide); (case kB_8126 => exact locs rfl); (case c2_8126 => exact rfl); (case c3_8126 => exact rfl); (case c4_8126 => exact rfl); k_whole; intro L' h' tk' F' N' B' X' T'; (try dsimp only); (try k_lift B'); (try k_fold))
  k_with "my enterC" => (refine' enterPC ?k1_8392 ?k2_8392 ?k3_8392 ?k5_8392 ?kA_8392 ?kF_8392 ?kK_8392 ?k6_8392 ?k7_8392 ?k8_8392 ?k9_8392 ?kB_8392 ?kD_8392 ?_ ?c2_8392 ?c3_8392 ?c4_8392; (case kA_8392 => exact rfl); (case kF_8392 => exact rfl); (case kK_8392 => assumption); (case k1_8392 => k_asm); (case k2_8392 => k_asm); (case k3_8392 => k_asm); (case k5_8392 => k_asm); (case k6_8392 => k_is); (case k7_8392 => k_is); (case k8_8392 => ktr_room); (case k9_8392 => exact BindsTo.of_eq rfl); (case kB_8392 => exact rfl); (case kD_8392 => decide +kernel); (case c2_8392 => exact rfl); (case c3_8392 => exact rfl); (case c4_8392 => exact rfl); k_whole; intro L' h' tk' cells' F' N' Y' B' X' T'; k_cells Y'; (try simp only [List.cons_append, List.nil_append] at N'); (try dsimp only); (try k_lift B'); (try k_fold))
  k_with "my keeps" => (first
  | exact True.intro
  | exact fun _ => True.intro
  | exact And.intro (fun o => mapFields_kd _ o) True.intro
  | exact And.intro (fun _ => And.intro rfl rfl) True.intro
  | assumption
  | (refine Keeps.bind ?_ fun _ => ?_ <;> walk_at "my keeps")
  | (split <;> walk_at "my keeps"))
  k_with "my get" => (first | exact News.get (by k_asm) (by assumption) | exact News.get (by k_asm) (by k_mem) | exact Fr.keep (by k_asm) _ _ (by assumption))
  k_with "om" => (first | assumption | omega)
  k_with "int" => (intro t' h' tk' F' N'; (try k_sweep); (try dsimp only))
  k_with "call ref" => (with_reducible refine atc 168 ?_; k_dflt (refine PureCall.int (C := c_whole _ _ _ _ _ _ _ _ (by walk_at "my get") (by assumption) (by walk_at "om") (by walk_at "om")) (h := ?_); walk_at "int"))
  k_with "ints" => (intro l' ws' e' h' tk' I' F' N' l1; (try simp only [AllNe, and_true] at l1); (try k_sweep); (try dsimp only))
  k_with "call ref" => (with_reducible refine atc 163 ?_; k_dflt (refine PureCall.ints (C := c_limbs _ _ _ _ _ _ (by walk_at "om") (by walk_at "om")) (h := ?_); walk_at "ints"))
  k_with "pair" => (intro t' l' l2' ws' e' us' e2' h' tk' I' I2' F' N' l1 l2 l3; (try simp only [AllNe, and_true] at l1 l2 l3); (try k_sweep); (try dsimp only))
  k_with "call ref" => (with_reducible refine atc 182 ?_; k_dflt (refine PureCall.pair (C := c_divrem _ _ _ _ _ _ _ _ _ _ _ _ (by walk_at "my get") (by assumption) (by walk_at "my get") (by assumption) (by walk_at "om") (by walk_at "om") (by walk_at "om") (by assumption)) (h := ?_); walk_at "pair"))
  k_with "call ref" => (with_reducible refine atc 79 ?_; k_dflt (refine PureCall.ints (C := c_normal _ _ _ _ _ _ _ (by walk_at "my get") (by assumption) (by walk_at "om") (by assumption)) (h := ?_); walk_at "ints"))
  k_with "call ref" => (with_reducible refine atc 100 ?_; k_dflt (refine PureCall.ints (C := c_common _ _ _ _ _ _ _ _ _ _ _ _ (by walk_at "my get") (by assumption) (by walk_at "my get") (by assumption) (by walk_at "om") (by walk_at "om") (by assumption)) (h := ?_); walk_at "ints"))
  k_with "my mem" => (first | exact List.Mem.head _ | (refine List.Mem.tail _ ?_; walk_at "my mem"))
  k_with "call ref" => (with_reducible refine atc 121 ?_; k_dflt (refine PureCall.int (C := c_plain _ _ _ _ _ _ _ _ (by walk_at "my get") (by assumption) (by walk_at "om") (by assumption)) (h := ?_); walk_at "int"))
  k_with "call ref" => (with_reducible refine atc 86 ?_; k_dflt (refine PureCall.ints (C := c_nat_of _ _ _ _ _ _ (by walk_at "om") (by walk_at "om")) (h := ?_); walk_at "ints"))
  k_with "call ref" => (with_reducible refine atc 128 ?_; k_dflt (refine PureCall.text (C := c_nat_text _ _ _ _ _ _ _ _ _ _ (by walk_at "my get") (by assumption) (by walk_at "om") (by assumption) (by assumption)) (h := ?_); walk_at "int"))
  k_with "call ref" => (with_reducible refine atc 175 ?_; k_dflt (refine PureCall.ints (C := c_mul _ _ _ _ _ _ _ _ _ _ _ _ (by walk_at "my get") (by assumption) (by walk_at "my get") (by assumption) (by walk_at "om") (by walk_at "om") (by walk_at "om") (by assumption)) (h := ?_); walk_at "ints"))
  k_with "call ref" => (with_reducible refine atc 93 ?_; k_dflt (refine PureCall.ints (C := c_add _ _ _ _ _ _ _ _ _ _ _ _ (by walk_at "my get") (by assumption) (by walk_at "my get") (by assumption) (by walk_at "om") (by walk_at "om") (by assumption)) (h := ?_); walk_at "ints"))
  k_with "call builtin:str.find" => (refine find_is (by assumption) ?_)
  k_with "call ref" => (with_reducible refine atc 58 ?_; k_dflt (refine call_bad (h := ?_); intro e' tp' d' hs' t' tn' h' tk' F' N' l1; (try k_sweep); (try dsimp only)))
  k_with "call ref" => (with_reducible refine atc 107 ?_; k_dflt (refine PureCall.one (C := c_signed_of _ _ _) (h := ?_); intro t' h' tk' F' N' l1; (try simp only [AllNe, and_true] at l1); (try k_sweep); (try dsimp only)))
  k_with "my tape" => (first | exact True.intro | (simp only [AllNe, and_true]; (repeat' apply And.intro) <;> first | exact True.intro | k_ne))
  k_with "tape" => (intro r' tr' h' tk' j' t' e' hr' hj' F' N'; (try dsimp only [List.cons_append, List.nil_append] at N'); (try k_sweep); (try dsimp only))
  k_with "call ref" => (with_reducible refine atc 156 ?_; k_dflt (refine TCall.next (C := c_next _ _ _ _ _ _ _ _ (by assumption) (by walk_at "om") (by walk_at "om")) (h1 := by walk_at "my tape") (h2 := by walk_at "my tape") (h := ?_); walk_at "tape"))
  trivial
end SN16
end ON16
section ORl
open Builtin Builtin.Str
noncomputable def HoldIf : Prop := True
noncomputable def HoldCall : Prop := True
noncomputable def AllShort : List Value → Prop
  | [] => True
  | v :: r => (∃ x t, v = .str x t ∧ x.length ≤ 1) ∧ AllShort r
theorem AllShort.at : ∀ {vs : List Value}, AllShort vs → ∀ i : Nat, i < vs.length → ∃ x t, vs[i]? = some (.str x t) ∧ x.length ≤ 1
  | [], _, i, h => absurd h (Nat.not_lt_zero i)
  | v :: r, hA, 0, _ => by
    obtain ⟨⟨x, t, rfl, hx⟩, _⟩ := hA
    exact ⟨x, t, rfl, hx⟩
  | v :: r, hA, i + 1, h => by
    obtain ⟨x, t, e, hx⟩ := AllShort.at hA.2 i (by simpa using h)
    exact ⟨x, t, by simpa using e, hx⟩
section
variable {prog : Program} {w : World} {A : Around} {E Q : Value → Shared → Prop} {s : Shared}
theorem menu_item {value slice : Expr} {l : Addr} {vs : Array Value} {e r : Nat} {u : Tok} (hl : s.heap.get? l = some (W.listOf vs e)) (hA : AllShort vs.toList) (hr : r < vs.toList.length) (hz : vs.toList.length ≤ 100)
    (h : ∀ x t, x.length ≤ 1 → Q (.str x t) s)
    (hs : subscripted slice false (.ref l) (.int (r : Int) u) = operate [.ref l, .int (r : Int) u] (getItem (.ref l) (.int (r : Int) u)) := by with_unfolding_all rfl) :
    wpAny (model prog w) A (subscriptTail value slice (.ref l) (.int (r : Int) u)) Q E s := by
  have hL : s.heap.IsList l vs := ⟨_, hl, rfl, _, rfl⟩
  obtain ⟨x, t, e, hx⟩ := hA.at r hr
  exact tail_any hL.typeIs slot_list_getitem.lookup (wpAny_getItem_list hL (by omega) (by omega) (by rw [Int.toNat_natCast, ← Array.getElem?_toList]; exact e) (h x t hx)) hs
theorem add_gen {a b : Str} {t u : Tok} (hsz : a.length + b.length ≤ 16000) (h : ∀ y t' tk, y.length = a.length + b.length → Q (.str y t') { s with toks := tk }) :
    wpAny (model prog w) A (binaryOp .Add (.str a t) (.str b u)) Q E s := by
  refine add_str (fun t' tk => h _ t' tk (slen_app a b)) ?_
  rw [sizeLine_eq]
  omega
theorem add_nat {a r : Nat} {I : Int} {t u : Tok} (hI : I = (a : Int)) (h : ∀ (n : Nat) t', n = a + r → Q (.int (n : Int) t') { s with toks := s.toks + 1 }) :
    wpAny (model prog w) A (binaryOp .Add (.int I t) (.int (r : Int) u)) Q E s := by
  subst hI
  refine add_int ?_
  rw [show ((a : Int) + (r : Int)) = ((a + r : Nat) : Int) by omega]
  exact h _ _ rfl
end
theorem sl_to {x : Str} {j : Nat} (h : j ≤ x.length) : (Txt.slice x none (some (j : Int))).length = j := by
  have e := beq_iff_eq.mp (slice_closes_toL (x := x) (j := (j : Int)) (by omega) (by omega))
  have : (Txt.slice x none (some (j : Int))).cps.toList.length = j := by
    rw [e]
    simp
    exact Nat.min_eq_left h
  rwa [Array.length_toList] at this
theorem sl_from {x : Str} {j : Nat} (h : j ≤ x.length) : (Txt.slice x (some (j : Int)) none).length = x.length - j := by
  have : (Txt.slice x (some (j : Int)) none).cps.toList.length = x.length - j := by
    rw [sl_s h, List.length_drop, Array.length_toList]
    rfl
  rwa [Array.length_toList] at this
section
variable {prog : Program} {w : World} {A : Around} {E Q : Value → Shared → Prop} {s : Shared} {h₀ : Heap} {L : Addr} {m : Str → Option Value} {news : List (Addr × Obj)}
theorem cut_to {value slice : Expr} {x : Str} {t uj : Tok} {j : Nat} (hF : Fr h₀ L s.heap m) (hN : News h₀ L s.heap news) (hx : x.length ≤ 16000) (hj : j ≤ x.length) (h : ∀ h' t' k (y : Str), Fr h₀ L h' m → News h₀ L h' news → y.length = j → Q (.str y t') { s with heap := h', toks := k })
    (hs : subscripted slice false (.str x t) (.ref s.heap.objs.size) = operate [.ref s.heap.objs.size, .str x t] (getItem (.str x t) (.ref s.heap.objs.size)) := by with_unfolding_all rfl)
    (ht : ∀ r, letTemporaryGo value (.str x t) r = pure () := by intro _; with_unfolding_all rfl) :
    wpAny (model prog w) A (subscriptTail value slice (.str x t) (.ref s.heap.objs.size)) Q E { s with heap := s.heap.push { cls := .type "slice", data := .fields #[.none, .int (j : Int) uj, .none] } } :=
  slice_strN_ns hF hN (fun h' t' k a b => h h' t' k _ a b (sl_to hj)) hs ht (by rw [sizeLine_eq]; omega)
theorem cut_from {value slice : Expr} {x : Str} {t uj : Tok} {j : Nat} (hF : Fr h₀ L s.heap m) (hN : News h₀ L s.heap news) (hx : x.length ≤ 16000) (hj : j ≤ x.length) (h : ∀ h' t' k (y : Str), Fr h₀ L h' m → News h₀ L h' news → y.length = x.length - j → Q (.str y t') { s with heap := h', toks := k })
    (hs : subscripted slice false (.str x t) (.ref s.heap.objs.size) = operate [.ref s.heap.objs.size, .str x t] (getItem (.str x t) (.ref s.heap.objs.size)) := by with_unfolding_all rfl)
    (ht : ∀ r, letTemporaryGo value (.str x t) r = pure () := by intro _; with_unfolding_all rfl) :
    wpAny (model prog w) A (subscriptTail value slice (.str x t) (.ref s.heap.objs.size)) Q E { s with heap := s.heap.push { cls := .type "slice", data := .fields #[.int (j : Int) uj, .none, .none] } } :=
  slice_strN_sn hF hN (fun h' t' k a b => h h' t' k _ a b (sl_from hj)) hs ht (by rw [sizeLine_eq]; omega)
end
theorem c_digits2 (w : World) (h : Heap) (p l : Addr) (ws : List Value) (ns : List Int) (b many : Nat) (u u2 : Tok) (hI : IntsAre ws ns) (hn : ns.length ≤ 30) (hb : 2 ≤ b ∧ b ≤ 36) (hm : many ≤ 3) : TCall w 189 4 [.ref p, .int b u, .int many u2] h p l ws (fun v => ∃ x t, v = .str x t ∧ x.length ≤ many) 6 := by
  have C := c_digits w h p l ws ns b many u u2 hI hn hb hm
  unfold TCall at C ⊢
  intro prog mean mg mb dp un gd cn cs a ccd cl outer A₀ base h₀ L m s Q E i t e e2 hs B F X T hk hd hu N hi hpl hret
  exact C prog mean mg mb dp un gd cn cs a ccd cl outer A₀ base h₀ L m s Q E i t e e2 hs B F X T hk hd hu N (by omega) hpl fun v h' tk' j t' e' k1 k2 hj hP => hret v h' tk' j t' e' k1 k2 (by omega) hP
noncomputable def IfEnd (h₀ : Heap) (L : Addr) (s : Shared) (J : (Str → Option Value) → List (Addr × Obj) → Prop) (fl : Flow) (s' : Shared) : Prop :=
  fl = .next ∧ ∃ h' tk m' nx, s' = { s with heap := h', toks := tk } ∧ Fr h₀ L h' m' ∧ News h₀ L h' nx ∧ J m' nx
theorem If_cut {prog : Program} {w : World} {A : Around} {E : Value → Shared → Prop} {Q : Flow → Shared → Prop} {s : Shared} {env : Env} {h₀ : Heap} {L : Addr} {m₀ : Str → Option Value} {test : Expr} {b1 b2 : List Stmt} {pos : Pos} (J : (Str → Option Value) → (Str → Option Value) → List (Addr × Obj) → Prop)
    (_F : Fr h₀ L s.heap m₀) (body : wpAny (model prog w) A (exec (.If test b1 b2 pos) env) (IfEnd h₀ L s (J m₀)) E s)
    (rest : ∀ h' tk m' nx, Fr h₀ L h' m' → News h₀ L h' nx → J m₀ m' nx → Q .next { s with heap := h', toks := tk }) :
    wpAny (model prog w) A (exec (.If test b1 b2 pos) env) Q E s :=
  wpAny_mono body (fun fl s' h => by
    obtain ⟨rfl, h', tk, m', nx, rfl, F, N, hJ⟩ := h
    exact rest h' tk m' nx F N hJ) fun _ _ e => e
theorem IfEnd.go {h₀ : Heap} {L : Addr} {s : Shared} {J : (Str → Option Value) → List (Addr × Obj) → Prop} {h' : Heap} {tk : Nat} {m' : Str → Option Value} {p q : Addr × Obj} {news : List (Addr × Obj)}
    (F : Fr h₀ L h' m') (N : News h₀ L h' news) (hp : p ∈ news) (hq : q ∈ news) (hJ : J m' [p, q]) : IfEnd h₀ L s J .next { s with heap := h', toks := tk } :=
  ⟨rfl, h', tk, m', [p, q], rfl, F, fun x hx => N x (by
    simp only [List.mem_cons, List.not_mem_nil, or_false] at hx
    rcases hx with rfl | rfl
    · exact hp
    · exact hq), hJ⟩
theorem tape_start {f : Int → Int} {ys : List Value} {l : List Int} (h : IntsAre ys (List.map f (List.take 30 l))) : ∃ ns, IntsAre ys ns ∧ ns.length ≤ 30 :=
  ⟨_, h, by rw [List.length_map, List.length_take]; exact Nat.min_le_left _ _⟩
theorem tape_news {h₀ h : Heap} {L l D : Addr} {t : Tok} {e : Nat} {ys : List Value} {r : List (Addr × Obj)} (N : News h₀ L h ((l, W.listOf #[.int 0 t, .ref D] e) :: (D, LCg.lst ys) :: r)) :
    News h₀ L h [(l, tapeO 0 t D e), (D, W.listOf ys.toArray ys.length)] := fun p hp => by
  simp only [List.mem_cons, List.not_mem_nil, or_false] at hp
  rcases hp with rfl | rfl
  · exact N _ (.head _)
  · exact N (D, LCg.lst ys) (.tail _ (.head _))
theorem tape_named {h₀ h : Heap} {L l D : Addr} {t : Tok} {e k : Nat} {ys : List Value} (_N : News h₀ L h [(l, tapeO 0 t D e), (D, W.listOf ys.toArray k)]) : ∃ p q, p = l ∧ q = D := ⟨l, D, rfl, rfl⟩
theorem form1 {m m₀ : Str → Option Value} {a : Str} {v : Option Value} (h1 : m a = v) (h2 : ∀ y, y ≠ a → m y = m₀ y) : m = fun y => if y = a then v else m₀ y := by
  funext y
  by_cases e1 : y = a
  · subst e1; simp [h1]
  · simp [e1, h2 y e1]
theorem form13 {m m₀ : Str → Option Value} {a b c : Str} {v : Option Value} (h1 : m a = v) (h2 : ∀ y, y ≠ a → y ≠ b → y ≠ c → m y = m₀ y) : m = fun y => if y = a then v else if y = b then m b else if y = c then m c else m₀ y := by
  funext y
  by_cases e1 : y = a
  · subst e1; simp [h1]
  · by_cases e2 : y = b
    · subst e2; simp [e1]
    · by_cases e3 : y = c
      · subst e3; simp [e1, e2]
      · simp [e1, e2, e3, h2 y e1 e2 e3]
theorem ext_slots {g' h' : Heap} {L : Addr} {h₀ h : Heap} {m : Str → Option Value} {news : List (Addr × Obj)} (T : KtsTurn [L] h g') (X : Ext g' h') (F : Fr h₀ L h m) (N : News h₀ L h news) : Fr h₀ L h' m ∧ News h₀ L h' news := by
  have hself := kts_self F
  refine ⟨⟨?_, fun b o e => X _ _ (T.other b o (F.keep b o e) ?_), F.above⟩, fun p hp => ⟨X _ _ (T.other _ _ (N p hp).1 ?_), (N p hp).2⟩⟩
  · obtain ⟨o, es, ep, ho, hd, hk, hf⟩ := F.ns
    obtain ⟨sl, hs⟩ := T.frame L o ho (.head _)
    exact ⟨{ o with slots := sl }, es, ep, X _ _ hs, hd, hk, hf⟩
  · intro hm
    rw [List.mem_singleton.mp hm, hself] at e
    cases e
  · intro hm
    exact (N p hp).2.1 (List.mem_singleton.mp hm)
noncomputable def outObj : Out → Tok → Tok → Tok → Array Value
  | .bad n, t, u, _ => #[.str (Str.ofString "bad") t, .int (n : Int) u]
  | .nought, t, _, _ => #[.str (Str.ofString "nought") t]
  | .told a b, t, u, u2 => #[.str (Str.ofString "told") t, .int a u, .int (b : Int) u2]
theorem outObj_of : ∀ {o : Out} {vs : Array Value}, IsOut o vs → ∃ t u u2, vs = outObj o t u u2
  | .bad _, _, ⟨t, u, h⟩ => ⟨t, u, 0, h⟩
  | .nought, _, ⟨t, h⟩ => ⟨t, 0, 0, h⟩
  | .told _ _, _, ⟨t, u, u2, h⟩ => ⟨t, u, u2, h⟩
section
variable {prog : Program} {w : World} {mean : ExcName → Option Value} {mg mb : Str → Option Value} {dp un : Nat} {gd : Option (List Code)} {cn : Str} {cs : Scope} {a : Addr} {ccd : Value} {cl : List (Str × Addr)} {outer : List Env} {A₀ : Around} {base h₀ : Heap} {L : Addr} {m : Str → Option Value} {s : Shared} {Q E : Value → Shared → Prop}
  {news : List (Addr × Obj)} {f : Addr} {dn : Nat} {vs : List Value} {o : Out}
theorem PureCall.out (B : Below A₀ base outer h₀ := by k_asm) (F : Fr h₀ L s.heap m := by k_asm) (X : (Mine.hd.heap_1 w.params).In h₀ := by k_asm) (T : Top Mine.hd.view_1 (looseW Mine.hd.view_1 []) mean mg mb h₀ := by k_asm) (N : News h₀ L s.heap news := by k_asm) (hk : cs.kind = .function := by first | exact rfl | assumption)
    (C : PureCall w f dn vs s.heap (NewOut o s.heap)) (hd : dp + dn < recursionLimit := by ktr_room) (hu : un + 8 * dn < cLine := by ktr_units)
    (h : ∀ t x y z h' tk', Fr h₀ L h' m → News h₀ L h' ((t, tup (outObj o x y z)) :: news) → AllNe t news → Q (.ref t) { s with heap := h', toks := tk' }) :
    wpAny (model prog w) (ktrTop dp un gd cn cs L a ccd cl outer) (call (.ref f) vs) Q E s := by
  refine C _ _ _ _ _ _ _ _ _ _ _ _ _ _ _ _ _ _ _ _ _ rfl B F X T hk hd hu fun v h' tk' x p => ?_
  obtain ⟨t, us, rfl, hn, ho, hi⟩ := p
  obtain ⟨y, z, z2, rfl⟩ := outObj_of hi
  exact h t y z z2 h' tk' (x.fr F) (Ext.cons F (x.news N) hn ho) (allNe_of hn N)
theorem HCall.out (B : Below A₀ h₀ [] h₀ := by k_asm) (F : Fr h₀ L s.heap m := by k_asm) (X : (Mine.hd.heap_1 w.params).In h₀ := by k_asm) (T : Top Mine.hd.view_1 (looseW Mine.hd.view_1 []) mean mg mb h₀ := by k_asm) (N : News h₀ L s.heap news := by k_asm) (hk : cs.kind = .function := by first | exact rfl | assumption)
    (C : HCall w f dn vs s.heap (NewOut o s.heap)) (hd : dp + dn < recursionLimit := by ktr_room) (hu : un + 8 * dn < cLine := by ktr_units)
    (h : ∀ t x y z h' tk', Fr h₀ L h' m → News h₀ L h' ((t, tup (outObj o x y z)) :: news) → AllNe t news → Q (.ref t) { s with heap := h', toks := tk' }) :
    wpAny (model PG w) (ktrTop dp un gd cn cs L a ccd cl []) (call (.ref f) vs) Q E s := by
  refine C _ _ _ _ _ _ _ _ _ _ _ _ _ _ _ _ _ _ rfl B F X T hk hd hu fun v h' g' tk' tt x p => ?_
  obtain ⟨t, us, rfl, hn, ho, hi⟩ := p
  obtain ⟨F', N'⟩ := ext_slots tt x F N
  obtain ⟨y, z, z2, rfl⟩ := outObj_of hi
  exact h t y z z2 h' tk' F' (Ext.cons F N' hn ho) (allNe_of hn N)
end
end ORl
section ORl2
open Builtin Builtin.Str
noncomputable def HGen : Prop := True
theorem top_len (x : Str) : (topOf x).length ≤ x.length := by
  unfold topOf
  rw [List.length_drop, List.length_take, Array.length_toList]
  have : x.cps.size = x.length := rfl
  omega
theorem bot_len (x : Str) : (botOf x).length ≤ x.length := by
  unfold botOf
  rw [List.length_drop, Array.length_toList]
  have : x.cps.size = x.length := rfl
  omega
theorem pow64 {b n : Nat} (hb : b ≤ 36) (h : n < b ^ 8) : n < 2 ^ 64 :=
  Nat.lt_trans (Nat.lt_of_lt_of_le h (Nat.pow_le_pow_left hb 8)) (by decide)
theorem c_read2 (w : World) (h : Heap) (x : Str) (b : Nat) (u t : Tok) {o : Out} (ho : lawOut b x = o) (hx : x.length ≤ 8) (hb : 2 ≤ b ∧ b ≤ 36) : PureCall w 196 13 [.str x t, .int b u] h (NewOut o h) :=
  ho ▸ c_read w h x b u t (by omega) hb
theorem c_heard2 (w : World) (h : Heap) (x : Str) (b k : Nat) (u u2 t : Tok) {o : Out} (ho : (readR b x).out = o)
    (hx : x.length ≤ 64) (hp1 : (topOf x).length ≤ 12) (hp2 : (botOf x).length ≤ 12) (hb : 2 ≤ b ∧ b ≤ 36) (hk : 2 ≤ k ∧ k ≤ 9) : HCall w 210 20 [.str x t, .int b u2, .int k u] h (NewOut o h) :=
  ho ▸ c_heard w h x b k u u2 t hx hp1 hp2 hb hk
section
variable {prog : Program} {w : World} {A : Around} {E Q : Value → Shared → Prop} {s : Shared}
theorem add_exact {a b : Str} {t u : Tok} (hsz : a.length + b.length ≤ 16000) (h : ∀ t' tk, Q (.str (a ++ b) t') { s with toks := tk }) :
    wpAny (model prog w) A (binaryOp .Add (.str a t) (.str b u)) Q E s :=
  add_str h (by rw [sizeLine_eq]; omega)
end
theorem eq_same {prog : Program} {w : World} {A : Around} {E Q : Value → Shared → Prop} {s : Shared} {x y : Str} {t u : Tok} (h : y = x) (hQ : Q (.bool true) s) : wpAny (model prog w) A (compareOp .Eq (.str x t) (.str y u)) Q E s := by
  subst h
  refine eq_str ?_
  rw [beq_self_eq_true]
  exact hQ
end ORl2
section ORl3
open Builtin Builtin.Str
noncomputable def HoldAs : Prop := True
theorem split3 {M : Model} {A : Around} {Q E : Value → Shared → Prop} {s : Shared} {t u : Tok} {b : Nat} {x : Str} (hb : 2 ≤ b ∧ b ≤ 36) (hx : x.length ≤ 8)
    (h1 : 2 ≤ b ∧ b ≤ 36 → (topOf x).length ≤ 12 → (botOf x).length ≤ 12 → ∀ n, (readR b x).out = .bad n → lawOut b x = .bad n → wpAny M A (call (.ref 196) [.str x t, .int (b : Int) u]) Q E s)
    (h2 : 2 ≤ b ∧ b ≤ 36 → (topOf x).length ≤ 12 → (botOf x).length ≤ 12 → (readR b x).out = .nought → lawOut b x = .nought → wpAny M A (call (.ref 196) [.str x t, .int (b : Int) u]) Q E s)
    (h3 : 2 ≤ b ∧ b ≤ 36 → (topOf x).length ≤ 12 → (botOf x).length ≤ 12 → ∀ (a : Int) (sg : Bool) (P R : Nat) (x1 x2 : Str), (readR b x).out = .told a R → lawOut b x = .told a R → 0 < R → P < 2 ^ 64 → R < 2 ^ 64 →
      (if a < 0 then -a else a) = (P : Int) → decide (a < 0) = sg →
      (readR b x2).out = .told a R → x2.length ≤ 64 → (topOf x2).length ≤ 12 → (botOf x2).length ≤ 12 → x1.length ≤ 65 → (shownN b P).length ≤ 64 → (shownN b R).length ≤ 64 →
      (a < 0 → Str.ofString "-" ++ shownN b P = x1) → (¬ a < 0 → Str.ofString "" ++ shownN b P = x1) → ((R : Int) = 1 → x1 = x2) → (¬ (R : Int) = 1 → x1 ++ Str.ofString "/" ++ shownN b R = x2) → ratText b sg P R = x2 → wpAny M A (call (.ref 196) [.str x t, .int (b : Int) u]) Q E s) :
    Hold (wpAny M A (call (.ref 196) [.str x t, .int (b : Int) u]) Q E s) := by
  refine Hold.intro ?_
  have p1 := Nat.le_trans (top_len x) (show x.length ≤ 12 by omega)
  have p2 := Nat.le_trans (bot_len x) (show x.length ≤ 12 by omega)
  have hl := law_is b x
  cases ho : (readR b x).out with
  | bad n => exact h1 hb p1 p2 n ho (hl.trans ho)
  | nought => exact h2 hb p1 p2 ho (hl.trans ho)
  | told a c =>
    obtain ⟨sg, P, ha, hs, hg, hc, hP, hR⟩ := told_inv hb.1 hx ho
    have hP64 := pow64 hb.2 hP
    have hR64 := pow64 hb.2 hR
    have r1 := rat_read (b := b) (sg := sg) hb hg hs hc
    have r2 := rat_len (sg := sg) hb hP hR
    have r3 := rat_top_len (b := b) (R := c) (sg := sg) hb hP
    have s1 := shownN_len (b := b) (x := P) (by omega) hP64
    have s2 := shownN_len (b := b) (x := c) (by omega) hR64
    have r4 := rat_bot_len (b := b) (P := P) (sg := sg) hb hR
    have q2 : (Str.ofString "-").length = 1 := by decide +kernel
    have q3 : (Str.ofString "").length = 0 := by decide +kernel
    rw [← ha] at r1
    refine h3 hb p1 p2 a sg P c ((if sg = true then Str.ofString "-" else Str.ofString "") ++ shownN b P) (ratText b sg P c) ho (hl.trans ho) hc hP64 hR64 ?_ ?_ r1 r2 r3 r4 ?_ s1 s2 ?_ ?_ (fun e => (ratText_one (by omega)).symm) (fun e => (ratText_ne (by omega)).symm) rfl
    · cases sg with
      | true => have := hs rfl; simp at ha; subst ha; split <;> omega
      | false => simp at ha; subst ha; split <;> omega
    · cases sg with
      | true => have := hs rfl; simp at ha; subst ha; simp; omega
      | false => simp at ha; subst ha; simp
    · rw [slen_app]; split <;> omega
    · intro e
      cases sg with
      | true => rfl
      | false => simp at ha; subst ha; omega
    · intro e
      cases sg with
      | true => have := hs rfl; simp at ha; subst ha; omega
      | false => rfl
section
variable {prog : Program} {w : World} {A : Around} {E Q : Value → Shared → Prop} {s : Shared}
theorem abs_gen {a : Int} {P : Nat} {t : Tok} (ha : (if a < 0 then -a else a) = (P : Int)) (h : ∀ u tk, Q (.int (P : Int) u) { s with toks := tk }) : wpAny (model prog w) A (call (.builtin "abs") [.int a t]) Q E s := by
  refine call_abs_int fun u tk => ?_
  rw [ha]
  exact h u tk
end
noncomputable def ShEnd (h₀ : Heap) (L : Addr) (s : Shared) (m₀ : Str → Option Value) (p : Addr × Obj) (x : Str) (fl : Flow) (s' : Shared) : Prop :=
  fl = .next ∧ ∃ h' tk t, s' = { s with heap := h', toks := tk } ∧ Fr h₀ L h' (fun y => if y = Str.ofString "shown" then some (.str x t) else m₀ y) ∧ News h₀ L h' [p]
theorem sh_cut {prog : Program} {w : World} {A : Around} {E : Value → Shared → Prop} {Q : Flow → Shared → Prop} {s : Shared} {env : Env} {h₀ : Heap} {L : Addr} {m₀ : Str → Option Value} {st : Stmt} {p : Addr × Obj} {news : List (Addr × Obj)} (x : Str)
    (_F : Fr h₀ L s.heap m₀) (_N : News h₀ L s.heap news) (_hp : p ∈ news) (body : wpAny (model prog w) A (exec st env) (ShEnd h₀ L s m₀ p x) E s)
    (rest : ∀ h' tk t, Fr h₀ L h' (fun y => if y = Str.ofString "shown" then some (.str x t) else m₀ y) → News h₀ L h' [p] → Q .next { s with heap := h', toks := tk }) :
    wpAny (model prog w) A (exec st env) Q E s :=
  wpAny_mono body (fun fl s' h => by
    obtain ⟨rfl, h', tk, t, rfl, F, N⟩ := h
    exact rest h' tk t F N) fun _ _ e => e
theorem ShEnd.go {h₀ : Heap} {L : Addr} {s : Shared} {h' : Heap} {tk : Nat} {m₀ : Str → Option Value} {p : Addr × Obj} {news : List (Addr × Obj)} {x y : Str} {t : Tok}
    (F : Fr h₀ L h' (fun z => if z = Str.ofString "shown" then some (.str y t) else m₀ z)) (N : News h₀ L h' news) (hp : p ∈ news) (e : y = x) : ShEnd h₀ L s m₀ p x .next { s with heap := h', toks := tk } :=
  ⟨rfl, h', tk, t, rfl, e ▸ F, fun z hz => N z (by rw [List.mem_singleton.mp hz]; exact hp)⟩
theorem c_r_text3 (w : World) (h : Heap) (x y b k : Nat) (neg sg : Bool) (t tp p q : Addr) (ws us : List Value) (e e2 : Nat) (u u2 : Tok) {x2 : Str} (hr : ratText b sg x y = x2) (hn : neg = sg) (ht : h.get? t = some (tup #[.ref tp, .ref q])) (htp : h.get? tp = some (tup #[.bool neg, .ref p]))
    (ha : h.get? p = some (W.listOf ws.toArray e)) (hI : IntsAre ws (limbs k x)) (hc : h.get? q = some (W.listOf us.toArray e2)) (hJ : IntsAre us (limbs k y))
    (hx : x < 2 ^ 64) (hy : y < 2 ^ 64) (hb : 2 ≤ b ∧ b ≤ 36) (hk : 2 ≤ k ∧ k ≤ 9) : PureCall w 135 17 [.ref t, .int b u2, .int k u, .ref 182] h (fun v _ => ∃ t, v = .str x2 t) := by
  subst hn hr
  exact c_r_text w h x y b k neg t tp p q ws us e e2 u u2 ht htp ha hI hc hJ hx hy hb hk
end ORl3
section ON17
open Builtin Builtin.Str
example : True := by
  k_with "call ref" => (with_reducible refine atc 189 ?_; k_dflt (refine TCall.text (C := c_digits2 _ _ _ _ _ _ _ _ _ _ (by assumption) (by assumption) (by walk_at "om") (by walk_at "om")) (h1 := by walk_at "my tape") (h2 := by walk_at "my tape") (h := ?_); walk_at "tape"))
  trivial
example : True := by
  k_with "out" => (intro t' x' y' z' h' tk' F' N' l1; (try dsimp only [outObj] at N'); (try simp only [AllNe, and_true] at l1); (try k_sweep); (try dsimp only))
  trivial
example : True := by
  k_with "call ref" => (with_reducible refine atc 196 ?_; k_dflt (refine PureCall.out (C := c_read2 _ _ _ _ _ _ (by with_reducible assumption) (by assumption) (by assumption)) (h := ?_); walk_at "out"))
  trivial
example : True := by
  k_with "call ref" => (with_reducible refine atc 210 ?_; k_dflt (refine HCall.out (C := c_heard2 _ _ _ _ _ _ _ _ (by with_reducible assumption) (by first | with_reducible assumption | omega) (by with_reducible assumption) (by with_reducible assumption) (by assumption) (by walk_at "om")) (h := ?_); walk_at "out"))
  trivial
example : True := by
  k_with "call ref" => (with_reducible refine atc 203 ?_; k_dflt (refine PureCall.text (C := c_shown _ _ _ _ _ _ (by assumption) (by assumption)) (h := ?_); walk_at "int"))
  trivial
example : True := by
  k_with "call ref" => (with_reducible refine atc 135 ?_; k_dflt (refine PureCall.text (C := c_r_text3 _ _ _ _ _ _ _ _ _ _ _ _ _ _ _ _ _ _ (by with_reducible assumption) (by with_reducible assumption) (by walk_at "my get") (by walk_at "my get") (by walk_at "my get") (by assumption) (by walk_at "my get") (by assumption) (by assumption) (by assumption) (by assumption) (by walk_at "om")) (h := ?_); walk_at "int"))
  trivial
noncomputable def go.tw10013141965534561143 : Nat := 0
noncomputable def go.tw10150587088903491882 : Nat := 0
noncomputable def go.tw10176059891596178878 : Nat := 0
noncomputable def go.tw1026647196757137804 : Nat := 0
noncomputable def go.tw10450390705859241510 : Nat := 0
noncomputable def go.tw10584294725982564617 : Nat := 0
noncomputable def go.tw10641048703480497397 : Nat := 0
noncomputable def go.tw1068862349082813783 : Nat := 0
noncomputable def go.tw10745360467900644685 : Nat := 0
noncomputable def go.tw10977448669636701384 : Nat := 0
noncomputable def go.tw10986025652537602392 : Nat := 0
noncomputable def go.tw11017915275324742753 : Nat := 0
noncomputable def go.tw11039315608779421605 : Nat := 0
noncomputable def go.tw11062646898967359301 : Nat := 0
noncomputable def go.tw11118938859718820679 : Nat := 0
noncomputable def go.tw11207181897152444969 : Nat := 0
noncomputable def go.tw11223066610325710060 : Nat := 0
noncomputable def go.tw11391891393161257070 : Nat := 0
noncomputable def go.tw11570796475036077061 : Nat := 0
noncomputable def go.tw1159480253435912002 : Nat := 0
noncomputable def go.tw116665817152024671 : Nat := 0
noncomputable def go.tw11841938759519639101 : Nat := 0
noncomputable def go.tw11860311468703693670 : Nat := 0
noncomputable def go.tw11874280359716629074 : Nat := 0
noncomputable def go.tw11900582823092892591 : Nat := 0
noncomputable def go.tw12047166493661642947 : Nat := 0
noncomputable def go.tw12150177500037510396 : Nat := 0
noncomputable def go.tw12287620284195628932 : Nat := 0
noncomputable def go.tw1233132851799188586 : Nat := 0
noncomputable def go.tw12375131405523100414 : Nat := 0
noncomputable def go.tw12392433393114764738 : Nat := 0
noncomputable def go.tw12444658909571370742 : Nat := 0
noncomputable def go.tw12528215140573568937 : Nat := 0
noncomputable def go.tw12605570538089688823 : Nat := 0
noncomputable def go.tw12656855963267087032 : Nat := 0
noncomputable def go.tw12724453667079249425 : Nat := 0
noncomputable def go.tw12850891809264655065 : Nat := 0
noncomputable def go.tw12979996230898546648 : Nat := 0
noncomputable def go.tw12985016639916131933 : Nat := 0
noncomputable def go.tw13015593750660303848 : Nat := 0
noncomputable def go.tw13035626856510559865 : Nat := 0
noncomputable def go.tw1304328876107414062 : Nat := 0
noncomputable def go.tw13091797612314929374 : Nat := 0
noncomputable def go.tw13131407112785927979 : Nat := 0
noncomputable def go.tw13199889393850795219 : Nat := 0
noncomputable def go.tw13244826578425992112 : Nat := 0
noncomputable def go.tw13246349066613663003 : Nat := 0
noncomputable def go.tw13254880653069160477 : Nat := 0
noncomputable def go.tw13275656174496245976 : Nat := 0
noncomputable def go.tw13533190373284556911 : Nat := 0
noncomputable def go.tw13629478322225355696 : Nat := 0
noncomputable def go.tw13837350026653545653 : Nat := 0
noncomputable def go.tw13846827057094481733 : Nat := 0
noncomputable def go.tw13895370066774054007 : Nat := 0
noncomputable def go.tw14150899722109479099 : Nat := 0
noncomputable def go.tw14256976129453552497 : Nat := 0
noncomputable def go.tw14308392476738867058 : Nat := 0
noncomputable def go.tw14530939029531264936 : Nat := 0
noncomputable def go.tw14581595549215161228 : Nat := 0
noncomputable def go.tw14588642168579220171 : Nat := 0
noncomputable def go.tw14610867083194633259 : Nat := 0
noncomputable def go.tw14630237377197128601 : Nat := 0
noncomputable def go.tw14787931725546465441 : Nat := 0
noncomputable def go.tw14839914782335280870 : Nat := 0
noncomputable def go.tw14851214282085581293 : Nat := 0
noncomputable def go.tw14864502500686147276 : Nat := 0
noncomputable def go.tw14899311846326938756 : Nat := 0
noncomputable def go.tw15044495724516194049 : Nat := 0
noncomputable def go.tw15065298461513194574 : Nat := 0
noncomputable def go.tw15288310289017009797 : Nat := 0
noncomputable def go.tw15336461733892503271 : Nat := 0
noncomputable def go.tw15463769565635949002 : Nat := 0
noncomputable def go.tw1547176844810960656 : Nat := 0
noncomputable def go.tw15605211283554415260 : Nat := 0
noncomputable def go.tw15657477165280572705 : Nat := 0
noncomputable def go.tw15748842697667225083 : Nat := 0
noncomputable def go.tw15801895198939909880 : Nat := 0
noncomputable def go.tw15854918214955441383 : Nat := 0
noncomputable def go.tw15881785829279372805 : Nat := 0
noncomputable def go.tw15973795711563652481 : Nat := 0
noncomputable def go.tw1600066662621846134 : Nat := 0
noncomputable def go.tw1603645036231065770 : Nat := 0
noncomputable def go.tw1616840469744965496 : Nat := 0
noncomputable def go.tw1617966631527844065 : Nat := 0
noncomputable def go.tw16222980010781478741 : Nat := 0
noncomputable def go.tw16248966711524563390 : Nat := 0
noncomputable def go.tw16331548564479461367 : Nat := 0
noncomputable def go.tw16490249698526778424 : Nat := 0
noncomputable def go.tw16569703061755497538 : Nat := 0
noncomputable def go.tw1660524433713880172 : Nat := 0
noncomputable def go.tw16626188688930448452 : Nat := 0
noncomputable def go.tw16638524382843052331 : Nat := 0
noncomputable def go.tw16651740252536449761 : Nat := 0
noncomputable def go.tw1687165154197092038 : Nat := 0
noncomputable def go.tw16948351884070481111 : Nat := 0
noncomputable def go.tw16984756067346102785 : Nat := 0
noncomputable def go.tw17078824902306133550 : Nat := 0
noncomputable def go.tw17138731226729844274 : Nat := 0
noncomputable def go.tw17385855169327285940 : Nat := 0
noncomputable def go.tw17408264440351795726 : Nat := 0
noncomputable def go.tw17567045220282873143 : Nat := 0
noncomputable def go.tw17589141984645954720 : Nat := 0
noncomputable def go.tw17625589323191495619 : Nat := 0
noncomputable def go.tw17713649615248325466 : Nat := 0
noncomputable def go.tw17814205985162091692 : Nat := 0
noncomputable def go.tw17899595973202607380 : Nat := 0
noncomputable def go.tw17988444863797559951 : Nat := 0
noncomputable def go.tw18018740623648974409 : Nat := 0
noncomputable def go.tw18099282376624618755 : Nat := 0
noncomputable def go.tw1821547014841620277 : Nat := 0
noncomputable def go.tw1821933653962357396 : Nat := 0
noncomputable def go.tw18321667043810271612 : Nat := 0
noncomputable def go.tw18357271146240748632 : Nat := 0
noncomputable def go.tw1857306246702604225 : Nat := 0
noncomputable def go.tw1899694054800106219 : Nat := 0
noncomputable def go.tw2012919540843472109 : Nat := 0
noncomputable def go.tw2186821339878654170 : Nat := 0
noncomputable def go.tw2201756097114706204 : Nat := 0
noncomputable def go.tw2260980390379369427 : Nat := 0
noncomputable def go.tw2318405031202532839 : Nat := 0
noncomputable def go.tw2417548367454455823 : Nat := 0
noncomputable def go.tw2442213927418664085 : Nat := 0
noncomputable def go.tw2445597724081340381 : Nat := 0
noncomputable def go.tw2508255044705368994 : Nat := 0
noncomputable def go.tw2596576752514998514 : Nat := 0
noncomputable def go.tw2627985634905215540 : Nat := 0
noncomputable def go.tw2674624629608824676 : Nat := 0
noncomputable def go.tw2725279182593108791 : Nat := 0
noncomputable def go.tw2801876578361619532 : Nat := 0
noncomputable def go.tw2843334866305654066 : Nat := 0
noncomputable def go.tw2999892936170001949 : Nat := 0
noncomputable def go.tw314747279072254515 : Nat := 0
noncomputable def go.tw323417449798562731 : Nat := 0
noncomputable def go.tw3306590187757971107 : Nat := 0
noncomputable def go.tw3331575061702620314 : Nat := 0
noncomputable def go.tw3501916529792883405 : Nat := 0
noncomputable def go.tw350599972289029107 : Nat := 0
noncomputable def go.tw357486453476387696 : Nat := 0
noncomputable def go.tw3664333782871508498 : Nat := 0
noncomputable def go.tw3678194001251860922 : Nat := 0
noncomputable def go.tw3845076819085193066 : Nat := 0
noncomputable def go.tw4254923169180631234 : Nat := 0
noncomputable def go.tw4273280351846841646 : Nat := 0
noncomputable def go.tw4547234665925602256 : Nat := 0
noncomputable def go.tw4563606333067802189 : Nat := 0
noncomputable def go.tw4631475850371381492 : Nat := 0
noncomputable def go.tw4693765895220792052 : Nat := 0
noncomputable def go.tw4793817790412734147 : Nat := 0
noncomputable def go.tw4809381741162136369 : Nat := 0
noncomputable def go.tw4826114209854086833 : Nat := 0
noncomputable def go.tw4840177385205084148 : Nat := 0
noncomputable def go.tw498376840923386572 : Nat := 0
noncomputable def go.tw5026100245474550566 : Nat := 0
noncomputable def go.tw5064775503185570096 : Nat := 0
noncomputable def go.tw5147182702490143054 : Nat := 0
noncomputable def go.tw5163241310692852646 : Nat := 0
noncomputable def go.tw5330663866594035918 : Nat := 0
noncomputable def go.tw5498321254478136440 : Nat := 0
noncomputable def go.tw5572939255205528469 : Nat := 0
noncomputable def go.tw5624269032668656378 : Nat := 0
noncomputable def go.tw5655820146703920429 : Nat := 0
noncomputable def go.tw5716807986109319684 : Nat := 0
noncomputable def go.tw5720694811904572105 : Nat := 0
noncomputable def go.tw5754561495750798247 : Nat := 0
noncomputable def go.tw5757692340160500525 : Nat := 0
noncomputable def go.tw584013970865945204 : Nat := 0
noncomputable def go.tw5966200797226664896 : Nat := 0
noncomputable def go.tw6113638392918833732 : Nat := 0
noncomputable def go.tw6126609423928466773 : Nat := 0
noncomputable def go.tw6128261125556168065 : Nat := 0
noncomputable def go.tw6199178584747323521 : Nat := 0
noncomputable def go.tw6240360979801141464 : Nat := 0
noncomputable def go.tw645291903919823186 : Nat := 0
noncomputable def go.tw6568231065850667749 : Nat := 0
noncomputable def go.tw6644047881778099871 : Nat := 0
noncomputable def go.tw6704199973965328779 : Nat := 0
noncomputable def go.tw670605072393380137 : Nat := 0
noncomputable def go.tw6710130258060209327 : Nat := 0
noncomputable def go.tw6913136086317331562 : Nat := 0
noncomputable def go.tw6998195644104913861 : Nat := 0
noncomputable def go.tw7020150417786384514 : Nat := 0
noncomputable def go.tw7091175819033746555 : Nat := 0
noncomputable def go.tw7138277508080628298 : Nat := 0
noncomputable def go.tw7171499339947134202 : Nat := 0
noncomputable def go.tw7246028376286843551 : Nat := 0
noncomputable def go.tw7292979258229339762 : Nat := 0
noncomputable def go.tw7512968548493968326 : Nat := 0
noncomputable def go.tw7730381627876449757 : Nat := 0
noncomputable def go.tw7742113552118018826 : Nat := 0
noncomputable def go.tw7777673502039530221 : Nat := 0
noncomputable def go.tw8466776721873955762 : Nat := 0
noncomputable def go.tw8525891296552623502 : Nat := 0
noncomputable def go.tw8544928080377492842 : Nat := 0
noncomputable def go.tw8843154659608940295 : Nat := 0
noncomputable def go.tw8844580050124060764 : Nat := 0
noncomputable def go.tw8998143604221443039 : Nat := 0
noncomputable def go.tw9080827544826687770 : Nat := 0
noncomputable def go.tw9247950045898918338 : Nat := 0
noncomputable def go.tw9390522219908265294 : Nat := 0
noncomputable def go.tw9442099859058695472 : Nat := 0
noncomputable def go.tw9460700074220871976 : Nat := 0
noncomputable def go.tw9471442477376359541 : Nat := 0
noncomputable def go.tw9537356449090278202 : Nat := 0
noncomputable def go.tw9559915317741541038 : Nat := 0
noncomputable def go.tw9751558734479525370 : Nat := 0
noncomputable def go.tw9781445606723498332 : Nat := 0
noncomputable def go.tw9800289448372270382 : Nat := 0
noncomputable def go.tw9868857178645760389 : Nat := 0
noncomputable def go.tw9991635115420412319 : Nat := 0
section SN17
local macro_rules | `(tactic| walk_at "subscriptTail") => `(tactic| ((with_reducible show wpAny _ _ (subscriptTail _ _ (Value.ref _) (Value.int _ _)) _ _ _); k_dflt (refine' menu_item ?hl ?hA ?hr ?hz ?_; (case hl => walk_at "my get"); (case hA => walk_at "my short"); (case hr => (simp; omega)); (case hz => (simp; done)); intro x' t' hx'; (try dsimp only))))
local macro_rules | `(tactic| walk_at "binaryOp Add str str") => `(tactic| ((with_reducible have hq : HGen := by assumption); clear hq; refine add_exact ?z ?_; (case z => first | omega | (simp only [slen_app]; omega)); intro t' tk'))
example : True := by
  k_with_none
  k_with "my enter" => (refine' enterP ?k1_8126 ?k2_8126 ?k3_8126 ?k5_8126 ?kA_8126 ?kF_8126 ?kK_8126 ?k6_8126 ?k7_8126 ?k8_8126 ?kZ_8126 ?k9_8126 ?kB_8126 ?_ ?c2_8126 ?c3_8126 ?c4_8126 ?c5_8126; (case kA_8126 => exact rfl); (case kF_8126 => exact rfl); (case kK_8126 => assumption); (case k1_8126 => k_asm); (case k2_8126 => k_asm); (case k3_8126 => k_asm); (case k5_8126 => k_asm); (case k6_8126 => k_is); (case k7_8126 => k_is); (case k8_8126 => ktr_room); (case kZ_8126 => simp only [List.map_cons, List.map_nil, List.zip_cons_cons, List.zip_nil_left, List.zip_nil_right, List.reverse_cons, List.reverse_nil, List.nil_append, List.cons_append]; exact rfl); (case k9_8126 => exact BindsTo.of_eq rfl); (case c5_8126 => decide); (case kB_8126 => exact locs rfl); (case c2_8126 => exact rfl); (case c3_8126 => exact rfl); (case c4_8126 => exact rfl); k_whole; intro L' h' tk' F' N' B' X' T'; (try dsimp only); (try k_lift B'); (try k_fold))
  k_with "my enterC" => (refine' enterPC ?k1_8392 ?k2_8392 ?k3_8392 ?k5_8392 ?kA_8392 ?kF_8392 ?kK_8392 ?k6_8392 ?k7_8392 ?k8_8392 ?k9_8392 ?kB_8392 ?kD_8392 ?_ ?c2_8392 ?c3_8392 ?c4_8392; (case kA_8392 => exact rfl); (case kF_8392 => exact rfl); (case kK_8392 => assumption); (case k1_8392 => k_asm); (case k2_8392 => k_asm); (case k3_8392 => k_asm); (case k5_8392 => k_asm); (case k6_8392 => k_is); (case k7_8392 => k_is); (case k8_8392 => ktr_room); (case k9_8392 => exact BindsTo.of_eq rfl); (case kB_8392 => exact rfl); (case kD_8392 => decide +kernel); (case c2_8392 => exact rfl); (case c3_8392 => exact rfl); (case c4_8392 => exact rfl); k_whole; intro L' h' tk' cells' F' N' Y' B' X' T'; k_cells Y'; (try simp only [List.cons_append, List.nil_append] at N'); (try dsimp only); (try k_lift B'); (try k_fold))
  k_with "my keeps" => (first
  | exact True.intro
  | exact fun _ => True.intro
  | exact And.intro (fun o => mapFields_kd _ o) True.intro
  | exact And.intro (fun _ => And.intro rfl rfl) True.intro
  | assumption
  | (refine Keeps.bind ?_ fun _ => ?_ <;> walk_at "my keeps")
  | (split <;> walk_at "my keeps"))
  k_with "my get" => (first | exact News.get (by k_asm) (by assumption) | exact News.get (by k_asm) (by k_mem) | exact Fr.keep (by k_asm) _ _ (by assumption))
  k_with "om" => (first | assumption | omega)
  k_with "int" => (intro t' h' tk' F' N'; (try k_sweep); (try dsimp only))
  k_with "call ref" => (with_reducible refine atc 168 ?_; k_dflt (refine PureCall.int (C := c_whole _ _ _ _ _ _ _ _ (by walk_at "my get") (by assumption) (by walk_at "om") (by walk_at "om")) (h := ?_); walk_at "int"))
  k_with "ints" => (intro l' ws' e' h' tk' I' F' N' l1; (try simp only [AllNe, and_true] at l1); (try k_sweep); (try dsimp only))
  k_with "call ref" => (with_reducible refine atc 163 ?_; k_dflt (refine PureCall.ints (C := c_limbs _ _ _ _ _ _ (by walk_at "om") (by walk_at "om")) (h := ?_); walk_at "ints"))
  k_with "pair" => (intro t' l' l2' ws' e' us' e2' h' tk' I' I2' F' N' l1 l2 l3; (try simp only [AllNe, and_true] at l1 l2 l3); (try k_sweep); (try dsimp only))
  k_with "call ref" => (with_reducible refine atc 182 ?_; k_dflt (refine PureCall.pair (C := c_divrem _ _ _ _ _ _ _ _ _ _ _ _ (by walk_at "my get") (by assumption) (by walk_at "my get") (by assumption) (by walk_at "om") (by walk_at "om") (by walk_at "om") (by assumption)) (h := ?_); walk_at "pair"))
  k_with "call ref" => (with_reducible refine atc 79 ?_; k_dflt (refine PureCall.ints (C := c_normal _ _ _ _ _ _ _ (by walk_at "my get") (by assumption) (by walk_at "om") (by assumption)) (h := ?_); walk_at "ints"))
  k_with "call ref" => (with_reducible refine atc 100 ?_; k_dflt (refine PureCall.ints (C := c_common _ _ _ _ _ _ _ _ _ _ _ _ (by walk_at "my get") (by assumption) (by walk_at "my get") (by assumption) (by walk_at "om") (by walk_at "om") (by assumption)) (h := ?_); walk_at "ints"))
  k_with "my mem" => (first | exact List.Mem.head _ | (refine List.Mem.tail _ ?_; walk_at "my mem"))
  k_with "call ref" => (with_reducible refine atc 121 ?_; k_dflt (refine PureCall.int (C := c_plain _ _ _ _ _ _ _ _ (by walk_at "my get") (by assumption) (by walk_at "om") (by assumption)) (h := ?_); walk_at "int"))
  k_with "call ref" => (with_reducible refine atc 86 ?_; k_dflt (refine PureCall.ints (C := c_nat_of _ _ _ _ _ _ (by walk_at "om") (by walk_at "om")) (h := ?_); walk_at "ints"))
  k_with "call ref" => (with_reducible refine atc 128 ?_; k_dflt (refine PureCall.text (C := c_nat_text _ _ _ _ _ _ _ _ _ _ (by walk_at "my get") (by assumption) (by walk_at "om") (by assumption) (by assumption)) (h := ?_); walk_at "int"))
  k_with "call ref" => (with_reducible refine atc 175 ?_; k_dflt (refine PureCall.ints (C := c_mul _ _ _ _ _ _ _ _ _ _ _ _ (by walk_at "my get") (by assumption) (by walk_at "my get") (by assumption) (by walk_at "om") (by walk_at "om") (by walk_at "om") (by assumption)) (h := ?_); walk_at "ints"))
  k_with "call ref" => (with_reducible refine atc 93 ?_; k_dflt (refine PureCall.ints (C := c_add _ _ _ _ _ _ _ _ _ _ _ _ (by walk_at "my get") (by assumption) (by walk_at "my get") (by assumption) (by walk_at "om") (by walk_at "om") (by assumption)) (h := ?_); walk_at "ints"))
  k_with "call builtin:str.find" => (refine find_is (by assumption) ?_)
  k_with "call ref" => (with_reducible refine atc 58 ?_; k_dflt (refine call_bad (h := ?_); intro e' tp' d' hs' t' tn' h' tk' F' N' l1; (try k_sweep); (try dsimp only)))
  k_with "call ref" => (with_reducible refine atc 107 ?_; k_dflt (refine PureCall.one (C := c_signed_of _ _ _) (h := ?_); intro t' h' tk' F' N' l1; (try simp only [AllNe, and_true] at l1); (try k_sweep); (try dsimp only)))
  k_with "my tape" => (first | exact True.intro | (simp only [AllNe, and_true]; (repeat' apply And.intro) <;> first | exact True.intro | k_ne))
  k_with "tape" => (intro r' tr' h' tk' j' t' e' hr' hj' F' N'; (try dsimp only [List.cons_append, List.nil_append] at N'); (try k_sweep); (try dsimp only))
  k_with "call ref" => (with_reducible refine atc 156 ?_; k_dflt (refine TCall.next (C := c_next _ _ _ _ _ _ _ _ (by assumption) (by walk_at "om") (by walk_at "om")) (h1 := by walk_at "my tape") (h2 := by walk_at "my tape") (h := ?_); walk_at "tape"))
  k_with "call ref" => (with_reducible refine atc 189 ?_; k_dflt (refine TCall.text (C := c_digits2 _ _ _ _ _ _ _ _ _ _ (by assumption) (by assumption) (by walk_at "om") (by walk_at "om")) (h1 := by walk_at "my tape") (h2 := by walk_at "my tape") (h := ?_); walk_at "tape"))
  k_with "out" => (intro t' x' y' z' h' tk' F' N' l1; (try dsimp only [outObj] at N'); (try simp only [AllNe, and_true] at l1); (try k_sweep); (try dsimp only))
  k_with "call ref" => (with_reducible refine atc 196 ?_; k_dflt (refine PureCall.out (C := c_read2 _ _ _ _ _ _ (by with_reducible assumption) (by assumption) (by assumption)) (h := ?_); walk_at "out"))
  k_with "call ref" => (with_reducible refine atc 210 ?_; k_dflt (refine HCall.out (C := c_heard2 _ _ _ _ _ _ _ _ (by with_reducible assumption) (by first | with_reducible assumption | omega) (by with_reducible assumption) (by with_reducible assumption) (by assumption) (by walk_at "om")) (h := ?_); walk_at "out"))
  k_with "call ref" => (with_reducible refine atc 203 ?_; k_dflt (refine PureCall.text (C := c_shown _ _ _ _ _ _ (by assumption) (by assumption)) (h := ?_); walk_at "int"))
  k_with "call ref" => (with_reducible refine atc 135 ?_; k_dflt (refine PureCall.text (C := c_r_text3 _ _ _ _ _ _ _ _ _ _ _ _ _ _ _ _ _ _ (by with_reducible assumption) (by with_reducible assumption) (by walk_at "my get") (by walk_at "my get") (by walk_at "my get") (by assumption) (by walk_at "my get") (by assumption) (by assumption) (by assumption) (by assumption) (by walk_at "om")) (h := ?_); walk_at "int"))
  k_with "my short" => (first | exact True.intro | (refine And.intro ⟨_, _, rfl, by decide +kernel⟩ ?_; walk_at "my short"))
  k_with "call builtin:abs" => (refine abs_gen (by with_reducible assumption) ?_; intro u' tk')
  k_with "compareOp Eq str str" => ((with_reducible have hq : HGen := by assumption); clear hq; refine eq_same rfl ?_)
  k_with "exec Assign" => ((with_reducible rename HoldAs => hq; clear hq); refine Hold.out ?_)
  k_with "call ref" => ((with_reducible show wpAny _ _ (call (Value.ref _) _) _ _ _); (with_reducible rename HoldCall => hq; clear hq); refine Hold.out ?_)
  k_with "exec If" => ((with_reducible rename HoldIf => hq; clear hq); refine Hold.out ?_)
  k_with "binaryOp Add str str" => (refine add_gen (by omega) ?_; intro y' t' tk' hy')
  k_with "binaryOp Add int int" => (refine add_nat (a := 1) rfl ?_; intro n' t' hn')
  k_with "binaryOp Add int int" => (refine add_nat (a := 2) rfl ?_; intro n' t' hn')
  k_with "subscriptTail Name Slice str ref" => ((with_reducible show wpAny _ _ (subscriptTail _ (Expr.Slice none (some _) none _) _ _) _ _ _); (with_reducible rename Fr _ _ _ _ => F'); (with_reducible rename News _ _ _ _ => N'); refine' cut_to (s := ⟨_, _, _, _, _⟩) F' N' ?hx_6828 ?hj_6828 ?_; (case hx_6828 => omega); (case hj_6828 => omega); intro _ _ _ y' _ _ hy')
  k_with "subscriptTail Name Slice str ref" => ((with_reducible show wpAny _ _ (subscriptTail _ (Expr.Slice (some _) none none _) _ _) _ _ _); (with_reducible rename Fr _ _ _ _ => F'); (with_reducible rename News _ _ _ _ => N'); refine' cut_from (s := ⟨_, _, _, _, _⟩) F' N' ?hx_9086 ?hj_9086 ?_; (case hx_9086 => omega); (case hj_9086 => omega); intro _ _ _ y' _ _ hy')
  trivial
set_option Elab.async true in
set_option maxHeartbeats 8000000 in
theorem go : PySem.Challenge.rw_pq0551_01.Holds := by
  w_on
  o_law
  o_head (kHook Mine.hd.heap_1 [2, 3, 15, 22, 23, 24, 25, 28, 35, 36, 37, 40, 43, 48, 49, 51, 52, 54, 55, 56, 57, 58, 61, 68, 69, 70, 73, 75, 76, 78, 79, 80, 82, 83, 85, 86, 87, 89, 90, 92, 93, 94, 96, 97, 99, 100, 101, 103, 104, 106, 107, 108, 110, 111, 113, 114, 115, 117, 118, 120, 121, 122, 124, 125, 127, 128, 129, 131, 132, 134, 135, 136, 138, 139, 141, 142, 143, 145, 146, 148, 149, 150, 152, 153, 155, 156, 157, 159, 160, 162, 163, 164, 167, 168, 169, 171, 172, 174, 175, 176, 178, 179, 181, 182, 183, 185, 186, 188, 189, 190, 192, 193, 195, 196, 197, 199, 200, 202, 203, 204, 206, 207, 209, 210, 211, 214, 215] (fun _ => by kernel_rfl))
  case hw => w_witness2
  change WalkO Mine.hd.view_1 [] (XL Mine.hd.view_1 []) _ _ _ _ _
  k_go0
  (all_goals try k_fold)
  have hH : HoldCall := trivial
  k_steps
  rename IntsAre _ (List.map _ _) => hI8
  obtain ⟨ns, hI9, hn30⟩ := tape_start hI8
  clear hI8
  rename News _ _ _ _ => N1
  have N2 := tape_news N1
  clear N1
  obtain ⟨pA, lA, hpA, hlA⟩ := tape_named N2
  subst hpA hlA
  refine Hold.intro ?_
  have hH : HoldIf := trivial
  have q1 := slen_slash
  k_steps
  rename Fr _ _ _ _ => F1
  rename News _ _ _ _ => N1
  refine Hold.intro (If_cut (fun m₀ m nx => ∃ (j : Nat) (t' : Tok) (e' : Nat) (x : Str) (tx : Tok), j ≤ 40 ∧ nx = [(pA, tapeO j t' lA e'), (lA, W.listOf ys.toArray ys.length)] ∧ x.length ≤ 7 ∧ m (Str.ofString "text") = some (.str x tx) ∧ ∀ y, y ≠ Str.ofString "text" → m y = m₀ y) F1 ?_ ?_)
  · k_steps
    all_goals
      rename Fr _ _ _ _ => F9
      rename News _ _ _ _ => N9
      exact IfEnd.go F9 N9 (by k_mem) (by k_mem) ⟨_, _, _, _, _, by omega, rfl, by omega, rfl, fun y h1 => by simp [h1]⟩
  clear F1 N1
  rintro h' tk' m' nx F2 N2 ⟨j, t', e', x, tx, hj, rfl, hx, e1, e2⟩
  rw [form1 e1 e2] at F2
  have hH : HoldIf := trivial
  k_steps
  rename Fr _ _ _ _ => F1
  rename News _ _ _ _ => N1
  refine Hold.intro (If_cut (fun m₀ m nx => ∃ (j : Nat) (t' : Tok) (e' : Nat) (x : Str) (tx : Tok), j ≤ 60 ∧ nx = [(pA, tapeO j t' lA e'), (lA, W.listOf ys.toArray ys.length)] ∧ x.length ≤ 8 ∧ m (Str.ofString "text") = some (.str x tx) ∧ ∀ y, y ≠ Str.ofString "text" → y ≠ Str.ofString "sign" → y ≠ Str.ofString "at" → m y = m₀ y) F1 ?_ ?_)
  · k_steps
    all_goals
      rename Fr _ _ _ _ => F9
      rename News _ _ _ _ => N9
      exact IfEnd.go F9 N9 (by k_mem) (by k_mem) ⟨_, _, _, _, _, by omega, rfl, by omega, rfl, fun y h1 h2 h3 => by simp [h1, h2, h3]⟩
  clear F1 N1
  rintro h' tk' m' nx F2 N2 ⟨j, t', e', x, tx, hj, rfl, hx8, e1, e2⟩
  rw [form13 e1 e2] at F2
  have hH : HoldCall := trivial
  k_steps
  rename Fr _ _ _ _ => F1
  rename News _ _ _ _ => N1
  refine split3 (by omega) hx8 ?_ ?_ ?_
  · intro hb p1 p2 n ho hl
    k_steps
  · intro hb p1 p2 ho hl
    k_steps
  · intro hb p1 p2 a sg P R x1 x2 ho hl hR hP64 hR64 hA hsg r1 r2 r3 r4 s0 s1 s2 n1 n2 t1 t2 hrat
    have hG : HGen := trivial
    have q2 : (Str.ofString "-").length = 1 := by decide +kernel
    have q3 : (Str.ofString "").length = 0 := by decide +kernel
    have hH : HoldAs := trivial
    k_steps
    rename Fr _ _ _ _ => F1
    rename News _ _ _ _ => N1
    refine Hold.intro (sh_cut x1 F1 N1 (.tail _ (.head _)) ?_ ?_)
    · k_steps
      all_goals
        rename Fr _ _ _ _ => F9
        rename News _ _ _ _ => N9
        exact ShEnd.go F9 N9 (by k_mem) (by first | exact n1 (by assumption) | exact n2 (by assumption))
    clear F1 N1
    intro h' tk' tS F2 N2
    have hH : HoldAs := trivial
    k_steps
    rename Fr _ _ _ _ => F1
    rename News _ _ _ _ => N1
    refine Hold.intro (sh_cut x2 F1 N1 (.head _) ?_ ?_)
    · k_steps
      all_goals
        rename Fr _ _ _ _ => F9
        rename News _ _ _ _ => N9
        exact ShEnd.go F9 N9 (by k_mem) (by first | exact t1 (by assumption) | exact t2 (by assumption))
    clear F1 N1
    intro h' tk' tS F2 N2
    k_steps
end SN17
end ON17
end Mine
set_option maxHeartbeats 8000000 in
theorem PySem.Challenge.cw_pq0551_01_holds : PySem.Challenge.rw_pq0551_01.Holds := by
  exact Mine.go
