import PyProof.Rows.All
import Wide.All
import OpenK.AllK
import Wide.FinOn
import Lean
import PySem.Challenge.RW_xm0013_01
open PySem PySem.W PySem.Spec PySem.Calls PyProof.Rows
set_option linter.all false
set_option Elab.async false
set_option maxRecDepth 100000
set_option maxHeartbeats 8000000
namespace Mine
open_top hd for PySem.Challenge.rw_xm0013_01
section
section
end
end
section

/-- all that stood, but at the addresses `as`, stands as it stood -/
noncomputable def KeepBut (as : List Addr) (h h' : Heap) : Prop := ∀ b o, h.get? b = some o → b ∉ as → h'.get? b = some o

theorem KeepBut.fr {as : List Addr} {h g h' : Heap} {L : Addr} {m : Str → Option Value} (k : KeepBut as h g) (F : Fr g L h' m) : KeepBut as h h' := fun b o e n => F.keep b o (k b o e n)

/-- a call of a def of the text: what it hands back, what it leaves of the ledger; all else stands -/
abbrev Ctr (w : World) (mean : ExcName → Option Value) (mg mb : Str → Option Value) (d : Nat) (f : Addr) (vs : List Value) (led : List (Addr × Obj)) (Post : Heap → Value → List (Addr × Obj) → Prop) : Prop :=
  ∀ (dp un : Nat) (gd : Option (List Code)) (cn : Str) (cs : Scope) (a : Addr) (ccd : Value) (cl : List (Str × Addr)) (outer : List Env) (A₀ : Around) (base h₀ : Heap) (L : Addr) (m : Str → Option Value) (s : Shared) (Q E : Value → Shared → Prop),
    Below A₀ base outer h₀ → Fr h₀ L s.heap m → (Mine.hd.heap_39 w.params).In h₀ → News h₀ L s.heap led → Top Mine.hd.view_39 (looseW Mine.hd.view_39 [Str.ofString "BasicError"]) mean mg mb h₀ → cs.kind = .function →
    dp + d < recursionLimit → un + 8 * d < cLine →
    (∀ r led' h' tk', Fr h₀ L h' m → News h₀ L h' led' → KeepBut (led.map (·.1)) s.heap h' → Post s.heap r led' → Q r { s with heap := h', toks := tk' }) →
    wpAny (model PySem.Challenge.rw_xm0013_01.row.prog w) (ktrTop dp un gd cn cs L a ccd cl outer) (call (.ref f) vs) Q E s

section
variable {prog : Program} {w : World} {A₀ A : Around} {s : Shared} {base h₀ : Heap} {outer : List Env} {L : Addr} {m mg mb : Str → Option Value} {env : Env} {led : List (Addr × Obj)} {K : Frag} {p : Program} {loose : List Str} {mean : ExcName → Option Value}
  {R : Result → Shared → Prop} {name qual : Str} {params : Arguments} {body : List Stmt} {scope : Scope} {dV kV doc pm cdv ct oc : Value} {an od : Option Addr} {osl : Array (Option Value)} {f : Addr} {args : Args} {binds : List (Str × Value)}

/-- entering a def with a part of the ledger: the rest of the heap lies in the ground -/
theorem enter_def (B : Below A₀ base outer h₀) (F : Fr h₀ L s.heap m) (X₀ : K.In h₀) (N : News h₀ L s.heap led) (T : Top p loose mean mg mb h₀) (hA : A.frames = some (env :: outer)) (hf : env.frame = some L) (hke : env.scope.kind = .function)
    (ho : K.lookup f = some ⟨oc, od, .func (fnOf name qual params body scope dV kV doc pm an cdv ct), osl⟩) (hcd : codeIn K cdv qual = true) (hroom : A.depth < recursionLimit)
    (hbind : BindsTo s (fnOf name qual params body scope dV kV doc pm an cdv ct) args binds) (hloc : ∀ y ∈ binds, scope.names.lookup y.1 = some .local)
    (h : ∀ g L' h₁, s.heap.objs.size ≤ L' → KeepBut (led.map (·.1)) s.heap g → AllLt s.heap.objs.size led → Fr g L' h₁ (fun y => binds.reverse.lookup y) → News g L' h₁ led → Below A base (env :: outer) g → K.In g → Top p loose mean mg mb g →
      wpAny (model prog w) (A.deeper (envOf qual scope L' f cdv)) (execs body (envOf qual scope L' f cdv))
        (fun fl s' => LeaveK h₀ L m g R (match fl with | .ret v => v | _ => .none) s')
        (fun e s' => wpAny (model prog w) (A.deeper (envOf qual scope L' f cdv)) (leaving (envOf qual scope L' f cdv) e) (fun _ s'' => R (.error e) s'') (fun e' s'' => R (.error e') s'') s')
        { s with heap := h₁, toks := s.toks + binds.length })
    (hco : scope.isCoroutine = false) (hgen : scope.isGenerator = false) (hk : scope.kind = .function)
    (hcell : ∀ x ∈ scope.names, x.2 ≠ .cell) : codeAny (model prog w) A (.call (.ref f) args) R s := by
  obtain ⟨FG, BG, st, lv⟩ := groundX (R := R) B F N hA hf hke
  have X := X₀.keeps F.keep
  refine codeAny_call_def (fd := fnOf name qual params body scope dV kV doc pm an cdv ct) (body := body) (binds := binds) hroom (X _ _ ho) rfl (T.nolimit.keeps F.keep) (codeRec_of X hcd) rfl hbind hcell hloc (fun h₁ hns hk₁ => ?_) hco hgen hk
  exact wpAny_mono (h _ s.heap.objs.size h₁ (Nat.le_refl _) (fun b o e n => hideAll_get _ e n) (allLt_of fun p hp => Heap.lt_size (N p hp).1) ⟨hns, fun b o e => hk₁ b o (of_hideAll _ e), Nat.le_of_eq (hideAll_size _ _)⟩
    (fun p hp => ⟨hk₁ _ _ (N p hp).1, Nat.ne_of_lt (Heap.lt_size (N p hp).1), hideAll_none _ (List.mem_map_of_mem hp)⟩) BG (X₀.keeps st) (T.keeps st)) (fun fl s' hl => lv _ _ hl) fun _ _ y => y

theorem enter_defC (B : Below A₀ base outer h₀) (F : Fr h₀ L s.heap m) (X₀ : K.In h₀) (N : News h₀ L s.heap led) (T : Top p loose mean mg mb h₀) (hA : A.frames = some (env :: outer)) (hf : env.frame = some L) (hke : env.scope.kind = .function)
    (ho : K.lookup f = some ⟨oc, od, .func (fnOf name qual params body scope dV kV doc pm an cdv ct), osl⟩) (hcd : codeIn K cdv qual = true) (hroom : A.depth < recursionLimit)
    (hbind : BindsTo s (fnOf name qual params body scope dV kV doc pm an cdv ct) args binds) (hkind : (binds.all fun y => scope.names.lookup y.1 == some .local || scope.names.lookup y.1 == some .cell) = true)
    (hnd : ((cellsFrom 0 scope.names []).map (·.1)).Nodup)
    (h : ∀ g L' h₁ tk cells, s.heap.objs.size ≤ L' → KeepBut (led.map (·.1)) s.heap g → AllLt s.heap.objs.size led → Fr g L' h₁ (bindL (envOfC qual scope L' f cdv).kindOf binds fun _ => none) → News g L' h₁ (cells ++ led) →
      CellsAre (bindC (envOfC qual scope L' f cdv).kindOf binds fun _ => none) (cellsFrom (L' + 1) scope.names []) cells → Below A base (env :: outer) g → K.In g → Top p loose mean mg mb g →
      wpAny (model prog w) (A.deeper (envOfC qual scope L' f cdv)) (execs body (envOfC qual scope L' f cdv))
        (fun fl s' => LeaveK h₀ L m g R (match fl with | .ret v => v | _ => .none) s')
        (fun e s' => wpAny (model prog w) (A.deeper (envOfC qual scope L' f cdv)) (leaving (envOfC qual scope L' f cdv) e) (fun _ s'' => R (.error e) s'') (fun e' s'' => R (.error e') s'') s')
        { s with heap := h₁, toks := tk })
    (hco : scope.isCoroutine = false) (hgen : scope.isGenerator = false) (hk : scope.kind = .function) : codeAny (model prog w) A (.call (.ref f) args) R s := by
  obtain ⟨FG, BG, st, lv⟩ := groundX (R := R) B F N hA hf hke
  have X := X₀.keeps F.keep
  refine codeAny_call_function hroom (X _ _ ho) rfl hco hgen rfl (codeRec_of X hcd) (hbind _ _ _ _ ?_)
  refine wpAny_newFunctionEnv_cells hk (kindsX hkind _) fun env' he s' x => ?_
  subst he
  refine ⟨(T.nolimit.keeps F.keep).keeps x.toInCall.keep, codeAny_func ?_⟩
  obtain ⟨h₁, tk, rfl, _⟩ := x.done
  have hk₁ := x.toInCall.keep
  obtain ⟨cells, NC, Y⟩ := Cl.news (h₀ := s.heap) (Nat.le_refl _) fun n c hm => ⟨x.cell n c (lookup_of_mem_nodup (cellsFrom_names scope.names 0 (s.heap.objs.size + 1) [] [] rfl ▸ hnd) hm), x.above n c hm⟩
  refine wpAny_mono (h _ s.heap.objs.size h₁ tk cells (Nat.le_refl _) (fun b o e n => hideAll_get _ e n) (allLt_of fun p hp => Heap.lt_size (N p hp).1) ⟨x.toInCall.ns, fun b o e => hk₁ b o (of_hideAll _ e), Nat.le_of_eq (hideAll_size _ _)⟩ (fun p hp => ?_) Y BG (X₀.keeps st) (T.keeps st)) (fun fl s' hl => lv _ _ hl) fun _ _ y => y
  rcases List.mem_append.mp hp with hp | hp
  · refine ⟨(NC p hp).1, (NC p hp).2.1, ?_⟩
    cases q : (hideAll s.heap (led.map (·.1))).get? p.1 with
    | none => rfl
    | some o => have := of_hideAll _ q; rw [(NC p hp).2.2] at this; cases this
  · exact ⟨hk₁ _ _ (N p hp).1, Nat.ne_of_lt (Heap.lt_size (N p hp).1), hideAll_none _ (List.mem_map_of_mem hp)⟩
end

/-- what a call left, beside what it did not touch -/
theorem news_on {h₀ h h' : Heap} {L : Addr} {big led' rest : List (Addr × Obj)} {as : List Addr} (N : News h₀ L h big) (kp : KeepBut as h h') (N' : News h₀ L h' led') (hs : ∀ p ∈ rest, p ∈ big) (ho : ∀ p ∈ rest, p.1 ∉ as) : News h₀ L h' (led' ++ rest) := fun p hp => by
  rcases List.mem_append.mp hp with hp | hp
  · exact N' p hp
  · exact ⟨kp _ _ (N p (hs p hp)).1 (ho p hp), (N p (hs p hp)).2⟩

theorem news_sub {h₀ h : Heap} {L : Addr} {big led : List (Addr × Obj)} (N : News h₀ L h big) (hs : ∀ p ∈ led, p ∈ big) : News h₀ L h led := fun p hp => N p (hs p hp)

/-- the ledger less a part of it -/
inductive Rest (led : List (Addr × Obj)) : List (Addr × Obj) → List (Addr × Obj) → Prop
  | nil : Rest led [] []
  | drop {p r r'} : p ∈ led → Rest led r r' → Rest led (p :: r) r'
  | keep {p r r'} : (∀ q ∈ led, q.1 ≠ p.1) → Rest led r r' → Rest led (p :: r) (p :: r')
  | tail {r} : (∀ p ∈ r, ∀ q ∈ led, q.1 ≠ p.1) → Rest led r r
theorem Rest.mem {led : List (Addr × Obj)} {b r : List (Addr × Obj)} (h : Rest led b r) : ∀ p ∈ r, p ∈ b ∧ ∀ q ∈ led, q.1 ≠ p.1 := by
  induction h with
  | nil => exact fun _ h => nomatch h
  | drop _ _ ih => exact fun p hp => ⟨.tail _ (ih p hp).1, (ih p hp).2⟩
  | keep hn _ ih =>
    intro p hp
    rcases List.mem_cons.mp hp with rfl | hp
    · exact ⟨.head _, hn⟩
    · exact ⟨.tail _ (ih p hp).1, (ih p hp).2⟩
  | tail h => exact fun p hp => ⟨hp, h p hp⟩
theorem Rest.off {led : List (Addr × Obj)} {b r : List (Addr × Obj)} (h : Rest led b r) : ∀ p ∈ r, p.1 ∉ led.map (·.1) := fun p hp hm => by
  obtain ⟨q, hq, e⟩ := List.mem_map.mp hm
  exact (h.mem p hp).2 q hq e

/-- a contract at a call: a part of the ledger goes in, the rest stands -/
theorem use {w : World} {mean : ExcName → Option Value} {mg mb : Str → Option Value} {d : Nat} {f : Addr} {vs : List Value} {led : List (Addr × Obj)} {Post : Heap → Value → List (Addr × Obj) → Prop}
    {dp un : Nat} {gd : Option (List Code)} {cn : Str} {cs : Scope} {a : Addr} {ccd : Value} {cl : List (Str × Addr)} {outer : List Env} {A₀ : Around} {base h₀ : Heap} {L : Addr} {m : Str → Option Value} {s : Shared} {Q E : Value → Shared → Prop} {big rest : List (Addr × Obj)}
    (C : Ctr w mean mg mb d f vs led Post) (B : Below A₀ base outer h₀) (F : Fr h₀ L s.heap m) (X : (Mine.hd.heap_39 w.params).In h₀) (N : News h₀ L s.heap big) (T : Top Mine.hd.view_39 (looseW Mine.hd.view_39 [Str.ofString "BasicError"]) mean mg mb h₀) (hk : cs.kind = .function)
    (hd : dp + d < recursionLimit) (hu : un + 8 * d < cLine) (hs : ∀ p ∈ led, p ∈ big) (hr : Rest led big rest)
    (k : ∀ r led' h' tk', Fr h₀ L h' m → News h₀ L h' (led' ++ rest) → Post s.heap r led' → News h₀ L s.heap big → Q r { s with heap := h', toks := tk' }) :
    wpAny (model PySem.Challenge.rw_xm0013_01.row.prog w) (ktrTop dp un gd cn cs L a ccd cl outer) (call (.ref f) vs) Q E s :=
  C dp un gd cn cs a ccd cl outer A₀ base h₀ L m s Q E B F X (news_sub N hs) T hk hd hu fun r led' h' tk' F' N' kb P => k r led' h' tk' F' (news_on N kb N' (fun p hp => (hr.mem p hp).1) hr.off) P N

set_option genInjectivity false in
structure Hk where
  h1 : Int
  h2 : Int
  h3 : Int
  h4 : Int
  h5 : Int
  h6 : Int
  h7 : Int
  h8 : Int
  k1 : Tok
  k2 : Tok
  k3 : Tok
  k4 : Tok
  k5 : Tok
  k6 : Tok
  k7 : Tok
  k8 : Tok

abbrev spE (H : Hk) (oc hd wt : Addr) (n fr cl : Int) (t1 t2 t3 t4 t5 : Tok) : List DictEntry :=
  [⟨H.h1, .str (Str.ofString "size") H.k1, .int n t1⟩, ⟨H.h2, .str (Str.ofString "octets") H.k2, .ref oc⟩, ⟨H.h3, .str (Str.ofString "low") H.k3, .int 0 t2⟩, ⟨H.h4, .str (Str.ofString "free") H.k4, .int fr t3⟩,
   ⟨H.h5, .str (Str.ofString "held") H.k5, .ref hd⟩, ⟨H.h6, .str (Str.ofString "waiting") H.k6, .ref wt⟩, ⟨H.h7, .str (Str.ofString "most_waiting") H.k7, .int 4 t4⟩, ⟨H.h8, .str (Str.ofString "collections") H.k8, .int cl t5⟩]

/-- the ledger's part of a space: itself, its dict, its octets, its held names, its waiting list -/
abbrev spL (sp dx oc hd wt : Addr) (H : Hk) (n fr cl : Int) (t1 t2 t3 t4 t5 : Tok) (vs : Array Value) (u : Nat) (ws : Array Value) (u' : Nat) : List (Addr × Obj) :=
  [(sp, instObj 54 dx), (dx, dictOf (spE H oc hd wt n fr cl t1 t2 t3 t4 t5) 8), (oc, listOf vs u), (hd, dictOf [] 0), (wt, listOf ws u')]
end
section
section
variable {prog : Program} {w : World} {A : Around} {E : Value → Shared → Prop} {s : Shared} {env : Env} {h₀ : Heap} {target : Expr} {body : List Stmt} {Q : Flow → Shared → Prop}

theorem AllObj.mono : ∀ {ws : List (Addr × String)} {k k' : List (Addr × Obj) → Prop}, AllObj ws k → (∀ its, k its → k' its) → AllObj ws k'
  | [], _, _, h, f => f [] h
  | _ :: _, _, _, h, f => fun o ho => AllObj.mono (h o ho) fun its => f _

/-- a loop over an iterator's items: what holds between the turns -/
theorem items_ind {ws : List (Addr × String)} {keep : List (Addr × Obj)} (J : Nat → (Str → Option Value) → List (Addr × Obj) → Prop) (xs : List Itm)
    (step : ∀ i a m news, xs[i]? = some a → J i m news → ∀ v h tk, a.Is v h → Fr h₀ env.locals h m → AllObj ws (fun its => News h₀ env.locals h (its ++ news) →
      wpAny (model prog w) A (assign target env v) (fun _ s₂ => wpAny (model prog w) A (execs body env) (UnrPostW h₀ env.locals { s with heap := h, toks := tk } its (fun m' n' => SubL keep n' ∧ J (i + 1) m' n') Q) E s₂) E { s with heap := h, toks := tk }))
    (done : ∀ m news, J xs.length m news → ∀ h tk, Fr h₀ env.locals h m → News h₀ env.locals h news → Q .next { s with heap := h, toks := tk }) :
    ∀ k i m news, i + k = xs.length → J i m news → ItemsRest prog w A E h₀ env target body Q s ws keep (xs.drop i) m news := by
  intro k
  induction k with
  | zero =>
    intro i m news hi hJ
    have e : i = xs.length := by omega
    subst e
    rw [List.drop_length]
    exact ItemsRest.zero (done m news hJ)
  | succ k ih =>
    intro i m news hi hJ
    have hlt : i < xs.length := by omega
    rw [List.drop_eq_getElem_cons hlt]
    intro v h tk hv F
    refine AllObj.mono (step i xs[i] m news (List.getElem?_eq_getElem hlt) hJ v h tk hv F) fun its g N => ?_
    refine wpAny_mono (g N) (fun _ s₂ h₂ => wpAny_mono h₂ (fun f s₃ h₃ => ?_) fun _ _ e => e) fun _ _ e => e
    cases f with
    | ret v => exact h₃
    | brk => exact h₃
    | next => obtain ⟨a, b, c, d, e, f, g, o, k1, k2⟩ := h₃; exact ⟨a, b, c, d, e, f, g, o, k1, ih (i + 1) c d (by omega) k2⟩
    | cont => obtain ⟨a, b, c, d, e, f, g, o, k1, k2⟩ := h₃; exact ⟨a, b, c, d, e, f, g, o, k1, ih (i + 1) c d (by omega) k2⟩

theorem items_ind0 {ws : List (Addr × String)} {keep : List (Addr × Obj)} (J : Nat → (Str → Option Value) → List (Addr × Obj) → Prop) {xs : List Itm} {m₀ : Str → Option Value} {news₀ : List (Addr × Obj)} (h0 : J 0 m₀ news₀)
    (step : ∀ i a m news, xs[i]? = some a → J i m news → ∀ v h tk, a.Is v h → Fr h₀ env.locals h m → AllObj ws (fun its => News h₀ env.locals h (its ++ news) →
      wpAny (model prog w) A (assign target env v) (fun _ s₂ => wpAny (model prog w) A (execs body env) (UnrPostW h₀ env.locals { s with heap := h, toks := tk } its (fun m' n' => SubL keep n' ∧ J (i + 1) m' n') Q) E s₂) E { s with heap := h, toks := tk }))
    (done : ∀ m news, J xs.length m news → ∀ h tk, Fr h₀ env.locals h m → News h₀ env.locals h news → Q .next { s with heap := h, toks := tk }) :
    ItemsRest prog w A E h₀ env target body Q s ws keep xs m₀ news₀ := by
  have := items_ind (keep := keep) (ws := ws) J xs step done xs.length 0 m₀ news₀ (by omega) h0
  simpa using this
end

section
variable {prog : Program} {w : World} {A : Around} {E : Value → Shared → Prop} {s : Shared} {env : Env} {h₀ : Heap} {target : Expr} {body : List Stmt} {Q : Flow → Shared → Prop}
end

section
open LCg
variable {prog : Program} {w : World} {A : Around} {s : Shared} {h₀ : Heap} {L : Addr} {m : Str → Option Value} {env : Env}

theorem compEnd_keep {s₁ : Shared} {I C D : Addr} {oI oC oD : Obj} {S : List (Addr × Obj) → Prop} {r : Value → List (Addr × Obj) → Prop} {y : Value} {h : Heap} {tk : Nat} {news' : List (Addr × Obj)} (F : Fr h₀ L h m) (N : News h₀ L h ((I, oI) :: (C, oC) :: (D, oD) :: news'))
    (off : Off3 I C D news') (hS : S news') (k : r y news') : CompEnd h₀ L m s₁ I oI C oC D oD S r y { s₁ with heap := h, toks := tk } := ⟨h, tk, news', rfl, F, N, off, hS, k⟩
end

end
section
section
open LCg
variable {prog : Program} {w : World} {A : Around} {E : Value → Shared → Prop} {s : Shared} {h₀ : Heap} {L : Addr} {m : Str → Option Value} {env : Env}

/-- the source of a block: a text of plain signs -/
noncomputable def SrcS (prog : Program) (w : World) (A : Around) (h₀ : Heap) (L : Addr) (m : Str → Option Value) (env : Env) (elt : Expr) (x : Str) (scope : Scope) (cl : List (Str × Addr)) (Fin : Shared → List Value → List (Addr × Obj) → Prop) (xv : Value) (s₁ : Shared) : Prop :=
  ∃ y t news, xv = .str y t ∧ A.handled = none ∧ Fr h₀ L s₁.heap m ∧ News h₀ L s₁.heap news ∧ y.cps.all (· < 128) = true ∧ y.cps.size ≤ sizeLine ∧
    ∀ s₂ : Shared, (∃ h, s₂ = { s₁ with heap := h }) → CompRest prog w A h₀ L m env elt x scope cl s₂ (fun _ => True) (SignAt y) (Fin s₂) y.cps.size 0 [] news

theorem ListComp_S {elt iter : Expr} {x : Str} {px : Pos} {scope : Scope} {cl : List (Str × Addr)} {pos : Pos} {Q : Value → Shared → Prop} (F₀ : Fr h₀ L s.heap m)
    (hclos : closureFor scope env = pure cl) (hcell : ∀ y ∈ scope.names, y.2 ≠ .cell) (hkind : scope.kind = .function)
    (hnames : ∀ y ∈ scope.names, y.2 = .local → scope.names.lookup y.1 = some .local) (hx : scope.names.lookup x = some .local)
    (h : wpAny (model prog w) A (eval iter env) (SrcS prog w A h₀ L m env elt x scope cl (fun s₂ => FinE h₀ L m s₂ Q)) E s)
    (hs : ∀ x, foldedSetIterable iter env x = pure x := by intro _; rfl) :
    wpAny (model prog w) A (eval (.ListComp elt [⟨.Name x px, iter, [], 0⟩] scope pos) env) Q E s := by
  rw [eval_ListComp]
  refine wpAny_comprehension_free (use := none) rfl hs hclos hkind hnames (wpAny_mono h (fun xv s₁ h₁ => ?_) fun _ _ e => e)
  obtain ⟨y, t, news, rfl, hh, F, N, ha, hsz, R⟩ := h₁
  refine wpAny_pyIter_strU ?_
  have ht : strIterType y = "str_ascii_iterator" := by simp [strIterType, ha]
  rw [ht]
  refine block_U (Walks.strAscii hh s₁.heap.objs.size y t) hsz (fun i h st => by obtain ⟨o, e, _⟩ := st; exact ⟨o, e⟩) (S := fun _ => True) (fun i h h' o nw st e e' _ _ _ => by obtain ⟨o', q, r⟩ := st; rw [e] at q; cases q; exact ⟨o, e', r⟩) hcell hkind hx ⟨_, Heap.get?_push_size _ rfl, rfl, rfl⟩ (fun b hb => ?_)
    (F.keeps fun _ _ e => Heap.get?_push_of_some _ e) (N.grown fun _ _ e => Heap.get?_push_of_some _ e) (Nat.ne_of_lt F.ns.lt) (next_is_new F) (fun p hp => Nat.ne_of_lt (Heap.lt_size (N p hp).1)) trivial (R _ ⟨_, rfl⟩) ?_
  · rw [List.mem_singleton.mp hb]
    show s₁.heap.objs.size < (s₁.heap.push _).objs.size
    rw [Heap.size_push]; exact Nat.lt_succ_self _
  · intro D C h' tk m' ys news' F' N' o1 hn hC₀ hD₀ hCL hDL hCD offC fin
    refine ⟨m', hn, fun h'' hs'' => fin D h'' tk (F'.change hs'' hCL hC₀) (fun p hp => ?_) o1⟩
    refine ⟨hs''.extBut _ _ ?_ (N' p hp).1, (N' p hp).2⟩
    rcases List.mem_cons.mp hp with rfl | hp
    · exact Ne.symm hCD
    · exact offC p hp
end

section
open LCg
variable {prog : Program} {w : World} {A : Around} {E : Value → Shared → Prop} {s : Shared} {h₀ : Heap} {L : Addr} {m : Str → Option Value} {env : Env}

/-- the source of a block: an empty dict of the ledger -/
noncomputable def SrcD0 (h₀ : Heap) (L : Addr) (m : Str → Option Value) (A : Around) (Fin : Shared → List Value → List (Addr × Obj) → Prop) (xv : Value) (s₁ : Shared) : Prop :=
  ∃ d news, xv = .ref d ∧ A.handled = none ∧ Fr h₀ L s₁.heap m ∧ News h₀ L s₁.heap news ∧ (d, dictOf [] 0) ∈ news ∧ (d == sysModules) = false ∧ ∀ s₂ : Shared, (∃ h, s₂ = { s₁ with heap := h }) → Fin s₂ [] news

theorem ListComp_D0 {elt iter : Expr} {x : Str} {px : Pos} {scope : Scope} {cl : List (Str × Addr)} {pos : Pos} {Q : Value → Shared → Prop} (F₀ : Fr h₀ L s.heap m)
    (hclos : closureFor scope env = pure cl) (hcell : ∀ y ∈ scope.names, y.2 ≠ .cell) (hkind : scope.kind = .function)
    (hnames : ∀ y ∈ scope.names, y.2 = .local → scope.names.lookup y.1 = some .local) (hx : scope.names.lookup x = some .local)
    (h : wpAny (model prog w) A (eval iter env) (SrcD0 h₀ L m A (fun s₂ => FinE h₀ L m s₂ Q)) E s)
    (hs : ∀ x, foldedSetIterable iter env x = pure x := by intro _; rfl) :
    wpAny (model prog w) A (eval (.ListComp elt [⟨.Name x px, iter, [], 0⟩] scope pos) env) Q E s := by
  rw [eval_ListComp]
  refine wpAny_comprehension_free (use := none) rfl hs hclos hkind hnames (wpAny_mono h (fun xv s₁ h₁ => ?_) fun _ _ e => e)
  obtain ⟨d, news, rfl, hh, F, N, hm, lo, R⟩ := h₁
  have hd := (N _ hm).1
  have hlt : d < s₁.heap.objs.size := Heap.lt_size hd
  have hD : ∀ h : Heap, h.get? d = some (dictOf [] 0) → h.DictAt (PySem.strKind prog w) d [] 0 := fun h e => ⟨_, #[], e, ⟨rfl, rfl, rfl⟩, rfl, fun e he => (by simp at he), .nil, .nil⟩
  refine wpAny_pyIter_dict (knd := PySem.strKind prog w) lo (hD _ hd) ?_
  refine block_U (elt := elt) (x := x) (P := _) (Walks.dictKeys (knd := PySem.strKind prog w) hh s₁.heap.objs.size d (Nat.ne_of_lt hlt) [] 0) (Nat.zero_le _) (fun i h st => by obtain ⟨⟨o, e, _⟩, _⟩ := st; exact ⟨o, e⟩) (S := fun nw => (d, dictOf [] 0) ∈ nw)
    (fun i h h' o nw st e e' _ N' S' => ⟨by obtain ⟨o', q, r⟩ := st.1; rw [e] at q; cases q; exact ⟨o, e', r⟩, hD _ (N' _ S').1⟩) hcell hkind hx ⟨⟨_, Heap.get?_push_size _ rfl, rfl, rfl⟩, hD _ (Heap.get?_push_of_some _ hd)⟩ (fun b hb => ?_)
    (F.keeps fun _ _ e => Heap.get?_push_of_some _ e) (N.grown fun _ _ e => Heap.get?_push_of_some _ e) (Nat.ne_of_lt F.ns.lt) (next_is_new F) (fun p hp => Nat.ne_of_lt (Heap.lt_size (N p hp).1)) hm (Fin := FinE h₀ L m { s₁ with heap := s₁.heap.push { cls := .type "dict_keyiterator", data := .fields #[.ref d, .int 0 0, .int (([] : List (Str × Value)).length) 0, .int (0 : Nat) 0] } } Q) (CompRest.zero (R _ ⟨_, rfl⟩)) ?_
  · show b < (s₁.heap.push _).objs.size
    rw [Heap.size_push]
    rcases List.mem_cons.mp hb with rfl | hb
    · exact Nat.lt_succ_self _
    · rw [List.mem_singleton.mp hb]; exact Nat.lt_succ_of_lt hlt
  · intro D C h' tk m' ys news' F' N' o1 hn hC₀ hD₀ hCL hDL hCD offC fin
    refine ⟨m', hn, fun h'' hs'' => fin D h'' tk (F'.change hs'' hCL hC₀) (fun p hp => ?_) o1⟩
    refine ⟨hs''.extBut _ _ ?_ (N' p hp).1, (N' p hp).2⟩
    rcases List.mem_cons.mp hp with rfl | hp
    · exact Ne.symm hCD
    · exact offC p hp
end

section
open KStt
theorem codes_append (x y : Str) : codes (x ++ y) = codes x ++ codes y := by
  simp [codes, Str.cps_append]
theorem codes_inj {x y : Str} (h : codes x = codes y) : x = y := by rw [← txt_codes x, ← txt_codes y, h]
theorem codes_empty : codes (Str.ofString "") = [] := by decide +kernel
theorem codes_sjoin : ∀ ys : List Str, codes (Str.join (Str.ofString "") ys) = (ys.map codes).flatten
  | [] => codes_empty
  | [x] => by simp [Str.join]
  | x :: y :: r => by
    show codes (x ++ Str.ofString "" ++ Str.join (Str.ofString "") (y :: r)) = _
    rw [codes_append, codes_append, codes_empty, codes_sjoin (y :: r)]
    simp
theorem codes_join (ys : List Str) : codes (Txt.join (Str.ofString "") ys) = (ys.map codes).flatten := by
  show codes (Builtin.Str.glued (Str.ofString "") ys) = _
  rw [StrLaws.glued_eq_join]
  exact codes_sjoin ys
end

section
variable {prog : Program} {w : World} {A : Around} {E : Value → Shared → Prop} {s : Shared} {h₀ : Heap} {L l : Addr} {m : Str → Option Value} {news : List (Addr × Obj)} {value slice : PySem.Expr} {vs : List Value} {ns : List Int} {vl vu : Value} {x y : Int} {Q : Value → Shared → Prop}
end
end
section
/-- making an exception of a class of the text that has an `__init__` of its own -/
theorem call_excOwn {prog : Program} {w : World} {A : Around} {R : Result → Shared → Prop} {h : Heap} {g : Array GenState} {d : Drawn} {t : Nat} {os : OsState}
    {nm q : Str} {C N fI : Addr} {bs bm : List Value} {hdct : Bool} {sn : List Str} {sub : List Value} {ab : Bool} {col : Option Bool} {dd : Option Addr} {k0 k1 k2 k3 k5 : Option Value} {B newId initId : String}
    (F : ExcBaseFacts B newId initId bm) {mN : Str → Option Value} {of : Obj} {rest : List Value}
    (hC : h.get? C = some (excClassObj nm q C N bs bm hdct sn sub ab col dd k0 k1 k2 k3 k5 newId)) (hn : h.Ns N mN) (hni : mN "__init__" = some (.ref fI)) (hf : h.get? fI = some of) (hfc : of.cls = .type "function")
    (hq : codeAny (model prog w) (A.under (.builtin "type.__call__" ⟨.ref C :: rest, []⟩)) (.call (.ref fI) ⟨.ref (h.objs.size + 1) :: rest, []⟩) (InitBack (h.objs.size + 1) R)
      ⟨(h.push { cls := .type "tuple", data := .seq rest.toArray }).push { cls := .ref C, data := .fields #[.ref h.objs.size, .none, .none, .none, .bool false, .none] }, g, d, t, os⟩)
    (hrest : rest.length ≤ sizeLine := by size_fits) : codeAny (model prog w) A (.call (.ref C) ⟨rest, []⟩) R ⟨h, g, d, t, os⟩ := by
  have f1 := tc_lookup
  have f2 := tc_bind (.ref C)
  have hT : (⟨h, g, d, t, os⟩ : Shared).TypeIs (.ref C) "type" := ⟨_, hC, rfl⟩
  refine codeAny_of_tree ?_
  show wpAny _ _ (callAny (.ref C) _) _ _ _
  repeat (any_goals (first | assumption | with_reducible refine wpAny_loadPart_at hC ?_ | wp_step))
  refine ⟨rfl, codeAny_call_builtin_at (Code.quiet_builtin _ (by decide +kernel)) entry_typeCall (wpAny_check_type_call_sub hC ?_)⟩
  unfold Builtin.«type.__call__»
  repeat (first | with_reducible refine wpAny_loadPart_at hC ?_ | with_reducible refine wpAny_madeBy_exc hC ?_ | wp_step)
  refine codeAny_call_builtin_code (Code.quiet_builtin _ F.quiet) (wpAny_check_new_sub F hC (codeAny_exc_new_sub F hC ?_ hrest))
  show wpAny _ _ _ _ _ ⟨(h.push { cls := .type "tuple", data := .seq rest.toArray }).push { cls := .ref C, data := .fields #[.ref h.objs.size, .none, .none, .none, .bool false, .none] }, g, d, t, os⟩
  generalize hh : (h.push { cls := .type "tuple", data := .seq rest.toArray }).push { cls := .ref C, data := .fields #[.ref h.objs.size, .none, .none, .none, .bool false, .none] } = h₁ at *
  have up : ∀ b o, h.get? b = some o → h₁.get? b = some o := fun b o e => hh ▸ Heap.get?_push_of_some _ (Heap.get?_push_of_some _ e)
  have hC₁ := up _ _ hC
  have hn₁ : h₁.Ns N mN := let ⟨o, es, ep, e, r⟩ := hn; ⟨o, es, ep, up _ _ e, r⟩
  have hget : h₁.get? (h.objs.size + 1) = some { cls := .ref C, data := .fields #[.ref h.objs.size, .none, .none, .none, .bool false, .none] } := by rw [← hh]; heap_get
  have hf₁ := up _ _ hf
  have hcC : (Value.ref C :: bm).contains (.ref C) = true := by simp
  unfold isInstance
  repeat (first | with_reducible refine wpAny_loadPart_at hget ?_ | wp_step)
  show wpAny _ _ (isSubtype (.ref C) (.ref C)) _ _ _
  refine wpAny_isSubtype_exc hC₁ ?_
  rw [hcC]
  repeat wp_step
  show wpAny _ _ (typeLookup (.ref C) _) _ _ _
  refine wpAny_typeLookup_exc hC₁ hn₁ F.mroIs F.init.lookup ?_
  rw [hni]
  refine wpAny_holding (wpAny_bind (wpAny_bindSpecial_def (s := ⟨h₁, g, d, t, os⟩) hf₁ hfc ?_))
  refine wpAny_bind (wpAny_call (codeAny_mono hq fun r s' z => ?_))
  rcases r with e | (v | _ | _ | _) <;> first | exact z | exact z.elim | skip
  obtain ⟨rfl, z⟩ := z
  repeat wp_step
  exact z

theorem ns_some_of {K : Frag} {h : Heap} {N : Addr} {mg : Str → Option Value} {n : Str} {v : Value} (X : K.In h) (G : h.Ns N mg) (e : nsIn K N n = some (some v)) : mg n = some v := by
  obtain ⟨o, es, ep, ho, hd, _, hf⟩ := G
  unfold nsIn at e
  split at e
  · rename_i c d es' n' sl q
    have := X _ _ q
    rw [ho] at this
    cases this
    cases hd
    split at e
    · rename_i en he
      rw [← hf]
      unfold nsFind findBy
      rw [← Array.find?_toList, he]
      cases e
      rfl
    · split at e <;> cases e
  · cases e

abbrev excObj (C t : Addr) : Obj := { cls := .ref C, data := .fields #[.ref t, .none, .none, .none, .bool false, .none] }
abbrev tup1 (vs : List Value) : Obj := { cls := .type "tuple", data := .seq vs.toArray }

theorem exc_K {prog : Program} {w : World} {A : Around} {K : Frag} {s : Shared} {h₀ : Heap} {L : Addr} {m : Str → Option Value} {news : List (Addr × Obj)} {R : Result → Shared → Prop}
    {nm q : Str} {C N fI : Addr} {bs bm : List Value} {hdct : Bool} {sn : List Str} {sub : List Value} {ab : Bool} {col : Option Bool} {dd : Option Addr} {k0 k1 k2 k3 k5 : Option Value} {B newId initId : String} {rest : List Value} {of : Obj}
    (FB : ExcBaseFacts B newId initId bm) (F : Fr h₀ L s.heap m) (Nw : News h₀ L s.heap news) (X : K.In h₀)
    (hC : K.lookup C = some (excClassObj nm q C N bs bm hdct sn sub ab col dd k0 k1 k2 k3 k5 newId)) (hok : nsOkIn K N = true) (hni : nsIn K N "__init__" = some (some (.ref fI))) (hf : K.lookup fI = some of) (hfc : of.cls = .type "function")
    (h : ∀ e t h', Fr h₀ L h' m → News h₀ L h' ((e, excObj C t) :: (t, tup1 rest) :: news) → (∀ p ∈ news, p.1 < t) → t < e →
      codeAny (model prog w) (A.under (.builtin "type.__call__" ⟨.ref C :: rest, []⟩)) (.call (.ref fI) ⟨.ref e :: rest, []⟩) (InitBack e R) { s with heap := h' })
    (hrest : rest.length ≤ sizeLine) : codeAny (model prog w) A (.call (.ref C) ⟨rest, []⟩) R s := by
  have X' := X.keeps F.keep
  obtain ⟨hh, g, d, t, os⟩ := s
  refine call_excOwn (t := t) FB (X' _ _ hC) (.of_isNs (isNs_of_in X' hok)) (ns_some_of X' (.of_isNs (isNs_of_in X' hok)) hni) (X' _ _ hf) hfc ?_ hrest
  have N' := (Nw.push F (tup1 rest)).push (F.push _) (excObj C hh.objs.size)
  rw [Heap.size_push] at N'
  exact h _ hh.objs.size _ ((F.push _).push _) N' (fun p hp => Heap.lt_size (Nw p hp).1) (Nat.lt_succ_self _)
end
section
theorem wd_slot : Slot "wrapper_descriptor" "__get__" "wrapper_descriptor.__get__" := .of (owner := "wrapper_descriptor") (n := "__get__") (by rw [typeLookup_type, builtinLookup_eq_fast]; kernel_rfl) (by decide +kernel) (by decide +kernel) (by decide +kernel)
  (by first | exact .inl (by decide +kernel) | exact .inr (by decide +kernel)) (by rw [isSubtype_type]; kernel_rfl)
theorem wd_entry : entryFor table "wrapper_descriptor.__get__" = some Builtin.«wrapper_descriptor.__get__» := entryFor_of_tree (by kernel_rfl)
theorem wd_args (a b c : Value) : argsOk "wrapper_descriptor.__get__" ⟨[a, b, c], []⟩ := by unfold argsOk; kernel_rfl
theorem wd_type : typeOf (.builtin "Exception.__init__") = pure (.type "wrapper_descriptor") := by kernel_rfl

abbrev mwObj (id : String) (x : Addr) : Obj := { cls := .type "method-wrapper", data := .fields #[.builtin id, .ref x] }

section
variable {prog : Program} {w : World} {A : Around} {E : Value → Shared → Prop} {h : Heap} {g : Array GenState} {d : Drawn} {t : Nat} {os : OsState}
theorem wd_run {x C : Addr} {ox : Obj} {K : Frag} {Q : Fin → Shared → Prop} (X : K.In h) (hx : h.get? x = some ox) (hxc : ox.cls = .ref C) (hsub : mroIn K C (.type "Exception") = some true)
    (hq : Q (.done (.ret (.ref h.objs.size))) ⟨h.push (mwObj "Exception.__init__" x), g, d, t, os⟩) :
    wpAny (model prog w) A (Builtin.«wrapper_descriptor.__get__» ⟨[.builtin "Exception.__init__", .ref x, .ref C], []⟩) Q E ⟨h, g, d, t, os⟩ := by
  have ho := looks_mroIn (M := model prog w) X hsub
  unfold Builtin.«wrapper_descriptor.__get__»
  repeat (first | (with_reducible refine wpAny_loadPart_at hx ?_; rw [hxc]) | (with_reducible refine Looks.at ho ?_) | wp_step)
  rw [show ".".intercalate (("Exception.__init__".cutAt '.').dropLast) = "Exception" from by decide +kernel]
  refine Looks.at ho ?_
  repeat (first | (with_reducible refine wpAny_newObj_type ?_ (by size_fits)) | wp_step)
  exact hq

theorem super_gaB {so D x C : Addr} {ox : Obj} {l₀ l : List Value} {K : Frag} {tk : Tok} {Q : Fin → Shared → Prop}
    (hso : h.get? so = some { cls := .type "super", dict := none, data := .fields #[.ref D, .ref x, .ref C], slots := #[] }) (hno : Looks (model prog w) h (opaqueClassAbove (.ref C)) none)
    (hC : Looks (model prog w) h (mroOf (.ref C)) l₀) (hl : (l₀.dropWhile (· != .ref D)).drop 1 = l) (X : K.In h)
    (hf : alongIn K (Str.ofString "__init__") l = some (some (.builtin "Exception.__init__"))) (hx : h.get? x = some ox) (hxc : ox.cls = .ref C) (hsub : mroIn K C (.type "Exception") = some true) (hxC : x ≠ C)
    (hq : Q (.done (.ret (.ref h.objs.size))) ⟨h.push (mwObj "Exception.__init__" x), g, d, t, os⟩) :
    wpAny (model prog w) A (Builtin.«super.__getattribute__» ⟨[.ref so, .str (Str.ofString "__init__") tk], []⟩) Q E ⟨h, g, d, t, os⟩ := by
  have hlk := wd_slot.lookup
  have hne : (Value.ref x == Value.ref C) = false := by simp [hxC]
  have hTf : (⟨h, g, d, t, os⟩ : Shared).TypeIs (.builtin "Exception.__init__") "wrapper_descriptor" := wd_type
  have hdt : ({ cls := .type "super", dict := none, data := .fields #[.ref D, .ref x, .ref C], slots := #[] } : Obj).data = .fields #[.ref D, .ref x, .ref C] := rfl
  have f0 : (#[.ref D, .ref x, .ref C] : Array Value)[0]? = some (.ref D) := rfl
  have f1 : (#[.ref D, .ref x, .ref C] : Array Value)[1]? = some (.ref x) := rfl
  have f2 : (#[.ref D, .ref x, .ref C] : Array Value)[2]? = some (.ref C) := rfl
  have hn : (Str.ofString "__init__" == ("__class__" : Str)) = false := by decide
  unfold Builtin.«super.__getattribute__»
  repeat (first
    | (with_reducible refine wpAny_field hso hdt f0 ?_) | (with_reducible refine wpAny_field hso hdt f1 ?_) | (with_reducible refine wpAny_field hso hdt f2 ?_)
    | (with_reducible refine ks_wpAny_notOpaque hno ?_)
    | (with_reducible refine Looks.at hC ?_; rw [hl])
    | (refine ks_forIn_along X (fun _ _ => rfl) rfl ?_ hf)
    | (with_reducible refine wpAny_typeOf hTf ?_)
    | ((with_reducible refine wpAny_call_entry wd_slot hTf wd_entry ?_ (wd_args _ _ _)); (try rw [hne, if_neg (by decide)]); refine wd_run X hx hxc hsub ⟨_, rfl, ?_⟩)
    | (simp only [hn, hne, Bool.or_false, Bool.false_eq_true, if_false])
    | wp_step
    | dsimp only)
  all_goals exact hq
end

section
variable {prog : Program} {w : World} {A : Around} {E : Value → Shared → Prop} {s : Shared} {h₀ : Heap} {L : Addr} {m : Str → Option Value} {news : List (Addr × Obj)} {K : Frag} {x C D so : Addr} {ox : Obj} {odx : Option Obj}
theorem superB_method {pl : Sem Bool} {Q : Value × List Value → Shared → Prop} (F : Fr h₀ L s.heap m) (X₀ : K.In h₀) (N : News h₀ L s.heap news) (hso : (so, ks_superObj D x C) ∈ news) (I : InstAt s.heap x ox C odx) (ho : nsIn K cStatics "thirdparty.any" = some none)
    (hm : ks_superIn K C D (Str.ofString "__init__") = some (some (.builtin "Exception.__init__"))) (hsub : mroIn K C (.type "Exception") = some true)
    (h : ∀ q h', Fr h₀ L h' m → News h₀ L h' ((q, mwObj "Exception.__init__" x) :: news) → (∀ p ∈ news, p.1 < q) → Q (.ref q, []) { s with heap := h', toks := s.toks + 1 }) : wpAny (model prog w) A (getMethod (.ref so) (Str.ofString "__init__") pl) Q E s := by
  have X : K.In s.heap := X₀.keeps F.keep
  obtain ⟨hh, g, d, t, os⟩ := s
  cases hc : clsIn K C with
  | none => unfold ks_superIn at hm; rw [hc] at hm; cases hm
  | some cd =>
    unfold ks_superIn at hm
    rw [hc] at hm
    have hC : Looks (model prog w) hh (mroOf (.ref C)) cd.mro := fun A Q E s k q => wpAny_bind ((looks_clsIn X hc) A _ E s k (wpAny_pure q))
    have hlk := PySem.F.ks_slot_super_ga.lookup
    have hcan := PySem.F.ks_canon_super_ga
    have hso' := (N _ hso).1
    have hT : ∀ t', (⟨hh, g, d, t', os⟩ : Shared).TypeIs (.ref so) "super" := fun _ => ⟨_, hso', rfl⟩
    obtain ⟨F', N', l'⟩ := ks_newsPush (s := ⟨hh, g, d, t, os⟩) (o := mwObj "Exception.__init__" x) F N rfl (Heap.get?_push_at rfl rfl) (fun b o e => Heap.get?_push_of_some _ e)
    have hq := h _ _ F' N' l'
    unfold getMethod
    refine wpAny_bind (wpAny_specialOf (hT _) hlk ?_)
    dsimp only
    rw [if_pos hcan]
    unfold getAttr getAttrBy
    refine wpAny_bind (wpAny_bind (wpAny_mkText (wpAny_holding (wpAny_bind (wpAny_typeOf (hT _) (wpAny_bind (wpAny_of_eq hlk ?_)))))))
    show wpAny _ _ (getAttrByItsOwn (.ref so) (.str (Str.ofString "__init__") t) (.type "super") (.builtin "super.__getattribute__") true false) _ _ _
    unfold getAttrByItsOwn hookBefore callGetattribute boundAndCalled
    refine wpAny_bind (wpAny_of_eq (show (if onTheHeap (.type "super") then typeLookup (.type "super") "__getattr__" else pure none) = pure none from rfl) ?_)
    refine wpAny_bind (wpAny_attempt (wpAny_holding ?_))
    show wpAny _ _ (bindSpecial (.builtin "super.__getattribute__") (.ref so) >>= _) _ _ _
    refine wpAny_bind (wpAny_of_eq (PySem.F.ks_slot_super_ga.bind _) ?_)
    refine wpAny_mono (Q := fun v s' => v = .ref hh.objs.size ∧ s' = ⟨hh.push (mwObj "Exception.__init__" x), g, d, t + 1, os⟩) (E := fun _ _ => False)
      (wpAny_call_entry PySem.F.ks_slot_super_ga (hT _) PySem.F.ks_entry_super_ga (super_gaB hso' (looks_opaque X ho) hC rfl X hm I.at_ I.cls hsub (ks_ne X I hc) ⟨_, rfl, rfl, rfl⟩) (PySem.F.ks_gaArgs_super _ _)) (fun v s' hv => ?_) fun _ _ z => z.elim
    obtain ⟨rfl, rfl⟩ := hv
    exact wpAny_pure (wpAny_pure hq)
end

/-- the call of `super().__init__` of an exception: its arguments are laid anew -/
theorem mw_call {prog : Program} {w : World} {A : Around} {E : Value → Shared → Prop} {s : Shared} {h₀ : Heap} {L : Addr} {m : Str → Option Value} {news rest : List (Addr × Obj)}
    {nm q : Str} {C N : Addr} {bs bm : List Value} {hdct : Bool} {sn : List Str} {sub : List Value} {ab : Bool} {col : Option Bool} {dd : Option Addr} {k0 k1 k2 k3 k5 : Option Value} {newId : String}
    {e t mw : Addr} {v : Value} {Q : Value → Shared → Prop} (FB : ExcBaseFacts "Exception" newId "Exception.__init__" bm) 
    (hC : s.heap.get? C = some (excClassObj nm q C N bs bm hdct sn sub ab col dd k0 k1 k2 k3 k5 newId)) (F : Fr h₀ L s.heap m) (Nw : News h₀ L s.heap news) (hmw : (mw, mwObj "Exception.__init__" e) ∈ news) (he : (e, excObj C t) ∈ news) (hr : ∀ p ∈ rest, p ∈ news) (hre : ∀ p ∈ rest, p.1 ≠ e)
    (h : ∀ t' h', Fr h₀ L h' m → News h₀ L h' ((e, excObj C t') :: (t', tup1 [v]) :: rest) → (∀ p ∈ news, p.1 < t') → Q .none { s with heap := h' }) : wpAny (model prog w) A (call (.ref mw) [v]) Q E s := by
  obtain ⟨hh, g, d, tk, os⟩ := s
  have hm := (Nw _ hmw).1
  have hx := (Nw _ he).1
  dsimp only at hm hx hC
  refine wpAny_call (codeAny_of_tree ?_)
  show wpAny _ _ (callAny (.ref mw) _) _ _ _
  unfold callAny
  refine wpAny_bind (wpAny_load hm ?_)
  repeat wp_step
  refine ⟨Code.quiet_builtin _ (by decide +kernel), codeAny_builtin FB.initEntry ?_⟩
  show wpAny _ _ (Builtin.«BaseException.__init__» ⟨[.ref e, v], []⟩) _ _ _
  unfold Builtin.«BaseException.__init__»
  wp_walk
  show Q .none ⟨(hh.push (tup1 [v])).update e (Obj.mapFields fun x => x.setIfInBounds 0 (Value.ref hh.objs.size)), g, d, tk, os⟩
  have N1 := Nw.push F (tup1 [v])
  have F1 := F.push (tup1 [v])
  have hx1 := Heap.get?_push_of_some (tup1 [v]) hx
  have self := Heap.get?_update_self (Obj.mapFields fun x => x.setIfInBounds 0 (Value.ref hh.objs.size)) hx1 rfl
  have other : ∀ b, b ≠ e → ((hh.push (tup1 [v])).update e (Obj.mapFields fun x => x.setIfInBounds 0 (Value.ref hh.objs.size))).get? b = (hh.push (tup1 [v])).get? b := fun b hb => Heap.get?_update_other _ _ (Ne.symm hb)
  refine h hh.objs.size _ ?_ ?_ fun p hp => Heap.lt_size (Nw p hp).1
  · exact F1.change ⟨Heap.size_update _ _ _, other⟩ (Nw _ he).2.1 (Nw _ he).2.2
  · intro p hp
    rcases List.mem_cons.mp hp with rfl | hp
    · exact ⟨self, (Nw _ he).2⟩
    · rcases List.mem_cons.mp hp with rfl | hp
      · exact ⟨(other _ (Nat.ne_of_gt (Heap.lt_size hx))).trans (N1 _ (.head _)).1, (N1 _ (.head _)).2⟩
      · exact ⟨(other _ (hre _ hp)).trans (N1 _ (.tail _ (hr _ hp))).1, (Nw _ (hr _ hp)).2⟩

theorem callWith_mw {M : Model} {A : Around} {E : Value → Shared → Prop} {s : Shared} {pos : Pos} {u x : Addr} {id : String} {first : List Value} {env : Env} {e : Expr} {rest : List Expr} {Q : Value → Shared → Prop}
    (h : wpAny M A (spliced (backTo pos (starEach (e :: rest) env))) (fun vs s₁ => s₁.heap.get? u = some (mwObj id x) ∧ wpAny M A (call (.ref u) (first ++ vs)) Q E s₁) E s)
    (he : starEach (e :: rest) env = (false, eval e env) :: starEach rest env := by rfl) (hplain : (backTo pos (starEach rest env)).any (·.1) = false := by rfl) :
    wpAny M A (callWith pos (.ref u) first (backTo pos (starEach (e :: rest) env)) []) Q E s := by
  have hp : (backTo pos (starEach (e :: rest) env)).any (·.1) = false := by rw [he]; show (false || (backTo pos (starEach rest env)).any (·.1)) = false; rw [hplain]; rfl
  have hev : wpAny M A (evalArgs (.ref u) true (backTo pos (starEach (e :: rest) env)) []) (fun a s₁ => s₁.heap.get? u = some (mwObj id x) ∧ wpAny M A (call (.ref u) (first ++ a.pos) a.kw) Q E s₁) E s := by
    rw [he] at h ⊢
    exact evalArgs_plain h
  unfold callWith
  refine wpAny_bind (wpAny_holding (wpAny_mono hev (fun y s₁ h₁ => wpAny_bind (wpAny_standAt ?_)) fun _ _ z => z))
  obtain ⟨ho, hcall⟩ := h₁
  simp only [hp, List.any_nil, Bool.or_false]
  refine wpAny_bind (m := keeperOf (.ref u)) ?_
  unfold keeperOf
  refine wpAny_bind (wpAny_load ho ?_)
  simp only [show (Value.type "method-wrapper" != Value.type "method") = true by decide, show (Value.type "method-wrapper" == Value.type "builtin_function_or_method" || Value.type "method-wrapper" == Value.type "method-wrapper") = true by decide, if_true]
  refine wpAny_pure ?_
  exact wpAny_bind (wpAny_mono hcall (fun r s₂ hr => wpAny_bind (wpAny_holding (wpAny_point (wpAny_pure hr)))) fun _ _ z => z)

section
open Builtin Builtin.ObjectAttr
variable {prog : Program} {w : World} {A : Around} {E : Value → Shared → Prop} {h : Heap} {g : Array GenState} {d : Drawn} {t : Nat} {os : OsState}
theorem storeInDict_run {dx : Addr} {od od' : Obj} {name : Str} {tk : Tok} {v : Value} {es : List DictEntry} {n : Nat} {Q : PySem.Fin → Shared → Prop} (D : h.get? dx = some od) (hl : (lookIn name od).isSome = true)
    (e : Obj.putName name (PyData.keyHash w.params name) (.str name t) v od = od') (e' : od'.data = .dict es.toArray n) (hz : es.length ≤ 1000)
    (hq : ∀ h', Heap.SameBut dx h h' → h'.get? dx = some od' → Q (.done (.ret .none)) ⟨h', g, d, t + 1, os⟩) : wpAny (model prog w) A (storeInDict dx (.str name tk) name v) Q E ⟨h, g, d, t, os⟩ := by
  have D' : (h.update dx (Obj.putName name (PyData.keyHash w.params name) (.str name t) v)).get? dx = some od' := by
    have := Heap.get?_update_self (Obj.putName name (PyData.keyHash w.params name) (.str name t) v) D (by rw [e]; obtain ⟨_, _, dd, _⟩ := od'; cases e'; rfl)
    rw [this, e]
  unfold storeInDict newKeyGuard
  refine wpAny_bind (wpAny_pure (wpAny_bind ?_))
  unfold nsSet
  refine wpAny_bind (wpAny_bind (wpAny_askSetting (wpAny_pure (wpAny_bind (wpAny_mkText (wpAny_bind (wpAny_loadPart D ?_)))))))
  unfold lookIn at hl
  split at hl
  · rename_i es₀ n₀ q
    rw [q]
    dsimp only
    have c : (!es₀.any (·.key.isStr name) && es₀.any (·.refKey)) = false := by
      rw [← Array.any_toList, ← Array.any_toList]
      split at hl
      · rename_i en he
        rw [List.any_eq_true.mpr ⟨en, List.mem_of_find?_eq_some he, List.find?_some he⟩]; rfl
      · split at hl
        · cases hl
        · rename_i z; rw [Bool.not_eq_true] at z; rw [z, Bool.and_false]
    rw [aRefKeyMayBeTheName_at, c]
    refine wpAny_updatePart D ?_
    refine wpAny_bind (wpAny_lookBehind D' (by rw [e']; exact pastItsLine_dict (by rw [List.size_toArray, sizeLine_eq]; omega)) ?_)
    exact wpAny_pure (hq _ ⟨Heap.size_update _ _ _, fun b hb => Heap.get?_update_other _ _ (Ne.symm hb)⟩ D')
  · cases hl
end
end
section
section
open Builtin Builtin.ObjectAttr
variable {prog : Program} {w : World} {A : Around} {E : Value → Shared → Prop} {h : Heap} {g : Array GenState} {d : Drawn} {t : Nat} {os : OsState}
variable {nm q : Str} {C N x : Addr} {bs bm : List Value} {sn : List Str} {sub : List Value} {ab : Bool} {col : Option Bool} {dd : Option Addr} {k0 k1 k2 k3 k5 : Option Value} {B newId sa owner : String}
  {mN : Str → Option Value} {name : Str} {v : Value}
theorem exc_set0 {o od' : Obj} {es : List DictEntry} {n : Nat} {Q : Unit → Shared → Prop} (SF : StoreFacts B bm sa owner)
    (hC : h.get? C = some (excClassObj nm q C N bs bm true sn sub ab col dd k0 k1 k2 k3 k5 newId)) (hn : h.Ns N mN) (hns : mN "__setattr__" = none) (hna : mN name = none)
    (hB : typeLookup (.type B) name = pure none) (hx : h.get? x = some o) (hc : o.cls = .ref C) {vs : Array Value} (hdt : o.data = .fields vs) (hdn : o.dict = none)
    (e : Obj.putName name (PyData.keyHash w.params name) (.str name (t + 1)) v { cls := .type "dict", data := .dict #[] } = od') (e' : od'.data = .dict es.toArray n) (hz : es.length ≤ 1000)
    (hq : ∀ h', (∀ b ob, b ≠ x → h.get? b = some ob → h'.get? b = some ob) → h'.get? x = some { o with dict := some h.objs.size } → h'.get? h.objs.size = some od' → Q () ⟨h', g, d, t + 2, os⟩) :
    wpAny (model prog w) A (setAttr (.ref x) name v) Q E ⟨h, g, d, t, os⟩ := by
  have f3 := SF.slot.bind (.ref x)
  have hpass := SF.passes (.ref x)
  unfold setAttr callSpecial? specialOf
  repeat (any_goals (first | assumption | (with_reducible refine wpAny_loadPart_at hx ?_; rw [hc]) | (with_reducible refine wpAny_typeLookup_exc hC hn SF.mro SF.slot.lookup ?_; rw [hns]) | wp_step))
  refine codeAny_call_builtin SF.slot.plain SF.entry (wpAny_check_sa SF hC hx hc ?_)
  unfold Builtin.«object.__setattr__»
  repeat (first | rw [refuse_eq] | (rw [refuseLoop_ref, hpass]) | (with_reducible refine wpAny_loadPart_at hx ?_; rw [hc]) | with_reducible refine wpAny_mroOf_exc hC ?_ | (with_reducible refine wpAny_typeLookup_exc hC hn SF.mro hB ?_; rw [hna]) | wp_step)
  rw [hdn, hdt, if_neg (by simp [typeHasDict])]
  dsimp only
  have hx₁ : (h.push { cls := .type "dict", data := .dict #[] }).get? x = some o := Heap.get?_push_of_some _ hx
  have hxs : x ≠ h.objs.size := Nat.ne_of_lt (Heap.lt_size hx)
  have hfr : ({ cls := o.cls, dict := some h.objs.size, data := o.data, slots := o.slots } : Obj).isFreed = false := by rw [hdt]; rfl
  have hgd : ((h.push { cls := .type "dict", data := .dict #[] }).update x fun o => { cls := o.cls, dict := some h.objs.size, data := o.data, slots := o.slots }).get? h.objs.size = some { cls := .type "dict", data := .dict #[] } :=
    (Heap.get?_update_ne _ _ _ _ hxs.symm).trans (Heap.get?_push_at rfl rfl)
  refine wpAny_bind (wpAny_alloc' (wpAny_bind (wpAny_update' hx₁ (wpAny_pure ?_))))
  dsimp only
  refine storeInDict_run hgd (by rfl) e e' hz fun h' hs ho => ?_
  show wpAny _ _ (pure (some Value.none)) _ _ _
  refine wpAny_pure (wpAny_pure ?_)
  refine hq h' (fun b ob hbx hb => (hs.2 b (Nat.ne_of_lt (Heap.lt_size hb))).trans ((Heap.get?_update_ne _ _ _ _ hbx).trans (Heap.get?_push_of_some _ hb))) ?_ ho
  exact (hs.2 x hxs).trans (Heap.get?_update_self _ hx₁ hfr)

theorem exc_set1 {o od od' : Obj} {dx : Addr} {es : List DictEntry} {n : Nat} {Q : Unit → Shared → Prop} (SF : StoreFacts B bm sa owner)
    (hC : h.get? C = some (excClassObj nm q C N bs bm true sn sub ab col dd k0 k1 k2 k3 k5 newId)) (hn : h.Ns N mN) (hns : mN "__setattr__" = none) (hna : mN name = none)
    (hB : typeLookup (.type B) name = pure none) (hx : h.get? x = some o) (hc : o.cls = .ref C) (hdn : o.dict = some dx) (D : h.get? dx = some od) (hl : (lookIn name od).isSome = true)
    (e : Obj.putName name (PyData.keyHash w.params name) (.str name (t + 1)) v od = od') (e' : od'.data = .dict es.toArray n) (hz : es.length ≤ 1000)
    (hq : ∀ h', Heap.SameBut dx h h' → h'.get? dx = some od' → Q () ⟨h', g, d, t + 2, os⟩) :
    wpAny (model prog w) A (setAttr (.ref x) name v) Q E ⟨h, g, d, t, os⟩ := by
  have f3 := SF.slot.bind (.ref x)
  have hpass := SF.passes (.ref x)
  unfold setAttr callSpecial? specialOf
  repeat (any_goals (first | assumption | (with_reducible refine wpAny_loadPart_at hx ?_; rw [hc]) | (with_reducible refine wpAny_typeLookup_exc hC hn SF.mro SF.slot.lookup ?_; rw [hns]) | wp_step))
  refine codeAny_call_builtin SF.slot.plain SF.entry (wpAny_check_sa SF hC hx hc ?_)
  unfold Builtin.«object.__setattr__»
  repeat (first | rw [refuse_eq] | (rw [refuseLoop_ref, hpass]) | (with_reducible refine wpAny_loadPart_at hx ?_; rw [hc]) | with_reducible refine wpAny_mroOf_exc hC ?_ | (with_reducible refine wpAny_typeLookup_exc hC hn SF.mro hB ?_; rw [hna]) | wp_step)
  rw [hdn]
  refine wpAny_pure ?_
  dsimp only
  refine storeInDict_run D hl e e' hz fun h' hs ho => ?_
  show wpAny _ _ (pure (some Value.none)) _ _ _
  exact wpAny_pure (wpAny_pure (hq h' hs ho))
end

theorem fr_kept {h₀ h h' : Heap} {L x : Addr} {m : Str → Option Value} (F : Fr h₀ L h m) (k : ∀ b ob, b ≠ x → h.get? b = some ob → h'.get? b = some ob) (hL : L ≠ x) (hn : h₀.get? x = none) : Fr h₀ L h' m := by
  obtain ⟨oL, es, ep, hL', r⟩ := F.ns
  exact ⟨⟨oL, es, ep, k _ _ hL hL', r⟩, fun b o e => k b o (fun q => by rw [q, hn] at e; cases e) (F.keep b o e), F.above⟩

abbrev excO (dx t : Addr) : Obj := { cls := .ref 34, dict := some dx, data := .fields #[.ref t, .none, .none, .none, .bool false, .none] }
abbrev excD (h1 h2 : Int) (k1 k2 : Tok) (c l : Value) : Obj := dictOf [⟨h1, .str (Str.ofString "code") k1, c⟩, ⟨h2, .str (Str.ofString "told") k2, l⟩] 2

theorem exc_set_K0 {prog : Program} {w : World} {A : Around} {E : Value → Shared → Prop} {s : Shared} {h₀ : Heap} {L : Addr} {m : Str → Option Value} {led : List (Addr × Obj)} {K : Frag}
    {nm q : Str} {N : Addr} {bs : List Value} {sn : List Str} {sub : List Value} {ab : Bool} {col : Option Bool} {dd : Option Addr} {k0 k1 k2 k3 k5 : Option Value} {newId : String} {x t : Addr} {v : Value} {Q : Unit → Shared → Prop}
    (X₀ : K.In h₀) (hC : K.lookup 34 = some (excClassObj nm q 34 N bs [.type "Exception", .type "BaseException", .type "object"] true sn sub ab col dd k0 k1 k2 k3 k5 newId)) (hok : nsOkIn K N = true) (hns : nsIn K N "__setattr__" = some none) (hna : nsIn K N (Str.ofString "code") = some none)
    (F : Fr h₀ L s.heap m) (Nw : News h₀ L s.heap ((x, excObj 34 t) :: led)) (hx : ∀ p ∈ led, p.1 ≠ x)
    (h : ∀ dx h1 k1 h' tk', Fr h₀ L h' m → News h₀ L h' ((x, excO dx t) :: (dx, dictOf [⟨h1, .str (Str.ofString "code") k1, v⟩] 1) :: led) → (∀ p ∈ led, p.1 < dx) → x < dx → Q () { s with heap := h', toks := tk' }) :
    wpAny (model prog w) A (setAttr (.ref x) (Str.ofString "code") v) Q E s := by
  have X := X₀.keeps F.keep
  have hx0 := Nw _ (.head _)
  obtain ⟨hh, g, d, tk, os⟩ := s
  refine exc_set0 (od' := dictOf [⟨PyData.keyHash w.params (Str.ofString "code"), .str (Str.ofString "code") (tk + 1), v⟩] 1) PySem.F.store_Exception (X _ _ hC) (.of_isNs (isNs_of_in X hok)) (ns_none_of X (.of_isNs (isNs_of_in X hok)) hns) (ns_none_of X (.of_isNs (isNs_of_in X hok)) hna)
    (by rw [typeLookup_type, builtinLookup_eq_fast]; kernel_rfl) hx0.1 rfl rfl rfl (by rfl) rfl (Nat.le_of_ble_eq_true rfl) fun h' k1 k2 k3 => ?_
  have lt : ∀ p ∈ led, p.1 < hh.objs.size := fun p hp => Heap.lt_size (Nw p (.tail _ hp)).1
  refine h hh.objs.size (PyData.keyHash w.params (Str.ofString "code")) (tk + 1) h' (tk + 2) (fr_kept F k1 (Ne.symm hx0.2.1) hx0.2.2) (fun p hp => ?_) lt (Heap.lt_size hx0.1)
  rcases List.mem_cons.mp hp with rfl | hp
  · exact ⟨k2, hx0.2⟩
  · rcases List.mem_cons.mp hp with rfl | hp
    · obtain ⟨oL, es, ep, hL, r⟩ := F.ns
      exact ⟨k3, Nat.ne_of_gt (Heap.lt_size hL), F.fresh⟩
    · exact ⟨k1 _ _ (hx p hp) (Nw p (.tail _ hp)).1, (Nw p (.tail _ hp)).2⟩

theorem exc_set_K1 {prog : Program} {w : World} {A : Around} {E : Value → Shared → Prop} {s : Shared} {h₀ : Heap} {L : Addr} {m : Str → Option Value} {led : List (Addr × Obj)} {K : Frag}
    {nm q : Str} {N : Addr} {bs : List Value} {sn : List Str} {sub : List Value} {ab : Bool} {col : Option Bool} {dd : Option Addr} {k0 k1 k2 k3 k5 : Option Value} {newId : String} {x t dx : Addr} {v c : Value} {h1 : Int} {kc : Tok} {Q : Unit → Shared → Prop}
    (X₀ : K.In h₀) (hC : K.lookup 34 = some (excClassObj nm q 34 N bs [.type "Exception", .type "BaseException", .type "object"] true sn sub ab col dd k0 k1 k2 k3 k5 newId)) (hok : nsOkIn K N = true) (hns : nsIn K N "__setattr__" = some none) (hna : nsIn K N (Str.ofString "told") = some none)
    (F : Fr h₀ L s.heap m) (Nw : News h₀ L s.heap ((x, excO dx t) :: (dx, dictOf [⟨h1, .str (Str.ofString "code") kc, c⟩] 1) :: led)) (hx : ∀ p ∈ led, p.1 ≠ dx) (hxd : x ≠ dx)
    (h : ∀ h2 k2 h' tk', Fr h₀ L h' m → News h₀ L h' ((x, excO dx t) :: (dx, excD h1 h2 kc k2 c v) :: led) → Q () { s with heap := h', toks := tk' }) :
    wpAny (model prog w) A (setAttr (.ref x) (Str.ofString "told") v) Q E s := by
  have X := X₀.keeps F.keep
  have hx0 := Nw _ (.head _)
  have hd0 := Nw _ (.tail _ (.head _))
  obtain ⟨hh, g, d, tk, os⟩ := s
  refine exc_set1 (od' := excD h1 (PyData.keyHash w.params (Str.ofString "told")) kc (tk + 1) c v) PySem.F.store_Exception (X _ _ hC) (.of_isNs (isNs_of_in X hok)) (ns_none_of X (.of_isNs (isNs_of_in X hok)) hns) (ns_none_of X (.of_isNs (isNs_of_in X hok)) hna)
    (by rw [typeLookup_type, builtinLookup_eq_fast]; kernel_rfl) hx0.1 rfl rfl hd0.1 (by rfl) (by rfl) rfl (Nat.le_of_ble_eq_true rfl) fun h' hs k3 => ?_
  refine h (PyData.keyHash w.params (Str.ofString "told")) (tk + 1) h' (tk + 2) (F.change hs (hd0.2.1) hd0.2.2) (fun p hp => ?_)
  rcases List.mem_cons.mp hp with rfl | hp
  · exact ⟨(hs.2 _ hxd).trans hx0.1, hx0.2⟩
  · rcases List.mem_cons.mp hp with rfl | hp
    · exact ⟨k3, hd0.2⟩
    · exact ⟨(hs.2 _ (hx p hp)).trans (Nw p (.tail _ (.tail _ hp))).1, (Nw p (.tail _ (.tail _ hp))).2⟩
end
section
section
variable (w : World) (mean : ExcName → Option Value) (mg mb : Str → Option Value)
theorem make_exc {dp un : Nat} {gd : Option (List Code)} {cn : Str} {cs : Scope} {a : Addr} {ccd : Value} {cl : List (Str × Addr)} {outer : List Env} {A₀ : Around} {base h₀ : Heap} {L : Addr} {m : Str → Option Value} {s : Shared} {Q E : Value → Shared → Prop}
    {led : List (Addr × Obj)} {c : Str} {tc tl : Tok} {l : Int}
    (B : Below A₀ base outer h₀) (F : Fr h₀ L s.heap m) (X : (Mine.hd.heap_39 w.params).In h₀) (N : News h₀ L s.heap led) (T : Top Mine.hd.view_39 (looseW Mine.hd.view_39 [Str.ofString "BasicError"]) mean mg mb h₀) (hk : cs.kind = .function)
    (hd : dp + 2 < recursionLimit) (hu : un + 16 < cLine)
    (h : ∀ e dx t h1 h2 k1 k2 h' tk', Fr h₀ L h' m → News h₀ L h' ((e, excO dx t) :: (dx, excD h1 h2 k1 k2 (.str c tc) (.int l tl)) :: (t, tup1 [.str c tc]) :: led) → (∀ p ∈ led, p.1 < e) → e < t → t < dx → Q (.ref e) { s with heap := h', toks := tk' }) :
    wpAny (model PySem.Challenge.rw_xm0013_01.row.prog w) (ktrTop dp un gd cn cs L a ccd cl outer) (call (.ref 34) [.str c tc, .int l tl]) Q E s := by
  revert T N X
  k_fill
  intro X N T
  refine wpAny_call ?_
  refine' exc_K (fI := 31) PySem.F.excBase_Exception F N X ?C ?ok ?ni ?f ?fc ?_ (show 2 ≤ _ by decide)
  case C => exact rfl
  case ok => kernel_rfl
  case ni => k_is
  case f => exact rfl
  case fc => rfl
  intro e t h' F' N' lo l2
  have hoe : ∀ p ∈ led, p.1 ≠ e := fun p hp => Nat.ne_of_lt (Nat.lt_trans (lo p hp) l2)
  (refine' ks_code_super (binds := [(Str.ofString "self", Value.ref e), (Str.ofString "code", Value.str c tc), (Str.ofString "told", Value.int l tl)]) B F' X N' T ?kA ?kF ?kK ?k6 ?k7 ?k8 ?k9 ?kB ?_ ?c1 ?c2 ?c3 ?c4; (case kA => exact rfl); (case kF => exact rfl); (case kK => exact hk); (case k6 => k_is); (case k7 => k_is); (case k8 => ktr_room); (case k9 => exact BindsTo.of_defaults (T := 23) rfl ((X.keeps F'.keep) 23 _ rfl) rfl rfl rfl); (case kB => exact locs rfl); (case c1 => decide); (case c2 => exact rfl); (case c3 => exact rfl); (case c4 => exact rfl); intro g' L' h' FG' F' N' B' X' T' l1; (try k_lt l1); (try dsimp only); (try k_lift B'))
  refine ks_wpAt_execs_cons ?_
  refine ks_wpAt_Expr_any ?_
  refine ks_wpAt_MethodCall ?_
  (refine' ks_node (x := e) (C := 34) (D := 34) (f := 31) (cc := 18) (cda := 30) (ox := excObj 34 t) (odx := none) F' X' N' T' ?n1 ?n2 ?n3 ?n4 ?n5 ?n6 ?n7 ?n8 ?n9 ?n10 ?n11 ?n12 ?n13 ?n14 ?n15 ?n16 ?n17 ?n18 ?_; (case n1 => exact rfl); (case n2 => exact rfl); (case n3 => exact rfl); (case n4 => exact ⟨(N' _ (.head _)).1, rfl, rfl, trivial⟩); (case n5 => exact rfl); (case n6 => exact rfl); (case n7 => first | rfl | decide +kernel); (case n8 => exact rfl); (case n9 => exact rfl); (case n10 => exact rfl); (case n11 => k_is); (case n12 => decide); (case n13 => rfl); (case n14 => rfl); (case n15 => rfl); (case n16 => rfl); (case n17 => decide +kernel); (case n18 => first | boot_by_name | rfl | kernel_rfl))
  intro so' h' F' N' l1
  (try k_lt l1)
  (refine' superB_method (x := e) (C := 34) (D := 34) (ox := excObj 34 t) (odx := none) F' X' N' (.head _) ?g1 ?g2 ?g3 ?g4 ?_; (case g1 => exact ⟨(N' _ (.tail _ (.head _))).1, rfl, rfl, trivial⟩); (case g2 => k_is); (case g3 => kernel_rfl); (case g4 => kernel_rfl))
  intro q' h' F' N' l1
  (try k_lt l1)
  dsimp only
  refine callWith_mw (id := "Exception.__init__") (x := e) ?_
  k_steps
  · exact (N' _ (.head _)).1
  clear l1
  refine mw_call (rest := led) PySem.F.excBase_Exception ((X'.keeps F'.keep) 34 _ rfl) F' N' (.head _) (.tail _ (.tail _ (.head _))) (fun p hp => .tail _ (.tail _ (.tail _ (.tail _ hp)))) hoe ?_
  intro t' h' F' N' lt
  have het := lt _ (.tail _ (.tail _ (.head _)))
  clear lt
  k_steps
  refine exc_set_K0 (led := (t', tup1 [.str c tc]) :: led) X' (by exact rfl) (by kernel_rfl) (by k_is) (by k_is) F' N' ?_ ?_
  · intro p hp
    rcases List.mem_cons.mp hp with rfl | hp
    · exact Nat.ne_of_gt het
    · exact hoe p hp
  intro dx h1 k1 h' tk' F' N' lx ld
  k_steps
  refine exc_set_K1 (led := (t', tup1 [.str c tc]) :: led) X' (by exact rfl) (by kernel_rfl) (by k_is) (by k_is) F' N' (fun p hp => Nat.ne_of_lt (lx p hp)) (Nat.ne_of_lt ld) ?_
  intro h2 k2 h' tk' F' N'
  k_steps
  exact h _ _ _ _ _ _ _ _ _ (by assumption) (by assumption) (fun p hp => Nat.lt_trans (lo p hp) l2) het (lx _ (.head _))
end
end
section
/-- the objects' dicts stay where they were -/
noncomputable def SameD (h h' : Heap) : Prop := ∀ (b : Addr) (o : Obj), h.objs[b]? = some o → ∃ o' : Obj, h'.objs[b]? = some o' ∧ o'.dict = o.dict
theorem SameD.refl (h : Heap) : SameD h h := fun _ o e => ⟨o, e, rfl⟩
theorem SameD.trans {h₁ h₂ h₃ : Heap} (x : SameD h₁ h₂) (y : SameD h₂ h₃) : SameD h₁ h₃ := fun b o e =>
  let ⟨o', e', d'⟩ := x b o e; let ⟨o'', e'', d''⟩ := y b o' e'; ⟨o'', e'', d''.trans d'⟩
theorem SameD.push (h : Heap) (o : Obj) : SameD h (h.push o) := fun b ob e => by
  obtain ⟨l, li⟩ := h
  exact ⟨ob, by show (l.push o)[b]? = _; have hb := (Array.getElem?_eq_some_iff.mp (show l[b]? = some ob from e)).1; rw [Array.getElem?_push, if_neg (Nat.ne_of_lt hb)]; exact e, rfl⟩
theorem SameD.update (h : Heap) (a : Addr) {f : Obj → Obj} (hf : ∀ o, (f o).dict = o.dict) : SameD h (h.update a f) := fun b ob e => by
  obtain ⟨l, li⟩ := h
  refine if hb : a = b then ⟨f ob, ?_, hf ob⟩ else ⟨ob, ?_, rfl⟩
  · show (l.modify a f)[b]? = _
    rw [Array.getElem?_modify, if_pos hb]; rw [show l[b]? = some ob from e]; rfl
  · show (l.modify a f)[b]? = _
    rw [Array.getElem?_modify, if_neg hb]; exact e

/-- trees that keep the objects' dicts -/
inductive DK {α : Type} : Sem α → Prop
  | pure (a : α) : DK (.pure a)
  | raise (e : Value) : DK (.raise e)
  | unsupported (what : String) : DK (.unsupported what)
  | finish (e : Ending) : DK (.finish e)
  | rule {t k} (h : ∀ u, DK (k u)) : DK (.rule t k)
  | at {p k} (h : ∀ u, DK (k u)) : DK (.at p k)
  | load {a p k} (h : ∀ o, DK (k o)) : DK (.load a p k)
  | update {a p f k} (hf : ∀ o, (f o).dict = o.dict) (h : ∀ u, DK (k u)) : DK (.update a p f k)
  | alloc {o k} (h : ∀ a, DK (k a)) : DK (.alloc o k)
  | register {a k} : DK (.register a k)
  | loadIfAlive {a k} (h : ∀ o, DK (k o)) : DK (.loadIfAlive a k)
  | point {l k} (h : ∀ u, DK (k u)) : DK (.point l k)
  | fresh {k} (h : ∀ u, DK (k u)) : DK (.fresh k)
  | ask {k} (h : ∀ u, DK (k u)) : DK (.ask k)
  | handled {o k} (h : ∀ u, DK (k u)) : DK (.handled o k)
  | stack {k} (h : ∀ u, DK (k u)) : DK (.stack k)

theorem DK.bind {α β : Type} {m : Sem α} {f : α → Sem β} (h : DK m) (hf : ∀ a, DK (f a)) : DK (m.bind f) := by
  induction h with
  | pure a => exact hf a
  | raise e => exact .raise e
  | unsupported w => exact .unsupported w
  | finish e => exact .finish e
  | rule _ ih => exact .rule ih
  | «at» _ ih => exact .at ih
  | load _ ih => exact .load ih
  | update g _ ih => exact .update g ih
  | alloc _ ih => exact .alloc ih
  | register => exact .register
  | loadIfAlive _ ih => exact .loadIfAlive ih
  | point _ ih => exact .point ih
  | fresh _ ih => exact .fresh ih
  | ask _ ih => exact .ask ih
  | handled _ ih => exact .handled ih
  | stack _ ih => exact .stack ih
theorem DK.bind' {α β : Type} {m : Sem α} {f : α → Sem β} (h : DK m) (hf : ∀ a, DK (f a)) : DK (m >>= f) := h.bind hf
theorem DK.pure' {α : Type} (a : α) : DK (Pure.pure a : Sem α) := .pure a
theorem DK.throw' {α : Type} (e : Value) : DK (throw e : Sem α) := .raise e

theorem DK.wp {α : Type} {t : Sem α} (h : DK t) {M : Model} {Γ : PySem.Ctx} {Q : α → Pos → Shared → Prop} {E : Value → Pos → Shared → Prop} {h₀ : Heap} : ∀ (p : Pos) (s : Shared), SameD h₀ s.heap → Sem.wp M Γ t Q E p s →
    Sem.wp M Γ t (fun a p' s' => Q a p' s' ∧ SameD h₀ s'.heap) (fun e p' s' => E e p' s' ∧ SameD h₀ s'.heap) p s := by
  induction h with
  | pure a => intro p s d w; simp only [Sem.wp] at w ⊢; exact ⟨w, d⟩
  | raise e => intro p s d w; simp only [Sem.wp] at w ⊢; exact ⟨w, d⟩
  | unsupported _ => intro p s d w; simp only [Sem.wp] at w
  | finish _ => intro p s d w; simp only [Sem.wp] at w
  | rule _ ih => intro p s d w; simp only [Sem.wp] at w ⊢; exact ih _ p s d w
  | «at» _ ih => intro p s d w; simp only [Sem.wp] at w ⊢; exact ih _ _ s d w
  | load _ ih => intro p s d w; simp only [Sem.wp] at w ⊢; obtain ⟨o, ho, w⟩ := w; exact ⟨o, ho, ih _ p s d w⟩
  | update g _ ih => intro p s d w; simp only [Sem.wp] at w ⊢; exact ⟨w.1, ih _ p _ (d.trans (SameD.update _ _ g)) w.2⟩
  | alloc _ ih => intro p s d w; simp only [Sem.wp] at w ⊢; exact ih _ p _ (d.trans (SameD.push _ _)) w
  | register => intro p s d w; simp only [Sem.wp] at w
  | loadIfAlive _ ih => intro p s d w; simp only [Sem.wp] at w ⊢; exact ih _ p s d w
  | point _ ih => intro p s d w; simp only [Sem.wp] at w ⊢; exact ih _ p s d w
  | fresh _ ih => intro p s d w; simp only [Sem.wp] at w ⊢; exact ih _ p _ d w
  | ask _ ih => intro p s d w; simp only [Sem.wp] at w ⊢; exact ih _ p s d w
  | handled _ ih => intro p s d w; simp only [Sem.wp] at w ⊢; exact ih _ p s d w
  | stack _ ih => intro p s d w; simp only [Sem.wp] at w ⊢; exact ih _ p s d w
theorem DK.any {α : Type} {t : Sem α} (h : DK t) {M : Model} {A : Around} {Q : α → Shared → Prop} {E : Value → Shared → Prop} {s : Shared}
    (w : wpAny M A t (fun a s' => SameD s.heap s'.heap → Q a s') (fun e s' => SameD s.heap s'.heap → E e s') s) : wpAny M A t Q E s := fun Γ p hΓ =>
  Sem.wp_mono M Γ t (fun _ _ _ x => x.1 x.2) (fun _ _ _ x => x.1 x.2) p s (h.wp p s (SameD.refl _) (w Γ p hΓ))

theorem dk_load (a : Addr) : DK (load a) := .load fun o => .pure o
theorem dk_stack : DK stack := .stack fun l => .pure l
theorem dk_alloc (o : Obj) : DK (alloc o) := .alloc fun a => .pure a
theorem dk_register (a : Addr) : DK (register a) := .register
theorem dk_update (a : Addr) {f : Obj → Obj} (hf : ∀ o, (f o).dict = o.dict) : DK (update a f) := .update hf fun u => .pure u
theorem dk_updatePart (a : Addr) (p : Option Value) {f : Obj → Obj} (hf : ∀ o, (f o).dict = o.dict) : DK (updatePart a p f) := .update hf fun u => .pure u
theorem mapFields_dict (f : Array Value → Array Value) (o : Obj) : (Obj.mapFields f o).dict = o.dict := by
  obtain ⟨c, d, dt, sl⟩ := o
  cases dt <;> rfl

theorem dk_fieldsOf (v : Value) : DK (fieldsOf v) := by unfold fieldsOf; (repeat' (first | exact DK.pure _ | exact DK.pure' _ | exact DK.raise _ | exact DK.throw' _ | exact DK.unsupported _ | exact dk_load _ | exact dk_stack | exact dk_alloc _ | exact dk_register _ | exact dk_update _ (fun _ => rfl) | exact dk_updatePart _ _ (fun _ => rfl) | exact dk_update _ (mapFields_dict _) | assumption | (with_reducible refine DK.bind' ?_ ?_) | intro _ | split | (with_reducible refine DK.bind ?_ ?_)))
theorem dk_field (v : Value) (i : Nat) : DK (field v i) := by unfold field; (repeat' (first | exact DK.pure _ | exact DK.pure' _ | exact DK.raise _ | exact DK.throw' _ | exact DK.unsupported _ | exact dk_load _ | exact dk_stack | exact dk_alloc _ | exact dk_register _ | exact dk_update _ (fun _ => rfl) | exact dk_updatePart _ _ (fun _ => rfl) | exact dk_update _ (mapFields_dict _) | assumption | exact dk_fieldsOf _ | (with_reducible refine DK.bind' ?_ ?_) | intro _ | split | (with_reducible refine DK.bind ?_ ?_)))
theorem dk_loadPart (a : Addr) (p : Option Value) : DK (loadPart a p) := .load fun o => .pure o
theorem dk_updateField (a : Addr) (i : Nat) (v : Value) : DK (updateField a i v) := by unfold updateField; (repeat' (first | exact DK.pure _ | exact DK.pure' _ | exact DK.raise _ | exact DK.throw' _ | exact DK.unsupported _ | exact dk_load _ | exact dk_stack | exact dk_alloc _ | exact dk_register _ | exact dk_update _ (fun _ => rfl) | exact dk_updatePart _ _ (fun _ => rfl) | exact dk_update _ (mapFields_dict _) | assumption | exact dk_loadPart _ _ | exact dk_field _ _ | exact dk_fieldsOf _ | (with_reducible refine DK.bind' ?_ ?_) | intro _ | split | (with_reducible refine DK.bind ?_ ?_)))
theorem dk_setField (v : Value) (i : Nat) (x : Value) : DK (setField v i x) := by unfold setField; (repeat' (first | exact DK.pure _ | exact DK.pure' _ | exact DK.raise _ | exact DK.throw' _ | exact DK.unsupported _ | exact dk_load _ | exact dk_stack | exact dk_alloc _ | exact dk_register _ | exact dk_update _ (fun _ => rfl) | exact dk_updatePart _ _ (fun _ => rfl) | exact dk_update _ (mapFields_dict _) | assumption | exact dk_updateField _ _ _ | exact dk_loadPart _ _ | exact dk_field _ _ | exact dk_fieldsOf _ | (with_reducible refine DK.bind' ?_ ?_) | intro _ | split | (with_reducible refine DK.bind ?_ ?_)))
theorem dk_setFlight (e : Value) (f : Option Addr) : DK (setFlight e f) := by unfold setFlight; (repeat' (first | exact DK.pure _ | exact DK.pure' _ | exact DK.raise _ | exact DK.throw' _ | exact DK.unsupported _ | exact dk_load _ | exact dk_stack | exact dk_alloc _ | exact dk_register _ | exact dk_update _ (fun _ => rfl) | exact dk_updatePart _ _ (fun _ => rfl) | exact dk_update _ (mapFields_dict _) | assumption | exact dk_setField _ _ _ | exact dk_updateField _ _ _ | exact dk_loadPart _ _ | exact dk_field _ _ | exact dk_fieldsOf _ | (with_reducible refine DK.bind' ?_ ?_) | intro _ | split | (with_reducible refine DK.bind ?_ ?_)))
theorem dk_under  : DK (underTheClaimsCaller) := by unfold underTheClaimsCaller; (repeat' (first | exact DK.pure _ | exact DK.pure' _ | exact DK.raise _ | exact DK.throw' _ | exact DK.unsupported _ | exact dk_load _ | exact dk_stack | exact dk_alloc _ | exact dk_register _ | exact dk_update _ (fun _ => rfl) | exact dk_updatePart _ _ (fun _ => rfl) | exact dk_update _ (mapFields_dict _) | assumption | exact dk_setFlight _ _ | exact dk_setField _ _ _ | exact dk_updateField _ _ _ | exact dk_loadPart _ _ | exact dk_field _ _ | exact dk_fieldsOf _ | (with_reducible refine DK.bind' ?_ ?_) | intro _ | split | (with_reducible refine DK.bind ?_ ?_)))
theorem dk_behind (env : Env) (l : List Env) : DK (behindIsImport env l) := by unfold behindIsImport; (repeat' (first | exact DK.pure _ | exact DK.pure' _ | exact DK.raise _ | exact DK.throw' _ | exact DK.unsupported _ | exact dk_load _ | exact dk_stack | exact dk_alloc _ | exact dk_register _ | exact dk_update _ (fun _ => rfl) | exact dk_updatePart _ _ (fun _ => rfl) | exact dk_update _ (mapFields_dict _) | assumption | exact dk_under | exact dk_setFlight _ _ | exact dk_setField _ _ _ | exact dk_updateField _ _ _ | exact dk_loadPart _ _ | exact dk_field _ _ | exact dk_fieldsOf _ | (with_reducible refine DK.bind' ?_ ?_) | intro _ | split | (with_reducible refine DK.bind ?_ ?_)))
theorem dk_keptBack (env : Env) (b : Bool) : ∀ (l : List Env), DK (keptBack env b l)
  | [] => by unfold keptBack; (repeat' (first | exact DK.pure _ | exact DK.pure' _ | exact DK.raise _ | exact DK.throw' _ | exact DK.unsupported _ | exact dk_load _ | exact dk_stack | exact dk_alloc _ | exact dk_register _ | exact dk_update _ (fun _ => rfl) | exact dk_updatePart _ _ (fun _ => rfl) | exact dk_update _ (mapFields_dict _) | assumption | exact dk_behind _ _ | exact dk_under | exact dk_setFlight _ _ | exact dk_setField _ _ _ | exact dk_updateField _ _ _ | exact dk_loadPart _ _ | exact dk_field _ _ | exact dk_fieldsOf _ | (with_reducible refine DK.bind' ?_ ?_) | intro _ | split | (with_reducible refine DK.bind ?_ ?_)))
  | _ :: _ => by unfold keptBack; (repeat' (first | exact DK.pure _ | exact DK.pure' _ | exact DK.raise _ | exact DK.throw' _ | exact DK.unsupported _ | exact dk_load _ | exact dk_stack | exact dk_alloc _ | exact dk_register _ | exact dk_update _ (fun _ => rfl) | exact dk_updatePart _ _ (fun _ => rfl) | exact dk_update _ (mapFields_dict _) | assumption | exact dk_behind _ _ | exact dk_under | exact dk_setFlight _ _ | exact dk_setField _ _ _ | exact dk_updateField _ _ _ | exact dk_loadPart _ _ | exact dk_field _ _ | exact dk_fieldsOf _ | (with_reducible refine DK.bind' ?_ ?_) | intro _ | split | (with_reducible refine DK.bind ?_ ?_)))
theorem dk_ready : ∀ (l : List Env), DK (readyFrames l)
  | [] => by unfold readyFrames; (repeat' (first | exact DK.pure _ | exact DK.pure' _ | exact DK.raise _ | exact DK.throw' _ | exact DK.unsupported _ | exact dk_load _ | exact dk_stack | exact dk_alloc _ | exact dk_register _ | exact dk_update _ (fun _ => rfl) | exact dk_updatePart _ _ (fun _ => rfl) | exact dk_update _ (mapFields_dict _) | assumption | exact dk_keptBack _ _ _ | exact dk_behind _ _ | exact dk_under | exact dk_setFlight _ _ | exact dk_setField _ _ _ | exact dk_updateField _ _ _ | exact dk_loadPart _ _ | exact dk_field _ _ | exact dk_fieldsOf _ | (with_reducible refine DK.bind' ?_ ?_) | intro _ | split | (with_reducible refine DK.bind ?_ ?_)))
  | env :: l => by
    have h3 := dk_ready l
    unfold readyFrames
    (repeat' (first | exact DK.pure _ | exact DK.pure' _ | exact DK.raise _ | exact DK.throw' _ | exact DK.unsupported _ | exact dk_load _ | exact dk_stack | exact dk_alloc _ | exact dk_register _ | exact dk_update _ (fun _ => rfl) | exact dk_updatePart _ _ (fun _ => rfl) | exact dk_update _ (mapFields_dict _) | assumption | exact dk_keptBack _ _ _ | exact dk_behind _ _ | exact dk_under | exact dk_setFlight _ _ | exact dk_setField _ _ _ | exact dk_updateField _ _ _ | exact dk_loadPart _ _ | exact dk_field _ _ | exact dk_fieldsOf _ | (with_reducible refine DK.bind' ?_ ?_) | intro _ | split | (with_reducible refine DK.bind ?_ ?_)))
theorem dk_frameObject : ∀ (l : List Env), DK (frameObject l)
  | [] => by unfold frameObject; (repeat' (first | exact DK.pure _ | exact DK.pure' _ | exact DK.raise _ | exact DK.throw' _ | exact DK.unsupported _ | exact dk_load _ | exact dk_stack | exact dk_alloc _ | exact dk_register _ | exact dk_update _ (fun _ => rfl) | exact dk_updatePart _ _ (fun _ => rfl) | exact dk_update _ (mapFields_dict _) | assumption | exact dk_ready _ | exact dk_keptBack _ _ _ | exact dk_behind _ _ | exact dk_under | exact dk_setFlight _ _ | exact dk_setField _ _ _ | exact dk_updateField _ _ _ | exact dk_loadPart _ _ | exact dk_field _ _ | exact dk_fieldsOf _ | (with_reducible refine DK.bind' ?_ ?_) | intro _ | split | (with_reducible refine DK.bind ?_ ?_)))
  | env :: l => by unfold frameObject; (repeat' (first | exact DK.pure _ | exact DK.pure' _ | exact DK.raise _ | exact DK.throw' _ | exact DK.unsupported _ | exact dk_load _ | exact dk_stack | exact dk_alloc _ | exact dk_register _ | exact dk_update _ (fun _ => rfl) | exact dk_updatePart _ _ (fun _ => rfl) | exact dk_update _ (mapFields_dict _) | assumption | exact dk_ready _ | exact dk_keptBack _ _ _ | exact dk_behind _ _ | exact dk_under | exact dk_setFlight _ _ | exact dk_setField _ _ _ | exact dk_updateField _ _ _ | exact dk_loadPart _ _ | exact dk_field _ _ | exact dk_fieldsOf _ | (with_reducible refine DK.bind' ?_ ?_) | intro _ | split | (with_reducible refine DK.bind ?_ ?_)))
theorem dk_frameEnvs  : DK (frameEnvs) := by unfold frameEnvs; (repeat' (first | exact DK.pure _ | exact DK.pure' _ | exact DK.raise _ | exact DK.throw' _ | exact DK.unsupported _ | exact dk_load _ | exact dk_stack | exact dk_alloc _ | exact dk_register _ | exact dk_update _ (fun _ => rfl) | exact dk_updatePart _ _ (fun _ => rfl) | exact dk_update _ (mapFields_dict _) | assumption | exact dk_frameObject _ | exact dk_ready _ | exact dk_keptBack _ _ _ | exact dk_behind _ _ | exact dk_under | exact dk_setFlight _ _ | exact dk_setField _ _ _ | exact dk_updateField _ _ _ | exact dk_loadPart _ _ | exact dk_field _ _ | exact dk_fieldsOf _ | (with_reducible refine DK.bind' ?_ ?_) | intro _ | split | (with_reducible refine DK.bind ?_ ?_)))
theorem dk_frameOf (env : Env) : DK (PySem.frameOf env) := by unfold PySem.frameOf; (repeat' (first | exact DK.pure _ | exact DK.pure' _ | exact DK.raise _ | exact DK.throw' _ | exact DK.unsupported _ | exact dk_load _ | exact dk_stack | exact dk_alloc _ | exact dk_register _ | exact dk_update _ (fun _ => rfl) | exact dk_updatePart _ _ (fun _ => rfl) | exact dk_update _ (mapFields_dict _) | assumption | exact dk_frameEnvs | exact dk_frameObject _ | exact dk_ready _ | exact dk_keptBack _ _ _ | exact dk_behind _ _ | exact dk_under | exact dk_setFlight _ _ | exact dk_setField _ _ _ | exact dk_updateField _ _ _ | exact dk_loadPart _ _ | exact dk_field _ _ | exact dk_fieldsOf _ | (with_reducible refine DK.bind' ?_ ?_) | intro _ | split | (with_reducible refine DK.bind ?_ ?_)))
theorem dk_place (f : Addr) (b : Bool) : DK (entryPlaceOf f b) := by unfold entryPlaceOf; (repeat' (first | exact DK.pure _ | exact DK.pure' _ | exact DK.raise _ | exact DK.throw' _ | exact DK.unsupported _ | exact dk_load _ | exact dk_stack | exact dk_alloc _ | exact dk_register _ | exact dk_update _ (fun _ => rfl) | exact dk_updatePart _ _ (fun _ => rfl) | exact dk_update _ (mapFields_dict _) | assumption | exact dk_frameOf _ | exact dk_frameEnvs | exact dk_frameObject _ | exact dk_ready _ | exact dk_keptBack _ _ _ | exact dk_behind _ _ | exact dk_under | exact dk_setFlight _ _ | exact dk_setField _ _ _ | exact dk_updateField _ _ _ | exact dk_loadPart _ _ | exact dk_field _ _ | exact dk_fieldsOf _ | (with_reducible refine DK.bind' ?_ ?_) | intro _ | split | (with_reducible refine DK.bind ?_ ?_)))
theorem dk_classHasDel (c : Addr) : DK (classHasDel c) := by unfold classHasDel; (repeat' (first | exact DK.pure _ | exact DK.pure' _ | exact DK.raise _ | exact DK.throw' _ | exact DK.unsupported _ | exact dk_load _ | exact dk_stack | exact dk_alloc _ | exact dk_register _ | exact dk_update _ (fun _ => rfl) | exact dk_updatePart _ _ (fun _ => rfl) | exact dk_update _ (mapFields_dict _) | assumption | exact dk_place _ _ | exact dk_frameOf _ | exact dk_frameEnvs | exact dk_frameObject _ | exact dk_ready _ | exact dk_keptBack _ _ _ | exact dk_behind _ _ | exact dk_under | exact dk_setFlight _ _ | exact dk_setField _ _ _ | exact dk_updateField _ _ _ | exact dk_loadPart _ _ | exact dk_field _ _ | exact dk_fieldsOf _ | (with_reducible refine DK.bind' ?_ ?_) | intro _ | split | (with_reducible refine DK.bind ?_ ?_)))
theorem dk_newObjAsIs (c : Value) (d : Data) (x : Option Addr) : DK (newObjAsIs c d x) := by unfold newObjAsIs; (repeat' (first | exact DK.pure _ | exact DK.pure' _ | exact DK.raise _ | exact DK.throw' _ | exact DK.unsupported _ | exact dk_load _ | exact dk_stack | exact dk_alloc _ | exact dk_register _ | exact dk_update _ (fun _ => rfl) | exact dk_updatePart _ _ (fun _ => rfl) | exact dk_update _ (mapFields_dict _) | assumption | exact dk_classHasDel _ | exact dk_place _ _ | exact dk_frameOf _ | exact dk_frameEnvs | exact dk_frameObject _ | exact dk_ready _ | exact dk_keptBack _ _ _ | exact dk_behind _ _ | exact dk_under | exact dk_setFlight _ _ | exact dk_setField _ _ _ | exact dk_updateField _ _ _ | exact dk_loadPart _ _ | exact dk_field _ _ | exact dk_fieldsOf _ | (with_reducible refine DK.bind' ?_ ?_) | intro _ | split | (with_reducible refine DK.bind ?_ ?_)))
theorem dk_newObj (c : Value) (d : Data) (x : Option Addr) : DK (newObj c d x) := by unfold newObj; (repeat' (first | exact DK.pure _ | exact DK.pure' _ | exact DK.raise _ | exact DK.throw' _ | exact DK.unsupported _ | exact dk_load _ | exact dk_stack | exact dk_alloc _ | exact dk_register _ | exact dk_update _ (fun _ => rfl) | exact dk_updatePart _ _ (fun _ => rfl) | exact dk_update _ (mapFields_dict _) | assumption | exact dk_newObjAsIs _ _ _ | exact dk_classHasDel _ | exact dk_place _ _ | exact dk_frameOf _ | exact dk_frameEnvs | exact dk_frameObject _ | exact dk_ready _ | exact dk_keptBack _ _ _ | exact dk_behind _ _ | exact dk_under | exact dk_setFlight _ _ | exact dk_setField _ _ _ | exact dk_updateField _ _ _ | exact dk_loadPart _ _ | exact dk_field _ _ | exact dk_fieldsOf _ | (with_reducible refine DK.bind' ?_ ?_) | intro _ | split | (with_reducible refine DK.bind ?_ ?_)))
theorem dk_newEntry (a b c d e : Value) (p : List Value) : DK (EntryCells.newEntry a b c d e p) := by unfold EntryCells.newEntry newFields; (repeat' (first | exact DK.pure _ | exact DK.pure' _ | exact DK.raise _ | exact DK.throw' _ | exact DK.unsupported _ | exact dk_load _ | exact dk_stack | exact dk_alloc _ | exact dk_register _ | exact dk_update _ (fun _ => rfl) | exact dk_updatePart _ _ (fun _ => rfl) | exact dk_update _ (mapFields_dict _) | assumption | exact dk_newObj _ _ _ | exact dk_newObjAsIs _ _ _ | exact dk_classHasDel _ | exact dk_place _ _ | exact dk_frameOf _ | exact dk_frameEnvs | exact dk_frameObject _ | exact dk_ready _ | exact dk_keptBack _ _ _ | exact dk_behind _ _ | exact dk_under | exact dk_setFlight _ _ | exact dk_setField _ _ _ | exact dk_updateField _ _ _ | exact dk_loadPart _ _ | exact dk_field _ _ | exact dk_fieldsOf _ | (with_reducible refine DK.bind' ?_ ?_) | intro _ | split | (with_reducible refine DK.bind ?_ ?_)))
theorem dk_noteFrame (e : Value) (env : Env) : DK (noteFrame e env) := by unfold noteFrame; (repeat' (first | exact DK.pure _ | exact DK.pure' _ | exact DK.raise _ | exact DK.throw' _ | exact DK.unsupported _ | exact dk_load _ | exact dk_stack | exact dk_alloc _ | exact dk_register _ | exact dk_update _ (fun _ => rfl) | exact dk_updatePart _ _ (fun _ => rfl) | exact dk_update _ (mapFields_dict _) | assumption | exact dk_newEntry _ _ _ _ _ _ | exact dk_newObj _ _ _ | exact dk_newObjAsIs _ _ _ | exact dk_classHasDel _ | exact dk_place _ _ | exact dk_frameOf _ | exact dk_frameEnvs | exact dk_frameObject _ | exact dk_ready _ | exact dk_keptBack _ _ _ | exact dk_behind _ _ | exact dk_under | exact dk_setFlight _ _ | exact dk_setField _ _ _ | exact dk_updateField _ _ _ | exact dk_loadPart _ _ | exact dk_field _ _ | exact dk_fieldsOf _ | (with_reducible refine DK.bind' ?_ ?_) | intro _ | split | (with_reducible refine DK.bind ?_ ?_)))
theorem dk_leaving (env : Env) (e : Value) : DK (leaving env e) := by unfold leaving; (repeat' (first | exact DK.pure _ | exact DK.pure' _ | exact DK.raise _ | exact DK.throw' _ | exact DK.unsupported _ | exact dk_load _ | exact dk_stack | exact dk_alloc _ | exact dk_register _ | exact dk_update _ (fun _ => rfl) | exact dk_updatePart _ _ (fun _ => rfl) | exact dk_update _ (mapFields_dict _) | assumption | exact dk_noteFrame _ _ | exact dk_newEntry _ _ _ _ _ _ | exact dk_newObj _ _ _ | exact dk_newObjAsIs _ _ _ | exact dk_classHasDel _ | exact dk_place _ _ | exact dk_frameOf _ | exact dk_frameEnvs | exact dk_frameObject _ | exact dk_ready _ | exact dk_keptBack _ _ _ | exact dk_behind _ _ | exact dk_under | exact dk_setFlight _ _ | exact dk_setField _ _ _ | exact dk_updateField _ _ _ | exact dk_loadPart _ _ | exact dk_field _ _ | exact dk_fieldsOf _ | (with_reducible refine DK.bind' ?_ ?_) | intro _ | split | (with_reducible refine DK.bind ?_ ?_)))
end
section
/-- an exception of the text's class on its way through the frames -/
structure FlyB (B : Heap) (l : List Env) (e dx : Addr) (od : Obj) (as : List Addr) (led : List (Addr × Obj)) (h h' : Heap) : Prop where
  fly : ∃ a0, Heap.FlyingW B l e (.ref 34) a0 h'
  dict : ∃ o, h'.get? e = some o ∧ o.dict = some dx
  bd : B.get? dx = some od
  ledB : ∀ q ∈ led, B.get? q.1 = some q.2
  new : ∀ a, (a = e ∨ a = dx ∨ ∃ q ∈ led, q.1 = a) → ∀ o, h.get? a = some o → a ∈ as
  keep : ∀ b o, h.get? b = some o → b ∉ as → b ∉ l.filterMap (·.frame) → B.get? b = some o
  up : ∀ b o, h.get? b = some o → b ∉ as → (∀ vs, o.data ≠ .fields vs) → ∃ sl, h'.get? b = some { o with slots := sl }

theorem objs_of_get {h : Heap} {b : Addr} {o : Obj} (e : h.get? b = some o) : h.objs[b]? = some o := by
  unfold Heap.get? at e
  split at e
  · cases e
  · exact e
theorem dict_kept {h h' : Heap} {e dx : Addr} {o o' : Obj} (d : SameD h h') (h1 : h.get? e = some o) (hd : o.dict = some dx) (h2 : h'.get? e = some o') : o'.dict = some dx := by
  obtain ⟨o'', e1, e2⟩ := d e o (objs_of_get h1)
  have := objs_of_get h2
  rw [e1] at this
  cases this
  exact e2.trans hd

section
variable {M : Model} {A A' : Around} {E : Value → Shared → Prop} {s' : Shared} {base g s₀ : Heap} {l : List Env} {L e dx t : Addr} {m : Str → Option Value} {env : Env} {od : Obj} {Q : Unit → Shared → Prop} {led big led₁ rest : List (Addr × Obj)} {as as₁ : List Addr} {B h : Heap}

theorem frames_off (K : Below A base l g) (F : Fr g L h m) (hf : env.frame = some L) {b : Addr} (hg : g.get? b = none) (hL : b ≠ L) : b ∉ (env :: l).filterMap (·.frame) := fun hm => by
  obtain ⟨en, he, hfr⟩ := List.mem_filterMap.mp hm
  rcases List.mem_cons.mp he with rfl | he
  · exact hL (Option.some.inj (hfr.symm.trans hf))
  · obtain ⟨o, ho, _⟩ := (K.frames.mem (List.mem_filterMap.mpr ⟨en, he, hfr⟩)).2
    rw [hg] at ho; cases ho
theorem frames_off' (F : Fr g L h m) (hf : env.frame = some L) {b : Addr} {o : Obj} (hg : g.get? b = some o) (hb : b ∉ l.filterMap (·.frame)) : b ∉ (env :: l).filterMap (·.frame) := fun hm => by
  obtain ⟨en, he, hfr⟩ := List.mem_filterMap.mp hm
  rcases List.mem_cons.mp he with rfl | he
  · rw [hf] at hfr
    have : b = L := (Option.some.inj hfr).symm
    have h1 := Heap.lt_size hg
    have h2 := F.above
    rw [this] at h1
    exact absurd h1 (Nat.not_lt.mpr h2)
  · exact hb (List.mem_filterMap.mpr ⟨en, he, hfr⟩)

/-- the raise: the exception leaves the frame in which it was made -/
theorem fly_first (hfr : A'.frames = some (env :: l)) (hf : env.frame = some L) (hkm : env.scope.kind ≠ .module) (K : Below A base l g) (F : Fr g L s'.heap m)
    (N : News g L s'.heap ((e, excO dx t) :: (dx, od) :: led)) (hed : e ≠ dx) (hne : ∀ q ∈ led, q.1 ≠ e) (kb : KeepBut as s₀ g)
    (hQ : ∀ B h', FlyB B l e dx od as led s₀ h' → Q () { s' with heap := h' }) : wpAny M A' (leaving env (.ref e)) Q E s' := by
  refine (dk_leaving env (.ref e)).any ?_
  have he := N _ (.head _)
  have hd := N _ (.tail _ (.head _))
  generalize hs : s'.heap = h at *
  let hid := e :: (env :: l).filterMap (·.frame)
  have hB : ∀ {b o}, h.get? b = some o → b ≠ e → b ∉ (env :: l).filterMap (·.frame) → (hideAll h hid).get? b = some o := fun ho h1 h2 => hideAll_get _ ho fun hm => by
    rcases List.mem_cons.mp hm with q | hm
    · exact h1 q
    · exact h2 hm
  obtain ⟨oL, es, ep, hL, hLd, _⟩ := F.ns
  have ff : h.FunFrames (hideAll h hid) (env :: l) := by
    refine ⟨hkm, ⟨L, oL, hf, hideAll_none _ (.tail _ (List.mem_filterMap.mpr ⟨env, .head _, hf⟩)), hL, fun vs q => by rw [hLd] at q; cases q⟩, ?_⟩
    have := K.frames.of_keeps (h' := h) fun b o q _ => ⟨o, F.keep b o q, rfl⟩
    have key : ∀ l' : List Env, (∀ en ∈ l', en ∈ l) → h.FunFrames base l' → h.FunFrames (hideAll h hid) l' := by
      intro l'
      induction l' with
      | nil => exact fun _ _ => trivial
      | cons en r ih =>
        rintro hin ⟨x1, ⟨L2, o2, x2, x3, x4, x5⟩, x6⟩
        exact ⟨x1, ⟨L2, o2, x2, hideAll_none _ (.tail _ (List.mem_filterMap.mpr ⟨en, .tail _ (hin en (.head _)), x2⟩)), x4, x5⟩, ih (fun y hy => hin y (.tail _ hy)) x6⟩
    exact key l (fun _ x => x) this
  refine wpAny_leaving_firstW (base := hideAll h hid) (a0 := .ref t) hfr (hs ▸ ff) hf (hs ▸ he.1) (fun b o q => hs ▸ of_hideAll _ q) (hideAll_none _ (.head _)) rfl rfl rfl fun h' hL' sd => ?_
  (try rw [hs] at hL'); (try rw [hs] at sd)
  obtain ⟨k1, ⟨_, _, k2⟩, k3, k4⟩ := hL'
  refine hQ (hideAll h hid) h' ⟨⟨_, k1, hideAll_none _ (.head _), k2, k3⟩, ?_, ?_, ?_, ?_, ?_, ?_⟩
  · obtain ⟨oe, _, _, _, _, hoe, _⟩ := k3
    exact ⟨oe, hoe, dict_kept sd he.1 rfl hoe⟩
  · exact hB hd.1 (Ne.symm hed) (frames_off K F hf hd.2.2 hd.2.1)
  · intro q hq
    have := N q (.tail _ (.tail _ hq))
    exact hB this.1 (hne q hq) (frames_off K F hf this.2.2 this.2.1)
  · intro a ha o ho
    refine Classical.byContradiction fun hn => ?_
    have hg := kb a o ho hn
    rcases ha with rfl | rfl | ⟨q, hq, rfl⟩
    · rw [he.2.2] at hg; cases hg
    · rw [hd.2.2] at hg; cases hg
    · rw [(N q (.tail _ (.tail _ hq))).2.2] at hg; cases hg
  · intro b o ho hn hl
    have hg := kb b o ho hn
    exact hB (F.keep b o hg) (fun q => by rw [q, he.2.2] at hg; cases hg) (frames_off' F hf hg hl)
  · exact fun b o ho hn hnf => k4 b o (F.keep b o (kb b o ho hn)) hnf

/-- the exception flies on through the frame of a caller -/
theorem fly_on (hfr : A'.frames = some (env :: l)) (hf : env.frame = some L) (K : Below A base l g) (F : Fr g L h m) (N : News g L h big) (hs : ∀ a ∈ as₁, ∃ p ∈ big, p.1 = a) (hr : ∀ q ∈ rest, q ∈ big ∧ q.1 ∉ as₁)
    (X : FlyB B (env :: l) e dx od as₁ led₁ h s'.heap) (kb : KeepBut as s₀ g)
    (hQ : ∀ h', FlyB B l e dx od as (led₁ ++ rest) s₀ h' → Q () { s' with heap := h' }) : wpAny M A' (leaving env (.ref e)) Q E s' := by
  refine (dk_leaving env (.ref e)).any ?_
  obtain ⟨⟨a0, fly⟩, ⟨o, ho, hod⟩, bd, led, new, keep, up⟩ := X
  have off : ∀ {b o}, g.get? b = some o → b ∉ as₁ := fun hg hm => by
    obtain ⟨p, hp, rfl⟩ := hs _ hm
    rw [(N p hp).2.2] at hg; cases hg
  refine wpAny_leaves_onW hfr hf fly fun h' fl us sd => hQ h' ⟨⟨a0, fl⟩, ?_, bd, ?_, ?_, ?_, ?_⟩
  · obtain ⟨_, _, _, oe, _, _, _, _, hoe, _⟩ := fl
    exact ⟨oe, hoe, dict_kept sd ho hod hoe⟩
  · intro q hq
    rcases List.mem_append.mp hq with hq | hq
    · exact led q hq
    · obtain ⟨h1, h2⟩ := hr q hq
      exact keep _ _ (N q h1).1 h2 (frames_off K F hf (N q h1).2.2 (N q h1).2.1)
  · intro a ha o' ho'
    refine Classical.byContradiction fun hn => ?_
    have hg := kb a o' ho' hn
    have : a ∈ as₁ ∨ ∃ q ∈ rest, q.1 = a := by
      rcases ha with ha | ha | ⟨q, hq, ha⟩
      · exact .inl (new a (.inl ha) _ (F.keep _ _ hg))
      · exact .inl (new a (.inr (.inl ha)) _ (F.keep _ _ hg))
      · rcases List.mem_append.mp hq with hq | hq
        · exact .inl (new a (.inr (.inr ⟨q, hq, ha⟩)) _ (F.keep _ _ hg))
        · exact .inr ⟨q, hq, ha⟩
    rcases this with hm | ⟨q, hq, rfl⟩
    · exact off hg hm
    · rw [(N q (hr q hq).1).2.2] at hg; cases hg
  · intro b o' ho' hn hl
    have hg := kb b o' ho' hn
    exact keep b o' (F.keep _ _ hg) (off hg) (frames_off' F hf hg hl)
  · intro b o' ho' hn hnf
    have hg := kb b o' ho' hn
    obtain ⟨sl, h1⟩ := up b o' (F.keep _ _ hg) (off hg) hnf
    obtain ⟨sl', h2⟩ := us b _ h1 hnf
    exact ⟨sl', h2⟩
end

end
section
theorem fly_fr {h₀ h hX B : Heap} {L : Addr} {m : Str → Option Value} {env : Env} {big : List (Addr × Obj)} {as₁ : List Addr} (hf : env.frame = some L) (F : Fr h₀ L h m) (N : News h₀ L h big) (hs : ∀ a ∈ as₁, ∃ p ∈ big, p.1 = a)
    (keep : ∀ b o, h.get? b = some o → b ∉ as₁ → b ∉ [env].filterMap (·.frame) → B.get? b = some o) (st : B.StaysIn hX)
    (up : ∀ b o, h.get? b = some o → b ∉ as₁ → (∀ vs, o.data ≠ .fields vs) → ∃ sl, hX.get? b = some { o with slots := sl }) : Fr h₀ L hX m := by
  obtain ⟨oL, es, ep, hL, hLd, r⟩ := F.ns
  refine ⟨?_, fun b o e => ?_, F.above⟩
  · obtain ⟨sl, h2⟩ := up L oL hL (fun hm => by obtain ⟨p, hp, q⟩ := hs _ hm; exact (N p hp).2.1 q) (fun vs q => by rw [hLd] at q; cases q)
    exact ⟨_, es, ep, h2, hLd, r⟩
  · have hlt := Heap.lt_size e
    refine st b o (keep b o (F.keep b o e) (fun hm => ?_) (fun hm => ?_))
    · obtain ⟨p, hp, q⟩ := hs _ hm
      have := (N p hp).2.2
      rw [q, e] at this; cases this
    · simp only [List.filterMap_cons, hf, List.filterMap_nil, List.mem_cons, List.not_mem_nil, or_false] at hm
      have h2 := F.above
      rw [hm] at hlt
      exact absurd hlt (Nat.not_lt.mpr h2)

section
variable {prog : Program} {w : World} {A : Around} {E : Value → Shared → Prop} {s' : Shared} {h₀ h B : Heap} {L a e dx : Addr} {m : Str → Option Value} {name : Str} {scope : Scope} {cd : Value} {cl : List (Str × Addr)}
  {n : Str} {b₀ : Stmt} {suite : List Stmt} {pos np : Pos} {restH : List ExceptHandler} {Q : Flow → Shared → Prop} {big led₁ rest : List (Addr × Obj)} {as₁ : List Addr} {od : Obj} {KF : Frag} {p : Program} {loose : List Str} {mg mb : Str → Option Value} {x : Str}

theorem caught_M (hfr : A.frames = some [envX name scope L a cd cl]) (F : Fr h₀ L h m) (N : News h₀ L h big) (hs : ∀ a ∈ as₁, ∃ p ∈ big, p.1 = a) (hr : ∀ q ∈ rest, q ∈ big ∧ q.1 ∉ as₁)
    (Y : FlyB B [envX name scope L a cd cl] e dx od as₁ led₁ h s'.heap) (X : KF.In h₀) (T : TopRead p loose mg mb h₀) (ex : nsIn KF mainGlobals x = some (some (.ref 34))) (hx1 : exmOne KF (.ref 34) (.ref 34) = some true)
    (k : ∀ h' tk vs sl, Fr h₀ L h' (fun y => if y = n then some (.ref e) else m y) → News h₀ L h' ((e, ⟨.ref 34, some dx, .fields vs, sl⟩) :: (dx, od) :: (led₁ ++ rest)) →
      wpAny (model prog w) (A.mark (some (.ref e))) (execs (b₀ :: suite) (envX name scope L a cd cl))
        (fun f s₄ => wpAny (model prog w) A (do bindName (envX name scope L a cd cl) n .none; unbindBehindTheSuite (envX name scope L a cd cl) n pos) (fun _ s₅ => Q f s₅) E s₄)
        (AsSuiteRaised (model prog w) (A.mark (some (.ref e))) (envX name scope L a cd cl) n pos (notedBy (model prog w) (A.mark (some (.ref e))) (envX name scope L a cd cl) (cameBackBy (model prog w) A (envX name scope L a cd cl) E)))
        { s' with heap := h', toks := tk })
    (hk : scope.kind = .function) (hlo : (envX name scope L a cd cl).kindOf n = some .local) (hx : (envX name scope L a cd cl).kindOf x = some .globalImplicit) (hd : (x == ("__debug__" : Str)) = false) :
    wpAny (model prog w) A (noteFrame (.ref e) (envX name scope L a cd cl))
      (fun _ s₂ => wpAny (model prog w) A (setFlight (.ref e) none) (fun _ s₃ =>
        wpAny (model prog w) A (handleBy (.ref e) (envX name scope L a cd cl) (.ExceptHandler (some (.Name x np)) (some n) (b₀ :: suite) pos :: restH)) Q E s₃) E s₂) E s' := by
  obtain ⟨⟨a0, fly⟩, ⟨o, ho, hod⟩, bd, led, new, keep, up⟩ := Y
  have hf : (envX name scope L a cd cl).frame = some L := rfl
  have fresh : ∀ b, (b = e ∨ b = dx ∨ ∃ q ∈ led₁, q.1 = b) → b ≠ L ∧ h₀.get? b = none := fun b hb => by
    refine ⟨fun q => ?_, ?_⟩
    · obtain ⟨oL, _, _, hL, _⟩ := F.ns
      obtain ⟨p, hp, q'⟩ := hs _ (new b hb oL (q ▸ hL))
      exact (N p hp).2.1 (q'.trans q)
    · cases q : h₀.get? b with
      | none => rfl
      | some o' =>
        obtain ⟨p, hp, q'⟩ := hs _ (new b hb o' (F.keep _ _ q))
        rw [← q', (N p hp).2.2] at q; cases q
  refine (dk_noteFrame _ _).any (wpAny_looks_onW hfr rfl fly fun h₄ held₄ sm₄ sd₄ => ?_)
  refine (dk_setFlight _ _).any (wpAny_landsW held₄ fun h₅ fl₅ sm₅ sd₅ => ?_)
  have up₅ : ∀ b o, h.get? b = some o → b ∉ as₁ → (∀ vs, o.data ≠ .fields vs) → ∃ sl, h₅.get? b = some { o with slots := sl } := fun b o' h1 h2 h3 => by
    obtain ⟨_, q1⟩ := up b o' h1 h2 h3
    obtain ⟨_, q2⟩ := sm₄ b _ q1 h3
    obtain ⟨_, q3⟩ := sm₅ b _ q2 h3
    exact ⟨_, q3⟩
  have F₅ := fly_fr hf F N hs keep fl₅.1 up₅
  obtain ⟨ob, hob, hobc⟩ := fl₅.there
  refine wpAny_handleBy_cons (codeAny_handlers_test (nameX_K F₅ X T ex ?_ hk hx hd)) (by intro q; cases q)
  have LT : Looks (model prog w) h₅ (typeOf (.ref e)) (.ref 34) := hobc ▸ (Looks.ld hob).andThen .now
  refine (exm_one (X.keeps F₅.keep) LT hx1).at (codeAny_handlers_suite_as ?_)
  refine (dk_setFlight _ _).any (lands_againW fl₅ fun h₆ fl₆ sm₆ sd₆ => ?_)
  have F₆ := fly_fr hf F N hs keep fl₆.1 fun b o' h1 h2 h3 => by
    obtain ⟨_, q1⟩ := up₅ b o' h1 h2 h3
    obtain ⟨_, q3⟩ := sm₆ b _ q1 h3
    exact ⟨_, q3⟩
  obtain ⟨oe, vs, hoe, hoec, hoed, _⟩ := fl₆.first
  have hdict := dict_kept sd₆ hob (dict_kept sd₅ (show h₄.get? e = _ from held₄.there.choose_spec.1) (dict_kept sd₄ ho hod held₄.there.choose_spec.1) hob) hoe
  obtain ⟨oc, odd, odt, osl⟩ := oe
  dsimp only at hoec hoed hdict
  subst hoec hoed hdict
  have N₆ : News h₀ L h₆ ((e, ⟨.ref 34, some dx, .fields vs, osl⟩) :: (dx, od) :: (led₁ ++ rest)) := by
    intro q hq
    rcases List.mem_cons.mp hq with rfl | hq
    · exact ⟨hoe, fresh e (.inl rfl)⟩
    rcases List.mem_cons.mp hq with rfl | hq
    · exact ⟨fl₆.1 _ _ bd, fresh dx (.inr (.inl rfl))⟩
    rcases List.mem_append.mp hq with hq | hq
    · exact ⟨fl₆.1 _ _ (led q hq), fresh q.1 (.inr (.inr ⟨q, hq, rfl⟩))⟩
    · obtain ⟨h1, h2⟩ := hr q hq
      refine ⟨fl₆.1 _ _ (keep _ _ (N q h1).1 h2 fun hm => ?_), (N q h1).2⟩
      simp only [List.filterMap_cons, hf, List.filterMap_nil, List.mem_cons, List.not_mem_nil, or_false] at hm
      exact (N q h1).2.1 hm
  exact storeX_L F₆ N₆ (fun h' F' N' => k h' _ vs osl F' N') hk hlo
end
end
section
noncomputable def RaisableO (E : Value → Shared → Prop) (v : Value) (s₁ : Shared) : Prop :=
  ∃ e dx t nm q N bs hdct sn sub ab col dd k0 k1 k2 k3 k5 newId, v = .ref e ∧ s₁.heap.get? e = some (excO dx t) ∧
    s₁.heap.get? 34 = some (excClassObj nm q 34 N bs [.type "Exception", .type "BaseException", .type "object"] hdct sn sub ab col dd k0 k1 k2 k3 k5 newId) ∧ E (.ref e) s₁
theorem Raise_own {M : Model} {A : Around} {E : Value → Shared → Prop} {s : Shared} {env : Env} {e : Expr} {pos : Pos} {Q : Flow → Shared → Prop} (hh : A.handled = none)
    (h : wpAny M A (eval e env) (RaisableO E) E s) : wpAny M A (exec (.Raise (some e) none pos) env) Q E s := by
  show wpAny M A (do standAt pos; raiseStmt env (some (do let v ← eval e env; standAt pos; pure v)) none) Q E s
  refine wpAny_bind (wpAny_standAt ?_)
  unfold raiseStmt
  dsimp only
  refine wpAny_bind (wpAny_bind (wpAny_mono h (fun v s₁ h₁ => wpAny_bind (wpAny_standAt (wpAny_pure ?_))) fun _ _ x => x))
  obtain ⟨a, dx, t, nm, q, N, bs, hdct, sn, sub, ab, col, dd, k0, k1, k2, k3, k5, newId, rfl, ha, hC, hE⟩ := h₁
  have hcB : (Value.ref 34 :: [.type "Exception", .type "BaseException", .type "object"]).contains (.type "BaseException") = true := by decide +kernel
  obtain ⟨hp, g, d, tk, os⟩ := s₁
  dsimp only at ha hC
  repeat (first | with_reducible refine wpAny_loadPart_at ha ?_ | with_reducible refine wpAny_loadPart_at hC ?_ | (with_reducible refine wpAny_isSubtype_exc hC ?_; rw [hcB]) | wp_step)
  exact wpAny_raiseNew_none hh hE
end
section
section
variable {prog : Program} {w : World} {A : Around} {E : Value → Shared → Prop} {h : Heap} {g : Array GenState} {d : Drawn} {t : Nat} {os : OsState}
theorem sl_index : typeLookup (.type "slice") "__index__" = pure none := by rw [typeLookup_type, builtinLookup_eq_fast]; kernel_rfl
theorem int_index : typeLookup (.type "int") "__index__" = pure (some (.builtin "int.__index__")) := by rw [typeLookup_type, builtinLookup_eq_fast]; kernel_rfl
theorem neg2_arr (pre : List Value) (v1 v2 x : Value) : (((pre ++ [v1, v2]).toArray.extract 0 (max 0 (min (if (-2 : Int) < 0 then -2 + (((pre ++ [v1, v2]).toArray.size : Nat) : Int) else -2) (((pre ++ [v1, v2]).toArray.size : Nat) : Int))).toNat ++ #[x]) ++
    (pre ++ [v1, v2]).toArray.extract (max (max 0 (min (if (-2 : Int) < 0 then -2 + (((pre ++ [v1, v2]).toArray.size : Nat) : Int) else -2) (((pre ++ [v1, v2]).toArray.size : Nat) : Int))) (if (1 : Int) > 0 then (((pre ++ [v1, v2]).toArray.size : Nat) : Int) else -1)).toNat) = (pre ++ [x]).toArray := by
  have hs : (pre ++ [v1, v2]).toArray.size = pre.length + 2 := by simp
  rw [hs, if_pos (by decide), if_pos (by decide)]
  rw [show (max 0 (min (-2 + ((pre.length + 2 : Nat) : Int)) ((pre.length + 2 : Nat) : Int))).toNat = pre.length by omega,
    show (max (max 0 (min (-2 + ((pre.length + 2 : Nat) : Int)) ((pre.length + 2 : Nat) : Int))) ((pre.length + 2 : Nat) : Int)).toNat = pre.length + 2 by omega]
  apply Array.toList_inj.mp
  simp
theorem set_neg2_run {wt sl l' : Addr} {tk : Tok} {x v1 v2 : Value} {pre : List Value} {u u2 : Nat} {Q : PySem.Fin → Shared → Prop} (hw : h.get? wt = some (listOf (pre ++ [v1, v2]).toArray u)) (hs : h.get? sl = some { cls := .type "slice", data := .fields #[.int (-2) tk, .none, .none] })
    (hl : h.get? l' = some (listOf #[x] u2)) (hne : (wt == l') = false) (hz : pre.length ≤ 100)
    (hq : ∀ h' u', Heap.SameBut wt h h' → h'.get? wt = some (listOf (pre ++ [x]).toArray u') → Q (.done (.ret .none)) ⟨h', g, d, t, os⟩) :
    wpAny (model prog w) A (Builtin.«list.__setitem__» ⟨[.ref wt, .ref sl, .ref l'], []⟩) Q E ⟨h, g, d, t, os⟩ := by
  have hi := sl_index
  have hj := int_index
  have hsr : Builtin.List.listSameRef (Value.ref wt) (Value.ref l') = false := hne
  have hlt : Builtin.List.listTooLong ((pre ++ [v1, v2]).toArray.size + #[x].size) = false := by
    unfold Builtin.List.listTooLong
    simp only [List.size_toArray, List.length_append, List.length_cons, List.length_nil, decide_eq_false_iff_not, sizeLine_eq]
    omega
  have na := neg2_arr pre v1 v2 x
  unfold Builtin.«list.__setitem__»
  repeat (any_goals (first | assumption | (with_reducible refine wpAny_loadPart_at hs ?_) | (with_reducible refine wpAny_loadPart_at hl ?_) | (with_reducible refine wpAny_loadPart_at hw ?_) | (with_reducible refine wpAny_of_eq hj ?_) | wp_step | (simp only [hsr, hlt, Bool.false_eq_true, if_false])))
  have key : ∀ F : Array Value → Array Value, F (pre ++ [v1, v2]).toArray = (pre ++ [x]).toArray → ∃ un, Obj.mapSeq F (listOf (pre ++ [v1, v2]).toArray u) = listOf (pre ++ [x]).toArray un := fun F hF => by
    refine ⟨if (pre ++ [x]).toArray.size == (pre ++ [v1, v2]).toArray.size then u else u + 1, ?_⟩
    simp only [Obj.mapSeq, W.listOf, hF]
  generalize hF : (fun xs : Array Value => xs.extract 0 (max 0 (min (if (-2 : Int) < 0 then -2 + (((pre ++ [v1, v2]).toArray.size : Nat) : Int) else -2) (((pre ++ [v1, v2]).toArray.size : Nat) : Int))).toNat ++ #[x] ++
    xs.extract (max (max 0 (min (if (-2 : Int) < 0 then -2 + (((pre ++ [v1, v2]).toArray.size : Nat) : Int) else -2) (((pre ++ [v1, v2]).toArray.size : Nat) : Int))) (if (1 : Int) > 0 then (((pre ++ [v1, v2]).toArray.size : Nat) : Int) else -1)).toNat) = F
  have hFw : F (pre ++ [v1, v2]).toArray = (pre ++ [x]).toArray := by rw [← hF]; exact na
  obtain ⟨un, hun⟩ := key F hFw
  have hpl : (W.listOf (pre ++ [x]).toArray un).data.pastItsLine = none := by
    show Data.pastItsLine (.seq _ _) = none
    unfold Data.pastItsLine
    simp only [List.size_toArray, List.length_append, List.length_cons, List.length_nil, sizeLine_eq]
    rw [if_neg (by omega)]
  have hw' := Heap.get?_update_self (Obj.mapSeq F) hw (by rw [hun]; rfl)
  rw [hun, hpl]
  refine wpAny_pure ?_
  repeat wp_step
  exact hq _ un ⟨Heap.size_update _ _ _, fun b hb => Heap.get?_update_other _ _ (Ne.symm hb)⟩ (hw'.trans (congrArg some hun))
end
theorem setItem_neg2 {prog : Program} {w : World} {A : Around} {E : Value → Shared → Prop} {hh : Heap} {g : Array GenState} {d : Drawn} {t : Nat} {os : OsState} {h₀ : Heap} {L : Addr} {m : Str → Option Value} {news rest : List (Addr × Obj)}
    {wt l' : Addr} {tk : Tok} {x v1 v2 : Value} {pre : List Value} {u u2 : Nat} {Q : Unit → Shared → Prop} (F : Fr h₀ L hh m) (N : News h₀ L hh news) (hw : (wt, W.listOf (pre ++ [v1, v2]).toArray u) ∈ news) (hl : (l', W.listOf #[x] u2) ∈ news) (hne : (wt == l') = false) (hz : pre.length ≤ 100)
    (hr : Rest [(wt, W.listOf (pre ++ [v1, v2]).toArray u)] news rest)
    (hq : ∀ h' u', Fr h₀ L h' m → News h₀ L h' ((wt, W.listOf (pre ++ [x]).toArray u') :: rest) → Q () ⟨h', g, d, t, os⟩) :
    wpAny (model prog w) A (setItem (.ref wt) (.ref hh.objs.size) (.ref l')) Q E ⟨hh.push { cls := .type "slice", data := .fields #[.int (-2) tk, .none, .none] }, g, d, t, os⟩ := by
  have hw0 := Heap.get?_push_of_some { cls := .type "slice", data := .fields #[.int (-2) tk, .none, .none] } (N _ hw).1
  have hl0 := Heap.get?_push_of_some { cls := .type "slice", data := .fields #[.int (-2) tk, .none, .none] } (N _ hl).1
  have hs0 : (hh.push { cls := .type "slice", data := .fields #[.int (-2) tk, .none, .none] }).get? hh.objs.size = some { cls := .type "slice", data := .fields #[.int (-2) tk, .none, .none] } := Heap.get?_push_at rfl rfl
  have F0 := F.push { cls := .type "slice", data := .fields #[.int (-2) tk, .none, .none] }
  have hT : (⟨hh.push { cls := .type "slice", data := .fields #[.int (-2) tk, .none, .none] }, g, d, t, os⟩ : Shared).TypeIs (.ref wt) "list" := ⟨_, hw0, rfl⟩
  have hlk := PySem.F.slot_list_setitem.lookup
  unfold setItem sequenceKey
  repeat (any_goals (first | assumption | (with_reducible refine wpAny_loadPart_at hw0 ?_) | (with_reducible refine wpAny_callSpecial?_slot hT PySem.F.slot_list_setitem ?_) | wp_step))
  refine codeAny_call_builtin PySem.F.slot_list_setitem.plain PySem.F.entry_list_setitem (PySem.F.slot_list_setitem.check _ _ _ _ _ _ _ _ hT (PySem.F.args_list_setitem_3 _ _ _) (set_neg2_run hw0 hs0 hl0 hne hz fun h' u' sb ho => ?_))
  refine wpAny_pure (hq h' u' (F0.change sb (N _ hw).2.1 (N _ hw).2.2) fun p hp => ?_)
  rcases List.mem_cons.mp hp with rfl | hp
  · exact ⟨ho, (N _ hw).2⟩
  · obtain ⟨h1, h2⟩ := hr.mem p hp
    exact ⟨(sb.2 _ (Ne.symm (h2 _ (.head _)))).trans (Heap.get?_push_of_some _ (N p h1).1), (N p h1).2⟩
end
section
section
variable {prog : Program} {w : World} {A : Around} {E : Value → Shared → Prop} {s : Shared} {h₀ : Heap} {L : Addr} {m : Str → Option Value} {news : List (Addr × Obj)}
theorem list_sort_one {a : Addr} {x : Value} {n : Nat} {P : PySem.Fin → Shared → Prop} (ho : s.heap.get? a = some (seqObj "list" #[x] n))
    (h : ∀ c2 h', (∀ b o, b ≠ a → s.heap.get? b = some o → h'.get? b = some o) → h'.get? a = some (seqObj "list" #[x] c2) → P (.done (.ret .none)) { s with heap := h' }) :
    wpAny (model prog w) A (Builtin.«list.sort» ⟨[.ref a], []⟩) P E s := by
  have ha : a < s.heap.objs.size := Heap.lt_size ho
  obtain ⟨e1, ho1⟩ : ∃ e1, (s.heap.update a (Obj.mapSeq fun _ => (#[] : Array Value))).get? a = some (seqObj "list" #[] e1) := ⟨_, get?_update_seq ho fun _ => #[]⟩
  have ho3 : (((s.heap.update a (Obj.mapSeq fun _ => (#[] : Array Value))).push (seqObj "tuple" #[x] 0)).push (seqObj "list" #[] 0)).get? a = some (seqObj "list" #[] e1) := Heap.get?_push_of_some _ (Heap.get?_push_of_some _ ho1)
  rw [list_sort_plain]
  refine wpAny_bind (listItems_at ho rfl ?_)
  refine wpAny_bind (listUpdate_at ho rfl ?_ (Nat.le_of_ble_eq_true rfl) (Nat.zero_le _))
  refine wpAny_bind (seqEpoch_at ho1 rfl ?_)
  refine wpAny_bind (wpAny_newTuple ?_ (Nat.le_of_ble_eq_true rfl))
  refine wpAny_bind (wpAny_newList ?_ (Nat.zero_le _))
  refine wpAny_holding ?_
  dsimp only
  have hlt : (#[x] : Array Value).size < 2 := Nat.lt_succ_self 1
  rw [if_pos hlt, if_pos hlt]
  refine wpAny_bind (wpAny_pure ?_)
  refine wpAny_bind (wpAny_pure ?_)
  show wpAny (model prog w) A _ P E { s with heap := ((s.heap.update a (Obj.mapSeq fun _ => (#[] : Array Value))).push (seqObj "tuple" #[x] 0)).push (seqObj "list" #[] 0) }
  dsimp only
  refine wpAny_bind (seqEpoch_at ho3 rfl ?_)
  have hout : Array.map (fun p : Value × Value => p.2) (arrOf (SortSt.mk' general' ((#[x] : Array Value).zip #[x]) #[] 7 none)) = #[x] := by
    first | rfl | (simp [arrOf, SortSt.mk']; done) | (unfold arrOf SortSt.mk'; simp)
  rw [hout]
  refine wpAny_bind (listUpdate_at ho3 rfl ?_ (Nat.zero_le _) (Nat.le_of_ble_eq_true rfl))
  obtain ⟨c2, hc2⟩ : ∃ c2, ((((s.heap.update a (Obj.mapSeq fun _ => (#[] : Array Value))).push (seqObj "tuple" #[x] 0)).push (seqObj "list" #[] 0)).update a (Obj.mapSeq fun _ => (#[x] : Array Value))).get? a = some (seqObj "list" #[x] c2) := ⟨_, get?_update_seq ho3 fun _ => #[x]⟩
  simp only [bne_self_eq_false, Bool.false_eq_true, if_false]
  exact wpAny_pure (h c2 _ (fun b o hb e => (Heap.get?_update_ne _ _ _ _ hb).trans (Heap.get?_push_of_some _ (Heap.get?_push_of_some _ ((Heap.get?_update_ne _ _ _ _ hb).trans e)))) hc2)
theorem sorted_one {l : Addr} {x : Value} {Q : Value → Shared → Prop} (F : Fr h₀ L s.heap m) (N : News h₀ L s.heap news) (hl : s.heap.IsList l #[x])
    (h : ∀ D c h', Fr h₀ L h' m → News h₀ L h' ((D, W.listOf #[x] c) :: news) → (∀ q ∈ news, q.1 < D) → Q (.ref D) { s with heap := h' }) :
    wpAny (model prog w) A (call (.builtin "sorted") [.ref l]) Q E s := by
  refine Calls.call_function_entry kind_sorted plain_sorted entry_sorted (args_sorted1 _) ?_
  unfold Builtin.«sorted»
  refine wpAny_bind (m := checkCount "sorted" 1 1 _) (wpAny_pure ?_)
  refine wpAny_bind (collect_list (vs := [x]) hl ?_ (Nat.le_of_ble_eq_true rfl))
  refine wpAny_bind (wpAny_newList ?_ (Nat.le_of_ble_eq_true rfl))
  have hsz : ((s.heap.push (seqObj "list" #[] 0)).update s.heap.objs.size (Obj.mapSeq (· ++ #[x]))).objs.size = s.heap.objs.size + 1 := by
    rw [Heap.size_update, size_push']
  have hoL : (((s.heap.push (seqObj "list" #[] 0)).update s.heap.objs.size (Obj.mapSeq (· ++ #[x]))).push (seqObj "list" #[x] 0)).get? (s.heap.objs.size + 1) = some (seqObj "list" #[x] 0) := by
    rw [← hsz]; exact Heap.get?_push_size _ rfl
  have keep : ∀ b o, s.heap.get? b = some o → (((s.heap.push (seqObj "list" #[] 0)).update s.heap.objs.size (Obj.mapSeq (· ++ #[x]))).push (seqObj "list" #[x] 0)).get? b = some o := fun b o q => by
    have hlt : b < s.heap.objs.size := Heap.lt_size q
    rw [Heap.get?_push_ne _ _ _ (by rw [hsz]; exact Nat.ne_of_lt (Nat.lt_succ_of_lt hlt)), Heap.get?_update_ne _ _ _ _ (Nat.ne_of_lt hlt), Heap.get?_push_ne _ _ _ (Nat.ne_of_lt hlt)]
    exact q
  have hL : L < s.heap.objs.size := F.ns.lt
  show wpAny _ _ _ _ _ { s with heap := ((s.heap.push (seqObj "list" #[] 0)).update s.heap.objs.size (Obj.mapSeq (· ++ #[x]))).push (seqObj "list" #[x] 0) }
  rw [hsz]
  refine wpAny_bind (wpAny_holding (wpAny_call_entry slot_list_sort ⟨_, hoL, rfl⟩ entry_list_sort ?body (args_list_sort _)))
  case body =>
    refine list_sort_one hoL fun c2 h' k1 k2 => ⟨_, rfl, wpAny_pure ⟨_, rfl, ?_⟩⟩
    have up : ∀ b o, s.heap.get? b = some o → h'.get? b = some o := fun b o e => k1 b o (Nat.ne_of_lt (Nat.lt_succ_of_lt (Heap.lt_size e))) (keep b o e)
    refine h _ c2 h' (F.kept up) (fun p hp => ?_) fun q hq => Nat.lt_succ_of_lt (Heap.lt_size (N q hq).1)
    rcases List.mem_cons.mp hp with rfl | hp
    · exact ⟨k2, Nat.ne_of_gt (Nat.lt_succ_of_lt hL), Heap.get?_none_of_le (Nat.le_trans F.above (Nat.le_succ_of_le (Nat.le_of_lt hL)))⟩
    · exact N.grown up p hp
end
end
section
section
variable {prog : Program} {w : World} {A : Around} {E : Value → Shared → Prop} {h : Heap} {g : Array GenState} {d : Drawn} {t : Nat} {os : OsState}
  {nm q : Str} {C N : Addr} {bs : List Value} {hdct : Bool} {sn : List Str} {sub : List Value} {ab : Bool} {col : Option Bool} {dd : Option Addr} {k0 k1 k2 k3 k5 : Option Value} {newId : String} {mN : Str → Option Value}
theorem x_ga : typeLookup (.type "Exception") "__getattribute__" = pure (some (.builtin "BaseException.__getattribute__")) := by rw [typeLookup_type, builtinLookup_eq_fast]; kernel_rfl
theorem x_hook : typeLookup (.type "Exception") "__getattr__" = pure none := by rw [typeLookup_type, builtinLookup_eq_fast]; kernel_rfl
theorem x_code : typeLookup (.type "Exception") (Str.ofString "code") = pure none := by rw [typeLookup_type, builtinLookup_eq_fast]; kernel_rfl
theorem x_mro : mroOf (.type "Exception") = pure [.type "Exception", .type "BaseException", .type "object"] := by kernel_rfl
theorem x_check {M : Model} {e : Addr} {o : Obj} {nameV : Value} {Q : Unit → Shared → Prop} (hC : h.get? C = some (excClassObj nm q C N bs [.type "Exception", .type "BaseException", .type "object"] true sn sub ab col dd k0 k1 k2 k3 k5 newId))
    (hx : h.get? e = some o) (hc : o.cls = .ref C) (hq : Q () ⟨h, g, d, t, os⟩) : wpAny M A (checkBuiltinCall "BaseException.__getattribute__" ⟨[.ref e, nameV], []⟩) Q E ⟨h, g, d, t, os⟩ := by
  have hk : builtinKind "BaseException.__getattribute__" = some .slot := by decide +kernel
  have hsplit : splitId "BaseException.__getattribute__" = some ("BaseException", "__getattribute__") := by decide +kernel
  have hcB : (Value.ref C :: [.type "Exception", .type "BaseException", .type "object"]).contains (.type "BaseException") = true := by rw [List.contains_cons, show ([.type "Exception", .type "BaseException", .type "object"] : List Value).contains (.type "BaseException") = true from by decide +kernel, Bool.or_true]
  have ha := F.args_bexc_ga (.ref e) nameV
  simp only [checkBuiltinCall, hk, hsplit]
  refine wpAny_bind ?_
  unfold isInstance
  repeat (first | (with_reducible refine wpAny_loadPart_at hx ?_; rw [hc]) | (with_reducible refine wpAny_isSubtype_exc hC ?_; rw [hcB]) | wp_step)
  exact hq
theorem code_get {e dx : Addr} {vs : Array Value} {sl : Array (Option Value)} {h1 h2 : Int} {kc kt tc : Tok} {x : Str} {l : Value} {expr : Bool} {Q : Value → Shared → Prop}
    (hC : h.get? C = some (excClassObj nm q C N bs [.type "Exception", .type "BaseException", .type "object"] true sn sub ab col dd k0 k1 k2 k3 k5 newId)) (hN : h.Ns N mN) (n1 : mN "__getattribute__" = none) (n2 : mN "__getattr__" = none) (n3 : mN (Str.ofString "code") = none)
    (hx : h.get? e = some ⟨.ref C, some dx, .fields vs, sl⟩) (hd : h.get? dx = some (excD h1 h2 kc kt (.str x tc) l)) (hq : Q (.str x tc) ⟨h, g, d, t + 1, os⟩) :
    wpAny (model prog w) A (getAttr (.ref e) (Str.ofString "code") expr) Q E ⟨h, g, d, t, os⟩ := by
  have s1 : Slot "Exception" "__getattribute__" "BaseException.__getattribute__" := .of (owner := "BaseException") (n := "__getattribute__") x_ga (by decide +kernel) (by decide +kernel) (by decide +kernel)
    (by first | exact .inl (by decide +kernel) | exact .inr (by decide +kernel)) (by rw [isSubtype_type]; kernel_rfl)
  have f3 := s1.bind (.ref e)
  have hx0 : (expr && onTheHeap (Value.builtin "BaseException.__getattribute__")) = false := by cases expr <;> rfl
  have hx2 : (Value.builtin "BaseException.__getattribute__" == Value.builtin "object.__getattribute__") = false := by decide +kernel
  have hx1 : (onTheHeap (Value.ref C) && Value.builtin "BaseException.__getattribute__" == Value.builtin "object.__getattribute__") = false := by rw [hx2]; rfl
  unfold getAttr
  repeat (any_goals (first | assumption | (with_reducible refine wpAny_loadPart_at hx ?_) | (with_reducible refine wpAny_typeLookup_exc hC hN x_mro x_ga ?_; rw [n1]) | (with_reducible refine wpAny_typeLookup_exc hC hN x_mro x_hook ?_; rw [n2]) | wp_step))
  refine codeAny_call_builtin s1.plain F.entry_bexc_ga (x_check hC hx rfl ?_)
  show wpAny _ _ (Builtin.«object.__getattribute__» ⟨[.ref e, .str (Str.ofString "code") t], []⟩) _ _ _
  unfold Builtin.«object.__getattribute__»
  repeat (any_goals (first | assumption | (with_reducible refine wpAny_loadPart_at hx ?_) | (with_reducible refine wpAny_loadPart_at hd ?_) | (with_reducible refine wpAny_typeLookup_exc hC hN x_mro x_code ?_; rw [n3]) | wp_step))
end
end
section
/- a small language of words that compute: values, objects, a store, results -/
inductive V | u | n (i : Nat) | b (x : Bool) | o | s (l : List Nat) | r (k : Nat)
inductive O | lst (l : List V) | tup (l : List V) | ins (d : Nat) | dct (l : List V) | ed | cel (v : V) | raw
inductive Tr | lf | nd (l : Tr) (o : O) (r : Tr)
/-- the store: trees by the bits of the place, each from its base on, the newest first -/
inductive T | lf | sg (b : Nat) (t : Tr) (r : T)
inductive St | mk (nx : Nat) (ob : T) (pn : List Nat)
inductive R | v (x : V) (s : St) | nx (m : List V) (s : St) | rt (x : V) (s : St) | ec (s : St) | ch (n : Nat) (k : Nat → R) | bad
abbrev Cl := Nat → List V → St → R
abbrev Wd := Cl → List V → St → R

noncomputable section
noncomputable def bnd (r : R) (k : V → St → R) : R := R.rec (motive := fun _ => R) (fun x s => k x s) (fun _ _ => .bad) (fun _ _ => .bad) (fun s => .ec s) (fun n _ ih => .ch n ih) .bad r
noncomputable def bnds (r : R) (k : List V → St → R) : R := R.rec (motive := fun _ => R) (fun _ _ => .bad) (fun m s => k m s) (fun x s => .rt x s) (fun s => .ec s) (fun n _ ih => .ch n ih) .bad r
noncomputable def ifB (b : Bool) (x y : R) : R := Bool.rec y x b
noncomputable def ntB (b : Bool) : Bool := Bool.rec true false b
noncomputable def isInt (v : V) (k : Nat → R) : R := V.rec (motive := fun _ => R) .bad k (fun _ => .bad) .bad (fun _ => .bad) (fun _ => .bad) v
noncomputable def isRef (v : V) (k : Nat → R) : R := V.rec (motive := fun _ => R) .bad (fun _ => .bad) (fun _ => .bad) .bad (fun _ => .bad) k v
noncomputable def isB (v : V) (k : Bool → R) : R := V.rec (motive := fun _ => R) .bad (fun _ => .bad) k .bad (fun _ => .bad) (fun _ => .bad) v
noncomputable def isS (v : V) (k : List Nat → R) : R := V.rec (motive := fun _ => R) .bad (fun _ => .bad) (fun _ => .bad) .bad k (fun _ => .bad) v
noncomputable def notU (v : V) (k : R) : R := V.rec (motive := fun _ => R) .bad (fun _ => k) (fun _ => k) k (fun _ => k) (fun _ => k) v
/-- none or a reference: is it none? -/
noncomputable def isNon (v : V) (k : Bool → R) : R := V.rec (motive := fun _ => R) .bad (fun _ => .bad) (fun _ => .bad) (k true) (fun _ => .bad) (fun _ => k false) v
noncomputable def getL {α : Type} (l : List α) : Nat → (α → R) → R := List.rec (motive := fun _ => Nat → (α → R) → R) (fun _ _ => .bad) (fun x _ ih n k => Nat.rec (motive := fun _ => R) (k x) (fun m _ => ih m k) n) l
noncomputable def setL {α : Type} (l : List α) : Nat → α → List α := List.rec (motive := fun _ => Nat → α → List α) (fun _ _ => []) (fun x l ih n y => Nat.rec (motive := fun _ => List α) (y :: l) (fun m _ => x :: ih m y) n) l
noncomputable def par (k : Nat) : Bool := Nat.beq (Nat.mod k 2) 0
noncomputable def lookT (t : Tr) : Nat → Option O := Tr.rec (motive := fun _ => Nat → Option O) (fun _ => none) (fun _ o _ il ir n => Nat.rec (motive := fun _ => Option O) (some o) (fun m _ => Bool.rec (ir (Nat.div m 2)) (il (Nat.div m 2)) (par m)) n) t
noncomputable def lookO (t : T) : Nat → Option O := T.rec (motive := fun _ => Nat → Option O) (fun _ => none) (fun b t _ ih k => Bool.rec (ih k) (lookT t (Nat.sub k b)) (Nat.ble b k)) t
noncomputable def look (t : T) (n : Nat) (k : O → R) : R := Option.rec (motive := fun _ => R) .bad k (lookO t n)
noncomputable def updT (t : Tr) : Nat → O → Tr := Tr.rec (motive := fun _ => Nat → O → Tr) (fun n o => Nat.rec (motive := fun _ => Tr) (.nd .lf o .lf) (fun _ _ => .lf) n) (fun l o r il ir n y => Nat.rec (motive := fun _ => Tr) (.nd l y r) (fun m _ => Bool.rec (.nd l o (ir (Nat.div m 2) y)) (.nd (il (Nat.div m 2) y) o r) (par m)) n) t
noncomputable def upd (t : T) : Nat → O → T := T.rec (motive := fun _ => Nat → O → T) (fun _ _ => .lf) (fun b t r ih k o => Bool.rec (.sg b t (ih k o)) (.sg b (updT t (Nat.sub k b) o) r) (Nat.ble b k)) t
noncomputable def frcR (t : Tr) (k : Tr → R) : R := Tr.rec (motive := fun _ => R) (k .lf) (fun l o r _ _ => k (.nd l o r)) t
noncomputable def frcT (t : T) (k : T → R) : R := T.rec (motive := fun _ => R) (k .lf) (fun b t r _ => frcR t fun t => k (.sg b t r)) t
noncomputable def frcN (n : Nat) (k : Nat → R) : R := Nat.rec (motive := fun _ => R) (k 0) (fun m _ => k (m+1)) n
noncomputable def frcL {α : Type} (l : List α) (k : List α → R) : R := List.rec (motive := fun _ => (List α → R) → R) (fun k => k []) (fun x _ ih k => ih fun z => k (x :: z)) l k
noncomputable def onSt (s : St) (k : Nat → T → List Nat → R) : R := St.rec (motive := fun _ => R) k s
noncomputable def lookS (s : St) (a : Nat) (k : O → R) : R := onSt s fun _ t _ => look t a k
noncomputable def newS (s : St) (o : O) : R := onSt s fun nx t pn => frcT (upd t nx o) fun t => frcN (nx+1) fun nx' => .v (.r nx) (.mk nx' t pn)
noncomputable def segS (s : St) (k : St → R) : R := onSt s fun nx t pn => k (.mk nx (.sg nx .lf t) pn)
noncomputable def memN (k : Nat) (l : List Nat) : Bool := List.rec (motive := fun _ => Bool) false (fun x _ ih => Bool.rec ih true (Nat.beq x k)) l
noncomputable def updS (s : St) (a : Nat) (o : O) (k : St → R) : R := onSt s fun nx t pn => ifB (memN a pn) .bad (frcT (upd t a o) fun t => k (.mk nx t pn))
noncomputable def pinS (s : St) (a : Nat) (k : St → R) : R := onSt s fun nx t pn => k (.mk nx t (a :: pn))
noncomputable def unpS (s : St) (k : St → R) : R := onSt s fun nx t pn => List.rec (motive := fun _ => R) .bad (fun _ pn _ => k (.mk nx t pn)) pn
noncomputable def onLst (o : O) (k : List V → R) : R := O.rec (motive := fun _ => R) k (fun _ => .bad) (fun _ => .bad) (fun _ => .bad) .bad (fun _ => .bad) .bad o
noncomputable def onTup (o : O) (k : List V → R) : R := O.rec (motive := fun _ => R) (fun _ => .bad) k (fun _ => .bad) (fun _ => .bad) .bad (fun _ => .bad) .bad o
noncomputable def onDct (o : O) (k : List V → R) : R := O.rec (motive := fun _ => R) (fun _ => .bad) (fun _ => .bad) (fun _ => .bad) k .bad (fun _ => .bad) .bad o
noncomputable def onIns (o : O) (k : Nat → R) : R := O.rec (motive := fun _ => R) (fun _ => .bad) (fun _ => .bad) k (fun _ => .bad) .bad (fun _ => .bad) .bad o
noncomputable def onCel (o : O) (k : V → R) : R := O.rec (motive := fun _ => R) (fun _ => .bad) (fun _ => .bad) (fun _ => .bad) (fun _ => .bad) .bad k .bad o
noncomputable def onEd (o : O) (k : R) : R := O.rec (motive := fun _ => R) (fun _ => .bad) (fun _ => .bad) (fun _ => .bad) (fun _ => .bad) k (fun _ => .bad) .bad o
noncomputable def onRaw (o : O) (k : R) : R := O.rec (motive := fun _ => R) (fun _ => .bad) (fun _ => .bad) (fun _ => .bad) (fun _ => .bad) .bad (fun _ => .bad) k o
noncomputable def lstOf (s : St) (v : V) (k : Nat → List V → R) : R := isRef v fun a => lookS s a fun o => onLst o (k a)
noncomputable def tupOf (s : St) (v : V) (k : Nat → List V → R) : R := isRef v fun a => lookS s a fun o => onTup o (k a)
noncomputable def dctOf (s : St) (v : V) (k : Nat → List V → R) : R := isRef v fun a => lookS s a fun o => onIns o fun d => lookS s d fun o => onDct o fun l => k d l
noncomputable def drp {α : Type} (n : Nat) : List α → List α := Nat.rec (motive := fun _ => List α → List α) (fun l => l) (fun _ ih l => List.rec (motive := fun _ => List α) [] (fun _ l _ => ih l) l) n
noncomputable def tke {α : Type} (n : Nat) : List α → List α := Nat.rec (motive := fun _ => List α → List α) (fun _ => []) (fun _ ih l => List.rec (motive := fun _ => List α) [] (fun x l _ => x :: ih l) l) n
noncomputable def lnL {α : Type} (l : List α) : Nat := List.rec (motive := fun _ => Nat) 0 (fun _ _ ih => Nat.succ ih) l
noncomputable def apl {α : Type} (l l' : List α) : List α := List.rec (motive := fun _ => List α) l' (fun x _ ih => x :: ih) l
/-- a list of no more than 1000 -/
noncomputable def lim {α : Type} (l : List α) (k : R) : R := ifB (Nat.ble (lnL l) 1000) k .bad
end
theorem frcN_eq (n : Nat) (k : Nat → R) : frcN n k = k n := by cases n <;> rfl
theorem frcR_eq (t : Tr) (k : Tr → R) : frcR t k = k t := by cases t <;> rfl
theorem frcT_eq (t : T) (k : T → R) : frcT t k = k t := by cases t with | lf => rfl | sg b t r => exact frcR_eq t fun t => k (.sg b t r)
theorem frcL_eq {α : Type} (l : List α) : ∀ k : List α → R, frcL l k = k l := by
  induction l with
  | nil => exact fun _ => rfl
  | cons x l ih => exact fun k => ih fun z => k (x :: z)
theorem setL_eq {α : Type} (l : List α) : ∀ (n : Nat) (y : α), setL l n y = l.set n y := by
  induction l with
  | nil => exact fun _ _ => rfl
  | cons x l ih => intro n y; cases n with | zero => rfl | succ n => exact congrArg (x :: ·) (ih n y)
theorem lnL_eq {α : Type} (l : List α) : lnL l = l.length := by
  induction l with
  | nil => rfl
  | cons x l ih => exact congrArg Nat.succ ih
theorem apl_eq {α : Type} (l l' : List α) : apl l l' = l ++ l' := by
  induction l with
  | nil => rfl
  | cons x l ih => exact congrArg (x :: ·) ih
theorem drp_eq {α : Type} (n : Nat) : ∀ l : List α, drp n l = l.drop n := by
  induction n with
  | zero => exact fun _ => rfl
  | succ n ih => intro l; cases l with | nil => rfl | cons x l => exact ih l
theorem tke_eq {α : Type} (n : Nat) : ∀ l : List α, tke n l = l.take n := by
  induction n with
  | zero => exact fun _ => rfl
  | succ n ih => intro l; cases l with | nil => rfl | cons x l => exact congrArg (x :: ·) (ih l)
theorem memN_false {k : Nat} : ∀ {l : List Nat}, memN k l = false → k ∉ l
  | [], _ => List.not_mem_nil
  | x :: l, h => by
    have e : memN k (x :: l) = Bool.rec (memN k l) true (Nat.beq x k) := rfl
    rw [e] at h
    cases hb : Nat.beq x k with
    | true => rw [hb] at h; cases h
    | false =>
      rw [hb] at h
      intro hm
      rcases List.mem_cons.mp hm with rfl | hm
      · rw [show Nat.beq k k = true from Nat.beq_refl k] at hb; cases hb
      · exact memN_false h hm
theorem par_odd {m : Nat} (h : par m = false) : m % 2 = 1 := by
  unfold par at h
  have : m % 2 ≠ 0 := fun e => by rw [show Nat.mod m 2 = 0 from e] at h; cases h
  omega
theorem par_even {m : Nat} (h : par m = true) : m % 2 = 0 := Nat.eq_of_beq_eq_true h
theorem lookT_s (l r : Tr) (o : O) (m : Nat) : lookT (.nd l o r) (m + 1) = Bool.rec (lookT r (Nat.div m 2)) (lookT l (Nat.div m 2)) (par m) := rfl
theorem updT_s (l r : Tr) (o y : O) (m : Nat) : updT (.nd l o r) (m + 1) y = Bool.rec (.nd l o (updT r (Nat.div m 2) y)) (.nd (updT l (Nat.div m 2) y) o r) (par m) := rfl
theorem par_inj {m m' : Nat} (h : par m = par m') (e : Nat.div m 2 = Nat.div m' 2) : m = m' := by
  have e' : m / 2 = m' / 2 := e
  cases h1 : par m with
  | false => have a := par_odd h1; have b := par_odd (h ▸ h1); omega
  | true => have a := par_even h1; have b := par_even (h ▸ h1); omega
theorem lookT_upd (t : Tr) : ∀ (k : Nat) (o : O) (k' : Nat) (o2 : O), lookT (updT t k o) k' = some o2 → (k' = k ∧ o2 = o) ∨ (k' ≠ k ∧ lookT t k' = some o2) := by
  induction t with
  | lf =>
    intro k o k' o2 h
    cases k with
    | zero =>
      cases k' with
      | zero => exact .inl ⟨rfl, (Option.some.inj h).symm⟩
      | succ m => rw [show updT .lf 0 o = .nd .lf o .lf from rfl, lookT_s] at h; cases hp : par m <;> rw [hp] at h <;> exact nomatch (show (none : Option O) = some o2 from h)
    | succ m => exact nomatch (show (none : Option O) = some o2 from h)
  | nd l x r il ir =>
    intro k o k' o2 h
    cases k with
    | zero =>
      cases k' with
      | zero => exact .inl ⟨rfl, (Option.some.inj h).symm⟩
      | succ m => exact .inr ⟨Nat.succ_ne_zero _, h⟩
    | succ m =>
      rw [updT_s] at h
      cases k' with
      | zero => refine .inr ⟨fun e => (by cases e), ?_⟩; cases hp : par m <;> rw [hp] at h <;> exact h
      | succ m' =>
        cases hp : par m <;> rw [hp] at h <;> dsimp only at h <;> rw [lookT_s] at h ⊢ <;> cases hp' : par m' <;> rw [hp'] at h <;> dsimp only at h ⊢
        · rcases ir _ _ _ _ h with ⟨a, b⟩ | ⟨a, b⟩
          · exact .inl ⟨congrArg Nat.succ (par_inj (hp'.trans hp.symm) a), b⟩
          · exact .inr ⟨fun e => a (by cases e; rfl), b⟩
        · exact .inr ⟨fun e => (by cases e; rw [hp] at hp'; cases hp'), h⟩
        · exact .inr ⟨fun e => (by cases e; rw [hp] at hp'; cases hp'), h⟩
        · rcases il _ _ _ _ h with ⟨a, b⟩ | ⟨a, b⟩
          · exact .inl ⟨congrArg Nat.succ (par_inj (hp'.trans hp.symm) a), b⟩
          · exact .inr ⟨fun e => a (by cases e; rfl), b⟩
theorem lookO_sg (b : Nat) (t : Tr) (r : T) (k : Nat) : lookO (.sg b t r) k = Bool.rec (lookO r k) (lookT t (Nat.sub k b)) (Nat.ble b k) := rfl
theorem upd_sg (b : Nat) (t : Tr) (r : T) (k : Nat) (o : O) : upd (.sg b t r) k o = Bool.rec (.sg b t (upd r k o)) (.sg b (updT t (Nat.sub k b) o) r) (Nat.ble b k) := rfl
theorem lookO_upd (t : T) : ∀ (k : Nat) (o : O) (k' : Nat) (o2 : O), lookO (upd t k o) k' = some o2 → (k' = k ∧ o2 = o) ∨ (k' ≠ k ∧ lookO t k' = some o2) := by
  induction t with
  | lf => exact fun k o k' o2 h => nomatch (show (none : Option O) = some o2 from h)
  | sg b t r ih =>
    intro k o k' o2 h
    rw [upd_sg] at h
    cases hk : Nat.ble b k with
    | true =>
      rw [hk] at h
      dsimp only at h
      rw [lookO_sg] at h ⊢
      cases hk' : Nat.ble b k' with
      | true =>
        rw [hk'] at h
        have h1 := Nat.le_of_ble_eq_true hk
        have h2 := Nat.le_of_ble_eq_true hk'
        rcases lookT_upd _ _ _ _ _ h with ⟨e, e2⟩ | ⟨e, e2⟩
        · exact .inl ⟨(by have : k' - b = k - b := e; omega), e2⟩
        · exact .inr ⟨fun e' => e (by rw [e']), e2⟩
      | false =>
        rw [hk'] at h
        exact .inr ⟨fun e' => (by rw [e', hk] at hk'; cases hk'), h⟩
    | false =>
      rw [hk] at h
      dsimp only at h
      rw [lookO_sg] at h ⊢
      cases hk' : Nat.ble b k' with
      | true =>
        rw [hk'] at h
        exact .inr ⟨fun e' => (by rw [e', hk] at hk'; cases hk'), h⟩
      | false =>
        rw [hk'] at h
        exact ih _ _ _ _ h
theorem newS_eq (nx : Nat) (t : T) (pn : List Nat) (o : O) : newS (.mk nx t pn) o = .v (.r nx) (.mk (nx+1) (upd t nx o) pn) := by
  show frcT (upd t nx o) (fun t => frcN (nx+1) fun nx' => .v (.r nx) (.mk nx' t pn)) = _
  rw [frcT_eq]
  exact frcN_eq _ _
end
section
section
open KStt
/-- a text of the small language -/
noncomputable def txN (l : List Nat) : Str := ⟨l.toArray⟩
abbrev spV (H : Hk) (v0 v1 v2 v3 v4 v5 v6 v7 : Value) : List DictEntry :=
  [⟨H.h1, .str (Str.ofString "size") H.k1, v0⟩, ⟨H.h2, .str (Str.ofString "octets") H.k2, v1⟩, ⟨H.h3, .str (Str.ofString "low") H.k3, v2⟩, ⟨H.h4, .str (Str.ofString "free") H.k4, v3⟩,
   ⟨H.h5, .str (Str.ofString "held") H.k5, v4⟩, ⟨H.h6, .str (Str.ofString "waiting") H.k6, v5⟩, ⟨H.h7, .str (Str.ofString "most_waiting") H.k7, v6⟩, ⟨H.h8, .str (Str.ofString "collections") H.k8, v7⟩]
/-- a value of the small language stands for a value -/
noncomputable def RV (φ : List Addr) : V → Value → Prop
  | .u, _ => False
  | .n i, v => ∃ t, v = .int (i : Int) t
  | .b x, v => v = .bool x
  | .o, v => v = .none
  | .s l, v => (∀ x ∈ l, x < 128) ∧ l.length ≤ 1000 ∧ ∃ t, v = .str (txN l) t
  | .r k, v => ∃ a, φ[k]? = some a ∧ v = .ref a
inductive RVs (φ : List Addr) : List V → List Value → Prop
  | nil : RVs φ [] []
  | cons {x v xs vs} : RV φ x v → RVs φ xs vs → RVs φ (x :: xs) (v :: vs)
inductive DctR (φ : List Addr) (l : List V) (o : Obj) : Prop
  | mk (H : Hk) (v0 v1 v2 v3 v4 v5 v6 v7 : Value) (e : o = dictOf (spV H v0 v1 v2 v3 v4 v5 v6 v7) 8) (r : RVs φ l [v0, v1, v2, v3, v4, v5, v6, v7])
noncomputable def RO (zs : List Int) (φ : List Addr) : O → Addr × Obj → Prop
  | .lst l, p => ∃ vs u, p.2 = W.listOf (List.toArray vs) u ∧ RVs φ l vs ∧ l.length ≤ 1000
  | .tup l, p => ∃ vs, p.2 = { cls := .type "tuple", data := .seq (List.toArray vs) } ∧ RVs φ l vs ∧ l.length ≤ 1000
  | .ins d, p => ∃ dx, φ[d]? = some dx ∧ p.2 = instObj 54 dx
  | .dct l, p => DctR φ l p.2
  | .ed, p => p.2 = dictOf [] 0 ∧ (p.1 == sysModules) = false
  | .cel .u, p => ∃ x, p.2.data = .cell x
  | .cel v, p => ∃ x, p.2.data = .cell (some x) ∧ RV φ v x
  | .raw, p => ∃ vs u, p.2 = W.listOf (List.toArray vs) u ∧ IntsAre vs zs
theorem pre_get {φ φ' : List Addr} (h : φ <+: φ') {k : Nat} {a : Addr} (e : φ[k]? = some a) : φ'[k]? = some a := by
  obtain ⟨t, rfl⟩ := h
  obtain ⟨hlt, _⟩ := List.getElem?_eq_some_iff.mp e
  rw [List.getElem?_append_left hlt]; exact e
theorem RV.mono {φ φ' : List Addr} (h : φ <+: φ') : ∀ {x : V} {v : Value}, RV φ x v → RV φ' x v
  | .u, _, e => e
  | .n _, _, e => e
  | .b _, _, e => e
  | .o, _, e => e
  | .s _, _, e => e
  | .r _, _, ⟨a, e, e2⟩ => ⟨a, pre_get h e, e2⟩
theorem RVs.mono {φ φ' : List Addr} (h : φ <+: φ') {xs : List V} {vs : List Value} (r : RVs φ xs vs) : RVs φ' xs vs := by
  induction r with
  | nil => exact .nil
  | cons a _ ih => exact .cons (a.mono h) ih
theorem RVs.len {φ : List Addr} {xs : List V} {vs : List Value} (r : RVs φ xs vs) : vs.length = xs.length := by
  induction r with
  | nil => rfl
  | cons _ _ ih => exact congrArg Nat.succ ih
theorem RVs.get {φ : List Addr} {xs : List V} {vs : List Value} (r : RVs φ xs vs) : ∀ {i : Nat} {x : V}, xs[i]? = some x → ∃ v, vs[i]? = some v ∧ RV φ x v := by
  induction r with
  | nil => intro i x h; simp at h
  | cons a _ ih =>
    intro i x h
    cases i with
    | zero => cases h; exact ⟨_, rfl, a⟩
    | succ i => exact ih h
theorem RVs.app {φ : List Addr} {xs ys : List V} {vs ws : List Value} (r : RVs φ xs vs) (q : RVs φ ys ws) : RVs φ (xs ++ ys) (vs ++ ws) := by
  induction r with
  | nil => exact q
  | cons a _ ih => exact .cons a ih
theorem RVs.take {φ : List Addr} {xs : List V} {vs : List Value} (r : RVs φ xs vs) (i : Nat) : RVs φ (xs.take i) (vs.take i) := by
  induction r generalizing i with
  | nil => simp; exact .nil
  | cons a _ ih => cases i with | zero => exact .nil | succ i => exact .cons a (ih i)
theorem RVs.drop {φ : List Addr} {xs : List V} {vs : List Value} (r : RVs φ xs vs) (i : Nat) : RVs φ (xs.drop i) (vs.drop i) := by
  induction r generalizing i with
  | nil => simp; exact .nil
  | cons a r ih => cases i with | zero => exact .cons a r | succ i => exact ih i
theorem RVs.set {φ : List Addr} {xs : List V} {vs : List Value} (r : RVs φ xs vs) {y : V} {w : Value} (h : RV φ y w) (i : Nat) : RVs φ (xs.set i y) (vs.set i w) := by
  induction r generalizing i with
  | nil => exact .nil
  | cons a r ih => cases i with | zero => exact .cons h r | succ i => exact .cons a (ih i)
theorem RVs.one {φ : List Addr} {x : V} {vs : List Value} (r : RVs φ [x] vs) : ∃ v, vs = [v] ∧ RV φ x v := by
  obtain _ | ⟨rx, ⟨⟩⟩ := r
  exact ⟨_, rfl, rx⟩
theorem RVs.two {φ : List Addr} {x y : V} {vs : List Value} (r : RVs φ [x, y] vs) : ∃ v v2, vs = [v, v2] ∧ RV φ x v ∧ RV φ y v2 := by
  obtain _ | ⟨rx, _ | ⟨ry, ⟨⟩⟩⟩ := r
  exact ⟨_, _, rfl, rx, ry⟩
theorem RVs.three {φ : List Addr} {x y z : V} {vs : List Value} (r : RVs φ [x, y, z] vs) : ∃ v v2 v3, vs = [v, v2, v3] ∧ RV φ x v ∧ RV φ y v2 ∧ RV φ z v3 := by
  obtain _ | ⟨rx, _ | ⟨ry, _ | ⟨rz, ⟨⟩⟩⟩⟩ := r
  exact ⟨_, _, _, rfl, rx, ry, rz⟩
theorem RO.mono {zs : List Int} {φ φ' : List Addr} (h : φ <+: φ') : ∀ {o : O} {p : Addr × Obj}, RO zs φ o p → RO zs φ' o p
  | .lst _, _, ⟨vs, u, e, r, z⟩ => ⟨vs, u, e, r.mono h, z⟩
  | .tup _, _, ⟨vs, e, r, z⟩ => ⟨vs, e, r.mono h, z⟩
  | .ins _, _, ⟨dx, e, r⟩ => ⟨dx, pre_get h e, r⟩
  | .dct _, _, ⟨H, v0, v1, v2, v3, v4, v5, v6, v7, e, r⟩ => ⟨H, v0, v1, v2, v3, v4, v5, v6, v7, e, r.mono h⟩
  | .ed, _, e => e
  | .cel .u, _, e => e
  | .cel (.n _), _, ⟨x, e, r⟩ => ⟨x, e, r⟩
  | .cel (.b _), _, ⟨x, e, r⟩ => ⟨x, e, r⟩
  | .cel .o, _, ⟨x, e, r⟩ => ⟨x, e, r⟩
  | .cel (.s _), _, ⟨x, e, r⟩ => ⟨x, e, r⟩
  | .cel (.r _), _, ⟨x, e, r⟩ => ⟨x, e, RV.mono h r⟩
  | .raw, _, e => e
set_option genInjectivity false in
structure Kx where
  dp : Nat
  un : Nat
  gd : Option (List Code)
  cn : Str
  cs : Scope
  a : Addr
  ccd : Value
  cl : List (Str × Addr)
  outer : List Env
  A₀ : Around
  base : Heap
  g : Heap
  L : Addr
  mm : Str → Option Value
  xl : List (Addr × Obj)
  pn : List (Nat × Addr × Obj)
  ev : Env
abbrev Kx.A (K : Kx) : Around := ktrTop K.dp K.un K.gd K.cn K.cs K.L K.a K.ccd K.cl K.outer
abbrev Kx.en (K : Kx) : Env := envX K.cn K.cs K.L K.a K.ccd K.cl
abbrev Kx.wm (K : Kx) (mm : Str → Option Value) : Kx := { K with mm := mm }
/-- the names of a def's scope, or of a block's scope within it: a name, is it a cell, its place -/
abbrev Nms := List (Str × Bool × Nat)
inductive Kp
  | fn (cs : Scope) (nm : Nms)
  | cp (cs : Scope) (sc : Scope) (nm : Nms)
noncomputable def NmOk (nm : Nms) (lf : Str → Option Value) (cf : Str → Option Addr) (m : List V) (φ : List Addr) : Prop :=
  ∀ x i v, m[i]? = some v → (nm.lookup x = some (false, i) → v ≠ .u → ∃ rv, lf x = some rv ∧ RV φ v rv) ∧ (nm.lookup x = some (true, i) → ∀ k, v = .r k → ∃ c, φ[k]? = some c ∧ cf x = some c)
theorem NmOk.mono {nm : Nms} {lf : Str → Option Value} {cf : Str → Option Addr} {m : List V} {φ φ' : List Addr} (h : φ <+: φ') (N : NmOk nm lf cf m φ) : NmOk nm lf cf m φ' := fun x i v hv =>
  ⟨fun e hu => let ⟨rv, a, b⟩ := (N x i v hv).1 e hu; ⟨rv, a, b.mono h⟩, fun e k hk => let ⟨c, a, b⟩ := (N x i v hv).2 e k hk; ⟨c, pre_get h a, b⟩⟩
noncomputable def Kx.Ok (K : Kx) (κ : Kp) (m : List V) (φ : List Addr) : Prop := match κ with
  | .fn cs nm => K.cs = cs ∧ K.ev = K.en ∧ NmOk nm K.mm (fun x => K.cl.lookup x) m φ
  | .cp cs sc nm => K.cs = cs ∧ ∃ clx C oC m₂, K.ev = compEnvC sc clx C K.en ∧ (C, oC) ∈ K.xl ∧ LCg.NsObj oC m₂ ∧ NmOk nm m₂ (fun x => clx.lookup x) m φ
theorem Kx.Ok.mono {K : Kx} {m : List V} {φ φ' : List Addr} (h : φ <+: φ') : ∀ {κ : Kp}, K.Ok κ m φ → K.Ok κ m φ'
  | .fn _ _, ⟨a, b, c⟩ => ⟨a, b, c.mono h⟩
  | .cp _ _ _, ⟨a0, clx, C, oC, m₂, a, b, c, d⟩ => ⟨a0, clx, C, oC, m₂, a, b, c, d.mono h⟩
/-- the store and the ledger -/
structure Kx.Led (K : Kx) (zs : List Int) (φ : List Addr) (σ : St) (led : List (Addr × Obj)) : Prop where
  ad : led.map (·.1) = φ
  nd : φ.Nodup
  xl : ∀ p ∈ K.xl, p.1 ∉ φ
  pn : ∀ q ∈ K.pn, led[q.1]? = some q.2
  ob : ∃ t, σ = .mk φ.length t (K.pn.map (·.1)) ∧ ∀ k o, lookO t k = some o → ∃ p, led[k]? = some p ∧ RO zs φ o p
noncomputable def Kx.Sta (K : Kx) (zs : List Int) (φ : List Addr) (σ : St) (h : Heap) : Prop := Fr K.g K.L h K.mm ∧ ∃ led, K.Led zs φ σ led ∧ News K.g K.L h (K.xl ++ led)
/-- a new object -/
theorem Kx.Led.push {K : Kx} {zs : List Int} {φ : List Addr} {nx : Nat} {t : T} {pn : List Nat} {led : List (Addr × Obj)} {D : Addr} {ob : Obj} {o : O} (Ld : K.Led zs φ (.mk nx t pn) led) (hD : ∀ p ∈ K.xl ++ led, p.1 ≠ D) (r : RO zs (φ ++ [D]) o (D, ob)) :
    K.Led zs (φ ++ [D]) (.mk (nx + 1) (upd t nx o) pn) (led ++ [(D, ob)]) := by
  obtain ⟨ad, nd, xl, pnk, t', e, ob'⟩ := Ld
  cases e
  have hlen : led.length = φ.length := by rw [← ad, List.length_map]
  refine ⟨by simp [ad], ?_, ?_, ?_, upd t φ.length o, ?_, ?_⟩
  · rw [List.nodup_append]
    refine ⟨nd, by simp, ?_⟩
    rintro a ha b hb rfl
    rw [List.mem_singleton.mp hb, ← ad] at ha
    obtain ⟨p, hp, e⟩ := List.mem_map.mp ha
    exact hD p (List.mem_append_right _ hp) e
  · intro p hp hm
    rcases List.mem_append.mp hm with hm | hm
    · exact xl p hp hm
    · exact hD p (List.mem_append_left _ hp) (List.mem_singleton.mp hm)
  · intro q hq
    have h := pnk q hq
    rw [List.getElem?_append_left (List.getElem?_eq_some_iff.mp h).1]; exact h
  · simp only [List.length_append, List.length_cons, List.length_nil]
  · intro k o2 hk
    rcases lookO_upd _ _ _ _ _ hk with ⟨rfl, rfl⟩ | ⟨_, h2⟩
    · exact ⟨(D, ob), by rw [← hlen]; simp, r⟩
    · obtain ⟨p, hp, hr⟩ := ob' _ _ h2
      exact ⟨p, by rw [List.getElem?_append_left (List.getElem?_eq_some_iff.mp hp).1]; exact hp, hr.mono ⟨_, rfl⟩⟩
/-- an object turned -/
theorem Kx.Led.set {K : Kx} {zs : List Int} {φ : List Addr} {nx : Nat} {t : T} {pn : List Nat} {led : List (Addr × Obj)} {k : Nat} {a : Addr} {ob : Obj} {o : O} (Ld : K.Led zs φ (.mk nx t pn) led) (hk : φ[k]? = some a) (hn : memN k pn = false) (r : RO zs φ o (a, ob)) :
    K.Led zs φ (.mk nx (upd t k o) pn) (led.set k (a, ob)) := by
  obtain ⟨ad, nd, xl, pnk, t', e, ob'⟩ := Ld
  cases e
  have hlt : k < led.length := by rw [← ad, List.getElem?_map] at hk; obtain ⟨p, hp, _⟩ := Option.map_eq_some_iff.mp hk; exact (List.getElem?_eq_some_iff.mp hp).1
  refine ⟨?_, nd, xl, ?_, _, rfl, ?_⟩
  · apply List.ext_getElem?
    intro i
    rw [List.map_set, List.getElem?_set, ad]
    by_cases hi : k = i
    · subst hi
      rw [if_pos rfl, hk, if_pos (by rw [← ad, List.length_map]; exact hlt)]
    · rw [if_neg hi]
  · intro q hq
    rw [List.getElem?_set_ne (fun e => memN_false hn (List.mem_map.mpr ⟨q, hq, e.symm⟩))]
    exact pnk q hq
  · intro k' o2 hk'
    rcases lookO_upd _ _ _ _ _ hk' with ⟨rfl, rfl⟩ | ⟨h1, h2⟩
    · exact ⟨(a, ob), by rw [List.getElem?_set_self hlt], r⟩
    · obtain ⟨p, hp, hr⟩ := ob' _ _ h2
      exact ⟨p, by rw [List.getElem?_set_ne (Ne.symm h1)]; exact hp, hr⟩
/-- what a place of the store holds -/
theorem Kx.Led.at {K : Kx} {zs : List Int} {φ : List Addr} {nx : Nat} {t : T} {pn : List Nat} {led : List (Addr × Obj)} {k : Nat} {o : O} (Ld : K.Led zs φ (.mk nx t pn) led) (hk : lookO t k = some o) :
    ∃ a ob, φ[k]? = some a ∧ led[k]? = some (a, ob) ∧ (a, ob) ∈ led ∧ RO zs φ o (a, ob) := by
  obtain ⟨ad, nd, xl, pnk, t', e, ob'⟩ := Ld
  cases e
  obtain ⟨⟨a, ob⟩, hp, hr⟩ := ob' _ _ hk
  exact ⟨a, ob, by rw [← ad, List.getElem?_map, hp]; rfl, hp, List.mem_of_getElem? hp, hr⟩
/-- two places of the store are apart -/
theorem Kx.Led.ne {K : Kx} {zs : List Int} {φ : List Addr} {σ : St} {led : List (Addr × Obj)} {i j : Nat} {a b : Addr} (Ld : K.Led zs φ σ led) (hi : φ[i]? = some a) (hj : φ[j]? = some b) (h : i ≠ j) : a ≠ b := fun e => by
  subst e
  obtain ⟨h1, h2⟩ := List.getElem?_eq_some_iff.mp hi
  obtain ⟨h3, h4⟩ := List.getElem?_eq_some_iff.mp hj
  exact h ((List.getElem_inj Ld.nd).mp (h2.trans h4.symm))
theorem look_eq {t : T} {k : Nat} {f : O → R} : (∃ o, lookO t k = some o ∧ look t k f = f o) ∨ look t k f = .bad := by
  unfold look
  cases lookO t k with
  | none => exact .inr rfl
  | some o => exact .inl ⟨o, rfl, rfl⟩
theorem getL_eq {α : Type} (l : List α) : ∀ (n : Nat) (f : α → R), (∃ x, l[n]? = some x ∧ getL l n f = f x) ∨ getL l n f = .bad := by
  induction l with
  | nil => exact fun _ _ => .inr rfl
  | cons x l ih => intro n f; cases n with | zero => exact .inl ⟨x, rfl, rfl⟩ | succ n => exact ih n f
end
end
section
inductive OsD (od : Obj) : Prop
  | mk (h1 h2 : Int) (kc kt tc : Tok) (l : Value) (eo : od = excD h1 h2 kc kt (.str (Str.ofString "OS") tc) l)
inductive Kx.Fly (K : Kx) (zs : List Int) (φ : List Addr) (σ : St) (e : Addr) (h' : Heap) : Prop
  | mk (h₁ : Heap) (led₁ : List (Addr × Obj)) (B : Heap) (dx : Addr) (od : Obj) (led' : List (Addr × Obj)) (Y : FlyB B (K.en :: K.outer) e dx od ((K.xl ++ led₁).map (·.1)) (K.xl ++ led') h₁ h') (F : Fr K.g K.L h₁ K.mm) (N : News K.g K.L h₁ (K.xl ++ led₁)) (Ld : K.Led zs φ σ led')
    (sh : OsD od)
/-- an exception just made and raised in this frame -/
inductive Kx.Rsd (K : Kx) (zs : List Int) (φ : List Addr) (σ : St) (e : Addr) (h' : Heap) : Prop
  | mk (dx : Addr) (t : Addr) (od : Obj) (led : List (Addr × Obj)) (F : Fr K.g K.L h' K.mm) (Ld : K.Led zs φ σ led) (N : News K.g K.L h' ((e, excO dx t) :: (dx, od) :: (K.xl ++ led))) (hne : e ≠ dx) (hoff : ∀ q ∈ K.xl ++ led, q.1 ≠ e)
    (sh : OsD od)
section
variable (w : World) (mean : ExcName → Option Value) (mg mb : Str → Option Value) (zs : List Int)
structure Kx.Good (K : Kx) (n : Nat) : Prop where
  B : Below K.A₀ K.base K.outer K.g
  X : (Mine.hd.heap_39 w.params).In K.g
  T : Top Mine.hd.view_39 (looseW Mine.hd.view_39 [Str.ofString "BasicError"]) mean mg mb K.g
  k : K.cs.kind = .function
  d : K.dp + n + 8 < recursionLimit
  u : K.un + 8 * n + 64 < cLine
/-- where a value comes out -/
noncomputable def PostV (K : Kx) (φ : List Addr) (s : Shared) (Q E : Value → Shared → Prop) : R → Prop
  | .v x σ' => ∀ φ' h' tk' rv, φ <+: φ' → K.Sta zs φ' σ' h' → RV φ' x rv → Q rv { s with heap := h', toks := tk' }
  | .ec σ' => ∀ φ' h' tk' e, φ <+: φ' → K.Fly zs φ' σ' e h' → E (.ref e) { s with heap := h', toks := tk' }
  | .ch n k => ∀ i, i < n → PostV K φ s Q E (k i)
  | _ => False
/-- where a statement ends -/
noncomputable def PostS (κ : Kp) (K : Kx) (φ : List Addr) (s : Shared) (Q : Flow → Shared → Prop) (E : Value → Shared → Prop) : R → Prop
  | .nx m' σ' => ∀ φ' h' tk' mm', φ <+: φ' → (K.wm mm').Ok κ m' φ' → (K.wm mm').Sta zs φ' σ' h' → Q .next { s with heap := h', toks := tk' }
  | .rt x σ' => ∀ φ' h' tk' mm' rv, φ <+: φ' → (K.wm mm').Sta zs φ' σ' h' → RV φ' x rv → Q (.ret rv) { s with heap := h', toks := tk' }
  | .ec σ' => ∀ φ' h' tk' e mm', φ <+: φ' → (K.wm mm').Fly zs φ' σ' e h' ∨ (K.wm mm').Rsd zs φ' σ' e h' → E (.ref e) { s with heap := h', toks := tk' }
  | .ch n k => ∀ i, i < n → PostS κ K φ s Q E (k i)
  | _ => False
abbrev Mdl : Model := model PySem.Challenge.rw_xm0013_01.row.prog w
noncomputable def CallOk (c : Cl) (n : Nat) : Prop := ∀ f args σ (K : Kx) φ vs s Q E, K.Good w mean mg mb n → K.Sta zs φ σ s.heap → RVs φ args vs → PostV zs K φ s Q E (c f args σ) → wpAny (Mdl w) K.A (call (.ref f) vs) Q E s
noncomputable def ExpS (κ : Kp) (e : Expr) (M : Wd) : Prop := ∀ n c, CallOk w mean mg mb zs c n → ∀ (K : Kx) m φ σ s Q E, K.Good w mean mg mb n → K.Ok κ m φ → K.Sta zs φ σ s.heap → PostV zs K φ s Q E (M c m σ) → wpAny (Mdl w) K.A (eval e K.ev) Q E s
noncomputable def TstS (κ : Kp) (e : Expr) (M : Wd) : Prop := ∀ n c, CallOk w mean mg mb zs c n → ∀ (K : Kx) m φ σ s (Q : Bool → Shared → Prop) E, K.Good w mean mg mb n → K.Ok κ m φ → K.Sta zs φ σ s.heap →
  PostV zs K φ s (fun v s' => match v with | .bool b => Q b s' | _ => False) E (M c m σ) → wpAny (Mdl w) K.A (isTrue e K.ev (eval e K.ev)) Q E s
noncomputable def BinS (o : Operator) (op : V → V → St → R) : Prop := ∀ n (K : Kx), K.Good w mean mg mb n → ∀ φ σ s x y rv rw Q E, K.Sta zs φ σ s.heap → RV φ x rv → RV φ y rw → PostV zs K φ s Q E (op x y σ) → wpAny (Mdl w) K.A (binaryOp o rv rw) Q E s
noncomputable def CmpS (o : CmpOp) (op : V → V → St → R) : Prop := ∀ n (K : Kx), K.Good w mean mg mb n → ∀ φ σ s x y rv rw Q E, K.Sta zs φ σ s.heap → RV φ x rv → RV φ y rw → PostV zs K φ s Q E (op x y σ) → wpAny (Mdl w) K.A (compareOp o rv rw) Q E s
noncomputable def FunS (id : String) (op : List V → St → R) : Prop := ∀ n (K : Kx), K.Good w mean mg mb n → ∀ φ σ s xs vs Q E, K.Sta zs φ σ s.heap → RVs φ xs vs → PostV zs K φ s Q E (op xs σ) → wpAny (Mdl w) K.A (call (.builtin id) vs) Q E s
inductive ArgS (κ : Kp) : List Expr → List Wd → Prop
  | nil : ArgS κ [] []
  | cons {e es W Ws} (hst : ∀ rest env, starEach (e :: rest) env = (false, eval e env) :: starEach rest env) : ExpS w mean mg mb zs κ e W → ArgS κ es Ws → ArgS κ (e :: es) (W :: Ws)
noncomputable def ExcS (κ : Kp) (st : Stmt) (M : Wd) : Prop := ∀ n c, CallOk w mean mg mb zs c n → ∀ (K : Kx) m φ σ s Q E, K.Good w mean mg mb n → K.Ok κ m φ → K.Sta zs φ σ s.heap → PostS zs κ K φ s Q E (M c m σ) → wpAny (Mdl w) K.A (exec st K.ev) Q E s
noncomputable def BdyS (κ : Kp) (l : List Stmt) (M : Wd) : Prop := ∀ n c, CallOk w mean mg mb zs c n → ∀ (K : Kx) m φ σ s Q E, K.Good w mean mg mb n → K.Ok κ m φ → K.Sta zs φ σ s.heap → PostS zs κ K φ s Q E (M c m σ) → wpAny (Mdl w) K.A (execs l K.ev) Q E s
/-- a target that takes a value -/
noncomputable def AsgS (κ : Kp) (t : Expr) (M : V → List V → St → R) : Prop := ∀ n (K : Kx), K.Good w mean mg mb n → ∀ m φ σ s x rv Q E, K.Ok κ m φ → K.Sta zs φ σ s.heap → RV φ x rv → PostS zs κ K φ s Q E (M x m σ) → wpAny (Mdl w) K.A (assign t K.ev rv) (fun _ => Q .next) E s

variable {w mean mg mb zs}
theorem PostV.later {K : Kx} {φ φ' : List Addr} {s : Shared} {Q E : Value → Shared → Prop} {h : Heap} {tk : Tok} (p : φ <+: φ') : ∀ {r : R}, PostV zs K φ s Q E r → PostV zs K φ' { s with heap := h, toks := tk } Q E r
  | .v _ _, P => fun φ'' h' tk' rv p' S r => P φ'' h' tk' rv (p.trans p') S r
  | .ec _, P => fun φ'' h' tk' e p' F => P φ'' h' tk' e (p.trans p') F
  | .ch _ _, P => fun i hi => PostV.later p (P i hi)
  | .nx _ _, P => P
  | .rt _ _, P => P
  | .bad, P => P
theorem PostS.later {κ : Kp} {K : Kx} {φ φ' : List Addr} {s : Shared} {Q : Flow → Shared → Prop} {E : Value → Shared → Prop} {h : Heap} {tk : Tok} (p : φ <+: φ') : ∀ {r : R}, PostS zs κ K φ s Q E r → PostS zs κ K φ' { s with heap := h, toks := tk } Q E r
  | .nx _ _, P => fun φ'' h' tk' mm p' O S => P φ'' h' tk' mm (p.trans p') O S
  | .rt _ _, P => fun φ'' h' tk' mm rv p' S r => P φ'' h' tk' mm rv (p.trans p') S r
  | .ec _, P => fun φ'' h' tk' e mm p' F => P φ'' h' tk' e mm (p.trans p') F
  | .ch _ _, P => fun i hi => PostS.later p (P i hi)
  | .v _ _, P => P
  | .bad, P => P
/-- a step that makes a value, within an expression -/
theorem PostV.bnd {K : Kx} {φ : List Addr} {s : Shared} {Q Q' E : Value → Shared → Prop} {k : V → St → R} : ∀ {r : R}, PostV zs K φ s Q E (bnd r k) →
    (∀ x σ' φ' h' tk' rv, φ <+: φ' → K.Sta zs φ' σ' h' → RV φ' x rv → PostV zs K φ' { s with heap := h', toks := tk' } Q E (k x σ') → Q' rv { s with heap := h', toks := tk' }) → PostV zs K φ s Q' E r
  | .v x σ', P, f => fun φ' h' tk' rv p S r => f x σ' φ' h' tk' rv p S r (PostV.later p P)
  | .ec _, P, _ => P
  | .ch _ _, P, f => fun i hi => PostV.bnd (P i hi) f
  | .nx _ _, P, _ => P
  | .rt _ _, P, _ => P
  | .bad, P, _ => P
/-- a step that makes a value, within a statement -/
theorem PostS.bnd {κ : Kp} {K : Kx} {φ : List Addr} {s : Shared} {Q : Flow → Shared → Prop} {Q' E : Value → Shared → Prop} {k : V → St → R} : ∀ {r : R}, PostS zs κ K φ s Q E (bnd r k) →
    (∀ x σ' φ' h' tk' rv, φ <+: φ' → K.Sta zs φ' σ' h' → RV φ' x rv → PostS zs κ K φ' { s with heap := h', toks := tk' } Q E (k x σ') → Q' rv { s with heap := h', toks := tk' }) → PostV zs K φ s Q' E r
  | .v x σ', P, f => fun φ' h' tk' rv p S r => f x σ' φ' h' tk' rv p S r (PostS.later p P)
  | .ec _, P, _ => fun φ' h' tk' e p F => P φ' h' tk' e K.mm p (.inl F)
  | .ch _ _, P, f => fun i hi => PostS.bnd (P i hi) f
  | .nx _ _, P, _ => P
  | .rt _ _, P, _ => P
  | .bad, P, _ => P
theorem Kx.Good.later {K : Kx} {n : Nat} (G : K.Good w mean mg mb n) (mm : Str → Option Value) : (K.wm mm).Good w mean mg mb n := ⟨G.B, G.X, G.T, G.k, G.d, G.u⟩
theorem PostS.wm {κ : Kp} {K : Kx} {mm : Str → Option Value} {φ : List Addr} {s : Shared} {Q : Flow → Shared → Prop} {E : Value → Shared → Prop} : ∀ {r : R}, PostS zs κ K φ s Q E r → PostS zs κ (K.wm mm) φ s Q E r
  | .nx _ _, P => P
  | .rt _ _, P => P
  | .ec _, P => P
  | .ch _ _, P => fun i hi => PostS.wm (P i hi)
  | .v _ _, P => P
  | .bad, P => P
/-- an operand -/
theorem ExpS.bnd {κ : Kp} {e : Expr} {M : Wd} {n : Nat} {c : Cl} {K : Kx} {m : List V} {φ : List Addr} {σ : St} {s : Shared} {Q Q' E : Value → Shared → Prop} {k : V → St → R} (H : ExpS w mean mg mb zs κ e M) (hc : CallOk w mean mg mb zs c n) (G : K.Good w mean mg mb n) (O : K.Ok κ m φ) (S : K.Sta zs φ σ s.heap)
    (P : PostV zs K φ s Q E (bnd (M c m σ) k))
    (cont : ∀ x σ' φ' h' tk' rv, φ <+: φ' → K.Ok κ m φ' → K.Sta zs φ' σ' h' → RV φ' x rv → PostV zs K φ' { s with heap := h', toks := tk' } Q E (k x σ') → Q' rv { s with heap := h', toks := tk' }) :
    wpAny (Mdl w) K.A (eval e K.ev) Q' E s :=
  H n c hc K m φ σ s Q' E G O S (P.bnd fun x σ' φ' h' tk' rv p S' r P' => cont x σ' φ' h' tk' rv p (O.mono p) S' r P')
theorem ExpS.bndS {κ : Kp} {e : Expr} {M : Wd} {n : Nat} {c : Cl} {K : Kx} {m : List V} {φ : List Addr} {σ : St} {s : Shared} {Q : Flow → Shared → Prop} {Q' E : Value → Shared → Prop} {k : V → St → R} (H : ExpS w mean mg mb zs κ e M) (hc : CallOk w mean mg mb zs c n) (G : K.Good w mean mg mb n) (O : K.Ok κ m φ) (S : K.Sta zs φ σ s.heap)
    (P : PostS zs κ K φ s Q E (Mine.bnd (M c m σ) k))
    (cont : ∀ x σ' φ' h' tk' rv, φ <+: φ' → K.Ok κ m φ' → K.Sta zs φ' σ' h' → RV φ' x rv → PostS zs κ K φ' { s with heap := h', toks := tk' } Q E (k x σ') → Q' rv { s with heap := h', toks := tk' }) :
    wpAny (Mdl w) K.A (eval e K.ev) Q' E s :=
  H n c hc K m φ σ s Q' E G O S (P.bnd fun x σ' φ' h' tk' rv p S' r P' => cont x σ' φ' h' tk' rv p (O.mono p) S' r P')
theorem isInt_bad {P : R → Prop} (hb : ¬ P .bad) {v : V} {k : Nat → R} (h : P (isInt v k)) : ∃ i, v = .n i ∧ P (k i) := by cases v <;> first | exact ⟨_, rfl, h⟩ | exact (hb h).elim
theorem isRef_bad {P : R → Prop} (hb : ¬ P .bad) {v : V} {k : Nat → R} (h : P (isRef v k)) : ∃ i, v = .r i ∧ P (k i) := by cases v <;> first | exact ⟨_, rfl, h⟩ | exact (hb h).elim
theorem isB_bad {P : R → Prop} (hb : ¬ P .bad) {v : V} {k : Bool → R} (h : P (isB v k)) : ∃ i, v = .b i ∧ P (k i) := by cases v <;> first | exact ⟨_, rfl, h⟩ | exact (hb h).elim
theorem isS_bad {P : R → Prop} (hb : ¬ P .bad) {v : V} {k : List Nat → R} (h : P (isS v k)) : ∃ i, v = .s i ∧ P (k i) := by cases v <;> first | exact ⟨_, rfl, h⟩ | exact (hb h).elim
theorem ifB_bad {P : R → Prop} (hb : ¬ P .bad) {b : Bool} {k : R} (h : P (ifB b k .bad)) : b = true ∧ P k := by cases b <;> first | exact ⟨rfl, h⟩ | exact (hb h).elim
theorem ifN_bad {P : R → Prop} (hb : ¬ P .bad) {b : Bool} {k : R} (h : P (ifB b .bad k)) : b = false ∧ P k := by cases b <;> first | exact ⟨rfl, h⟩ | exact (hb h).elim
theorem look_bad {P : R → Prop} (hb : ¬ P .bad) {t : T} {a : Nat} {k : O → R} (h : P (look t a k)) : ∃ o, lookO t a = some o ∧ P (k o) := by
  rcases look_eq (t := t) (k := a) (f := k) with ⟨o, e, e2⟩ | e
  · exact ⟨o, e, e2 ▸ h⟩
  · exact (hb (e ▸ h)).elim
theorem getL_bad {α : Type} {P : R → Prop} (hb : ¬ P .bad) {l : List α} {i : Nat} {k : α → R} (h : P (getL l i k)) : ∃ x, l[i]? = some x ∧ P (k x) := by
  rcases getL_eq l i k with ⟨o, e, e2⟩ | e
  · exact ⟨o, e, e2 ▸ h⟩
  · exact (hb (e ▸ h)).elim
theorem onLst_bad {P : R → Prop} (hb : ¬ P .bad) {o : O} {k : List V → R} (h : P (onLst o k)) : ∃ l, o = .lst l ∧ P (k l) := by cases o <;> first | exact ⟨_, rfl, h⟩ | exact (hb h).elim
theorem onTup_bad {P : R → Prop} (hb : ¬ P .bad) {o : O} {k : List V → R} (h : P (onTup o k)) : ∃ l, o = .tup l ∧ P (k l) := by cases o <;> first | exact ⟨_, rfl, h⟩ | exact (hb h).elim
theorem onDct_bad {P : R → Prop} (hb : ¬ P .bad) {o : O} {k : List V → R} (h : P (onDct o k)) : ∃ l, o = .dct l ∧ P (k l) := by cases o <;> first | exact ⟨_, rfl, h⟩ | exact (hb h).elim
theorem onIns_bad {P : R → Prop} (hb : ¬ P .bad) {o : O} {k : Nat → R} (h : P (onIns o k)) : ∃ l, o = .ins l ∧ P (k l) := by cases o <;> first | exact ⟨_, rfl, h⟩ | exact (hb h).elim
theorem onCel_bad {P : R → Prop} (hb : ¬ P .bad) {o : O} {k : V → R} (h : P (onCel o k)) : ∃ l, o = .cel l ∧ P (k l) := by cases o <;> first | exact ⟨_, rfl, h⟩ | exact (hb h).elim
theorem onEd_bad {P : R → Prop} (hb : ¬ P .bad) {o : O} {k : R} (h : P (onEd o k)) : o = .ed ∧ P k := by cases o <;> first | exact ⟨rfl, h⟩ | exact (hb h).elim
theorem onRaw_bad {P : R → Prop} (hb : ¬ P .bad) {o : O} {k : R} (h : P (onRaw o k)) : o = .raw ∧ P k := by cases o <;> first | exact ⟨rfl, h⟩ | exact (hb h).elim
theorem PostV.nb {K : Kx} {φ : List Addr} {s : Shared} {Q E : Value → Shared → Prop} : ¬ PostV zs K φ s Q E .bad := fun h => h
theorem PostS.nb {κ : Kp} {K : Kx} {φ : List Addr} {s : Shared} {Q : Flow → Shared → Prop} {E : Value → Shared → Prop} : ¬ PostS zs κ K φ s Q E .bad := fun h => h
/-- a value that stands, the heap as it was -/
theorem PostV.now {K : Kx} {φ : List Addr} {s : Shared} {Q E : Value → Shared → Prop} {x : V} {σ : St} {rv : Value} {tk : Nat} (P : PostV zs K φ s Q E (.v x σ)) (S : K.Sta zs φ σ s.heap) (r : RV φ x rv) : Q rv { s with toks := tk } := P φ s.heap tk rv (List.prefix_refl _) S r
theorem PostV.now0 {K : Kx} {φ : List Addr} {s : Shared} {Q E : Value → Shared → Prop} {x : V} {σ : St} {rv : Value} (P : PostV zs K φ s Q E (.v x σ)) (S : K.Sta zs φ σ s.heap) (r : RV φ x rv) : Q rv s := P φ s.heap s.toks rv (List.prefix_refl _) S r
end
end
section
noncomputable section
noncomputable def varW (i : Nat) : Wd := fun _ m s => getL m i fun x => notU x (.v x s)
noncomputable def celW (i : Nat) : Wd := fun _ m s => getL m i fun x => isRef x fun k => lookS s k fun o => onCel o fun x => notU x (.v x s)
noncomputable def cstW (x : V) : Wd := fun _ _ s => .v x s
noncomputable def binW (op : V → V → St → R) (A B : Wd) : Wd := fun c m s => bnd (A c m s) fun x s => bnd (B c m s) fun y s => op x y s
noncomputable def tstW (A : Wd) : Wd := fun c m s => bnd (A c m s) fun x s => isB x fun b => .v (.b b) s
noncomputable def notW (A : Wd) : Wd := fun c m s => bnd (A c m s) fun x s => isB x fun b => .v (.b (ntB b)) s
noncomputable def andW (A B : Wd) : Wd := fun c m s => bnd (A c m s) fun x s => isB x fun b => ifB b (B c m s) (.v (.b false) s)
noncomputable def orW (A B : Wd) : Wd := fun c m s => bnd (A c m s) fun x s => isB x fun b => ifB b (.v (.b true) s) (B c m s)
noncomputable def evL (c : Cl) (m : List V) (Ws : List Wd) : (List V → St → R) → St → R := List.rec (motive := fun _ => (List V → St → R) → St → R) (fun k s => k [] s) (fun W _ ih k s => bnd (W c m s) fun x s => ih (fun l s => k (x :: l) s) s) Ws
noncomputable def lstW (Ws : List Wd) : Wd := fun c m s => evL c m Ws (fun l s => newS s (.lst l)) s
noncomputable def tupW (Ws : List Wd) : Wd := fun c m s => evL c m Ws (fun l s => newS s (.tup l)) s
noncomputable def calW (f : Nat) (Ws : List Wd) : Wd := fun c m s => evL c m Ws (fun l s => c f l s) s
noncomputable def funW (op : List V → St → R) (Ws : List Wd) : Wd := fun c m s => evL c m Ws op s
end
theorem notU_bad {P : R → Prop} (hb : ¬ P .bad) {v : V} {k : R} (h : P (notU v k)) : v ≠ .u ∧ P k := by cases v <;> first | exact ⟨(fun e => nomatch e), h⟩ | exact (hb h).elim
section
variable {w : World} {mean : ExcName → Option Value} {mg mb : Str → Option Value} {zs : List Int} {κ : Kp}
theorem ExpS.name {cs : Scope} {nm : Nms} {x : Str} {pos : Pos} {i : Nat} (hn : nm.lookup x = some (false, i)) (hk : cs.names.lookup x = some .local) (hd : (x == Str.ofString "__debug__") = false) : ExpS w mean mg mb zs (.fn cs nm) (.Name x pos) (varW i) := by
  intro n c hc K m φ σ s Q E G O S P
  obtain ⟨v, hv, P⟩ := getL_bad PostV.nb P
  obtain ⟨hu, P⟩ := notU_bad PostV.nb P
  obtain ⟨e1, e2, N⟩ := O
  obtain ⟨rv, h1, r⟩ := (N x i v hv).1 hn hu
  rw [e2]
  exact nameX_L S.1 h1 (P.now0 S r) G.k (by show K.cs.names.lookup x = _; rw [e1]; exact hk) hd
theorem cell_of {K : Kx} {φ : List Addr} {σ : St} {h : Heap} {k : Nat} {v : V} {t : T} {nx : Nat} {pn : List Nat} (e : σ = .mk nx t pn) (S : K.Sta zs φ σ h) (hl : lookO t k = some (.cel v)) (hu : v ≠ .u) {c : Addr} (hc : φ[k]? = some c) :
    ∃ o rv news, News K.g K.L h news ∧ (c, o) ∈ news ∧ o.data = .cell (some rv) ∧ RV φ v rv := by
  subst e
  obtain ⟨F, led, Ld, N⟩ := S
  obtain ⟨a, ob, h1, h2, h3, r⟩ := Ld.at hl
  rw [hc] at h1
  cases h1
  have : ∃ rv, ob.data = .cell (some rv) ∧ RV φ v rv := by
    cases v <;> first | exact (hu rfl).elim | exact r
  obtain ⟨rv, h4, h5⟩ := this
  exact ⟨ob, rv, _, N, List.mem_append_right _ h3, h4, h5⟩
theorem ExpS.cell {cs : Scope} {nm : Nms} {x : Str} {pos : Pos} {i : Nat} (hn : nm.lookup x = some (true, i)) (hk : cs.names.lookup x = some .cell) (hd : (x == Str.ofString "__debug__") = false) : ExpS w mean mg mb zs (.fn cs nm) (.Name x pos) (celW i) := by
  intro n c hc K m φ σ s Q E G O S P
  obtain ⟨v, hv, P⟩ := getL_bad PostV.nb P
  obtain ⟨k, rfl, P⟩ := isRef_bad PostV.nb P
  obtain ⟨nx, t, pn⟩ := σ
  obtain ⟨o, hl, P⟩ := look_bad PostV.nb P
  obtain ⟨v, rfl, P⟩ := onCel_bad PostV.nb P
  obtain ⟨hu, P⟩ := notU_bad PostV.nb P
  obtain ⟨e1, e2, N⟩ := O
  obtain ⟨ca, h1, h2⟩ := (N x i _ hv).2 hn k rfl
  obtain ⟨o, rv, news, h3, h4, h5, h6⟩ := cell_of rfl S hl hu h1
  rw [e2]
  exact nameX_C h3 h2 h4 h5 (P.now0 S h6) G.k (by show K.cs.names.lookup x = _; rw [e1]; exact hk) hd
theorem ExpS.nameB {cs sc : Scope} {nm : Nms} {x : Str} {pos : Pos} {i : Nat} (hn : nm.lookup x = some (false, i)) (hs : sc.kind = .function) (hk : ∀ cn L a ccd cl clx C, (compEnvC sc clx C (envX cn cs L a ccd cl)).kindOf x = some .local) (hd : (x == Str.ofString "__debug__") = false) : ExpS w mean mg mb zs (.cp cs sc nm) (.Name x pos) (varW i) := by
  intro n c hc K m φ σ s Q E G O S P
  obtain ⟨v, hv, P⟩ := getL_bad PostV.nb P
  obtain ⟨hu, P⟩ := notU_bad PostV.nb P
  obtain ⟨e1, clx, C, oC, m₂, e2, h1, h2, N⟩ := O
  obtain ⟨rv, h3, r⟩ := (N x i v hv).1 hn hu
  rw [e2]
  obtain ⟨F, led, Ld, NN⟩ := S
  exact LCgL.ld_own NN (List.mem_append_left _ h1) h2 h3 (P.now0 ⟨F, led, Ld, NN⟩ r) hs (by subst e1; exact hk K.cn K.L K.a K.ccd K.cl clx C) hd
theorem ExpS.cellB {cs sc : Scope} {nm : Nms} {x : Str} {pos : Pos} {i : Nat} (hn : nm.lookup x = some (true, i)) (hs : sc.kind = .function) (hk : ∀ cn L a ccd cl clx C, (compEnvC sc clx C (envX cn cs L a ccd cl)).kindOf x = some .cell) (hd : (x == Str.ofString "__debug__") = false) : ExpS w mean mg mb zs (.cp cs sc nm) (.Name x pos) (celW i) := by
  intro n c hc K m φ σ s Q E G O S P
  obtain ⟨v, hv, P⟩ := getL_bad PostV.nb P
  obtain ⟨k, rfl, P⟩ := isRef_bad PostV.nb P
  obtain ⟨nx, t, pn⟩ := σ
  obtain ⟨o, hl, P⟩ := look_bad PostV.nb P
  obtain ⟨v, rfl, P⟩ := onCel_bad PostV.nb P
  obtain ⟨hu, P⟩ := notU_bad PostV.nb P
  obtain ⟨e1, clx, C, oC, m₂, e2, h1, h2, N⟩ := O
  obtain ⟨ca, h1, h2⟩ := (N x i _ hv).2 hn k rfl
  obtain ⟨o, rv, news, h3, h4, h5, h6⟩ := cell_of rfl S hl hu h1
  rw [e2]
  exact kcf_cell h3 h2 h4 h5 (P.now0 S h6) hs (by subst e1; exact hk K.cn K.L K.a K.ccd K.cl clx C) hd
theorem ExpS.int {k : Int} {kk : Nat} {pos : Pos} (i : Nat) (h : k = (i : Int)) : ExpS w mean mg mb zs κ (.Constant (.int k) kk pos) (cstW (.n i)) := by
  intro n c hc K m φ σ s Q E G O S P
  subst h
  exact wpAny_Constant_int (P.now (tk := s.toks + 1) S ⟨_, rfl⟩)
theorem ExpS.non {kk : Nat} {pos : Pos} : ExpS w mean mg mb zs κ (.Constant .none kk pos) (cstW .o) := by
  intro n c hc K m φ σ s Q E G O S P
  exact wpAny_Constant_none (P.now0 S rfl)
theorem ExpS.bool {b : Bool} {kk : Nat} {pos : Pos} : ExpS w mean mg mb zs κ (.Constant (.bool b) kk pos) (cstW (.b b)) := by
  intro n c hc K m φ σ s Q E G O S P
  exact Constant_bool (P.now0 S rfl)
theorem ExpS.str {x : Str} {kk : Nat} {pos : Pos} (l : List Nat) (h : x = txN l) (h1 : l.all (fun x => Nat.blt x 128) = true) (h2 : l.length ≤ 1000) : ExpS w mean mg mb zs κ (.Constant (.str x) kk pos) (cstW (.s l)) := by
  intro n c hc K m φ σ s Q E G O S P
  subst h
  exact Calls.Constant_str (P.now (tk := s.toks + 1) S ⟨fun x hx => by have := List.all_eq_true.mp h1 x hx; exact Nat.le_of_ble_eq_true this, h2, _, rfl⟩)
theorem ExpS.bin {o : Operator} {op : V → V → St → R} {a b : Expr} {A B : Wd} {pos : Pos} (ho : BinS w mean mg mb zs o op) (ha : ExpS w mean mg mb zs κ a A) (hb : ExpS w mean mg mb zs κ b B) : ExpS w mean mg mb zs κ (.BinOp a o b pos) (binW op A B) := by
  intro n c hc K m φ σ s Q E G O S P
  refine wpAny_BinOp (ha.bnd hc G O S P ?_)
  intro x σ₁ φ₁ h₁ tk₁ rv p₁ O₁ S₁ r₁ P₁
  refine hb.bnd hc G O₁ S₁ P₁ ?_
  intro y σ₂ φ₂ h₂ tk₂ rw' p₂ O₂ S₂ r₂ P₂
  exact ho n K G _ _ _ x y _ _ _ _ S₂ (r₁.mono p₂) r₂ P₂
theorem ExpS.cmp {o : CmpOp} {op : V → V → St → R} {a b : Expr} {A B : Wd} {pos : Pos} (ho : CmpS w mean mg mb zs o op) (ha : ExpS w mean mg mb zs κ a A) (hb : ExpS w mean mg mb zs κ b B) (hm : behindInMarks o b = false) : ExpS w mean mg mb zs κ (.Compare a [o] [b] pos) (binW op A B) := by
  intro n c hc K m φ σ s Q E G O S P
  refine wpAny_Compare1 (ha.bnd hc G O S P ?_) hm
  intro x σ₁ φ₁ h₁ tk₁ rv p₁ O₁ S₁ r₁ P₁
  refine hb.bnd hc G O₁ S₁ P₁ ?_
  intro y σ₂ φ₂ h₂ tk₂ rw' p₂ O₂ S₂ r₂ P₂
  exact ho n K G _ _ _ x y _ _ _ _ S₂ (r₁.mono p₂) r₂ P₂
/-- a test by a comparison -/
theorem TstS.cmp {o : CmpOp} {op : V → V → St → R} {a b : Expr} {A B : Wd} {pos : Pos} (ho : CmpS w mean mg mb zs o op) (ha : ExpS w mean mg mb zs κ a A) (hb : ExpS w mean mg mb zs κ b B) (hm : behindInMarks o b = false) : TstS w mean mg mb zs κ (.Compare a [o] [b] pos) (binW op A B) := by
  intro n c hc K m φ σ s Q E G O S P
  refine wpAny_isTrue_Compare1 (ha.bnd hc G O S P ?_) hm
  intro x σ₁ φ₁ h₁ tk₁ rv p₁ O₁ S₁ r₁ P₁
  refine hb.bnd hc G O₁ S₁ P₁ ?_
  intro y σ₂ φ₂ h₂ tk₂ rw' p₂ O₂ S₂ r₂ P₂
  refine wpAny_mono (ho n K G _ _ _ x y _ _ _ _ S₂ (r₁.mono p₂) r₂ P₂) (fun v s' h => ?_) fun _ _ e => e
  cases v <;> first | exact wpAny_truthy_bool h | exact h.elim
theorem TstS.val {e : Expr} {A : Wd} (h : ExpS w mean mg mb zs κ e A) (hp : ∀ env whole, isTrue e env whole = do let v ← whole; standAt e.pos; holding [v] (truthy v)) : TstS w mean mg mb zs κ e (tstW A) := by
  intro n c hc K m φ σ s Q E G O S P
  refine isTrue_plain (h.bnd hc G O S P ?_) (hp _ _)
  intro x σ₁ φ₁ h₁ tk₁ rv p₁ O₁ S₁ r₁ P₁
  obtain ⟨b, rfl, P₁⟩ := isB_bad PostV.nb P₁
  cases r₁
  exact wpAny_truthy_bool (P₁.now0 S₁ rfl)
theorem TstS.bndS {e : Expr} {M : Wd} {n : Nat} {c : Cl} {K : Kx} {m : List V} {φ : List Addr} {σ : St} {s : Shared} {Q : Flow → Shared → Prop} {E : Value → Shared → Prop} {Q' : Bool → Shared → Prop} {k : Bool → St → R} (H : TstS w mean mg mb zs κ e M) (hc : CallOk w mean mg mb zs c n) (G : K.Good w mean mg mb n) (O : K.Ok κ m φ) (S : K.Sta zs φ σ s.heap)
    (P : PostS zs κ K φ s Q E (Mine.bnd (M c m σ) fun x s => isB x fun b => k b s))
    (cont : ∀ b σ' φ' h' tk', φ <+: φ' → K.Ok κ m φ' → K.Sta zs φ' σ' h' → PostS zs κ K φ' { s with heap := h', toks := tk' } Q E (k b σ') → Q' b { s with heap := h', toks := tk' }) :
    wpAny (Mdl w) K.A (isTrue e K.ev (eval e K.ev)) Q' E s :=
  H n c hc K m φ σ s Q' E G O S (P.bnd fun x σ' φ' h' tk' rv p S' r P' => by
    obtain ⟨b, rfl, P'⟩ := isB_bad PostS.nb P'
    cases r
    exact cont b σ' φ' h' tk' p (O.mono p) S' P')
theorem TstS.not {e : Expr} {A : Wd} {pos : Pos} (h : TstS w mean mg mb zs κ e A) : TstS w mean mg mb zs κ (.UnaryOp .Not e pos) (notW A) := by
  intro n c hc K m φ σ s Q E G O S P
  refine isTrue_not (h n c hc K m φ σ s (fun b s' => Q (!b) s') E G O S (P.bnd fun x σ' φ' h' tk' rv p S' r P' => ?_))
  obtain ⟨b, rfl, P'⟩ := isB_bad PostV.nb P'
  cases r
  have := P'.now0 S' (rv := .bool (ntB b)) rfl
  cases b <;> exact this
theorem TstS.and0 {pos : Pos} : TstS w mean mg mb zs κ (.BoolOp .And [] pos) (cstW (.b true)) := by
  intro n c hc K m φ σ s Q E G O S P
  exact isTrue_and_nil (P.now0 S (rv := .bool true) rfl)
theorem TstS.or0 {pos : Pos} : TstS w mean mg mb zs κ (.BoolOp .Or [] pos) (cstW (.b false)) := by
  intro n c hc K m φ σ s Q E G O S P
  exact isTrue_or_nil (P.now0 S (rv := .bool false) rfl)
theorem TstS.and {e : Expr} {es : List Expr} {A B : Wd} {pos : Pos} (h : TstS w mean mg mb zs κ e A) (h2 : TstS w mean mg mb zs κ (.BoolOp .And es pos) B) : TstS w mean mg mb zs κ (.BoolOp .And (e :: es) pos) (andW A B) := by
  intro n c hc K m φ σ s Q E G O S P
  refine isTrue_and (h n c hc K m φ σ s _ E G O S (P.bnd fun x σ' φ' h' tk' rv p S' r P' => ?_))
  obtain ⟨b, rfl, P'⟩ := isB_bad PostV.nb P'
  cases r
  cases b with
  | true => exact h2 n c hc K m φ' σ' _ Q E G (O.mono p) S' P'
  | false => exact P'.now0 S' (rv := .bool false) rfl
theorem TstS.or {e : Expr} {es : List Expr} {A B : Wd} {pos : Pos} (h : TstS w mean mg mb zs κ e A) (h2 : TstS w mean mg mb zs κ (.BoolOp .Or es pos) B) : TstS w mean mg mb zs κ (.BoolOp .Or (e :: es) pos) (orW A B) := by
  intro n c hc K m φ σ s Q E G O S P
  refine isTrue_or (h n c hc K m φ σ s _ E G O S (P.bnd fun x σ' φ' h' tk' rv p S' r P' => ?_))
  obtain ⟨b, rfl, P'⟩ := isB_bad PostV.nb P'
  cases r
  cases b with
  | true => exact P'.now0 S' (rv := .bool true) rfl
  | false => exact h2 n c hc K m φ' σ' _ Q E G (O.mono p) S' P'
/-- and, as a value -/
theorem ExpS.and1 {o : BoolOp} {e : Expr} {A : Wd} {pos : Pos} (h : ExpS w mean mg mb zs κ e A) : ExpS w mean mg mb zs κ (.BoolOp o [e] pos) A := by
  intro n c hc K m φ σ s Q E G O S P
  exact BoolOp_one (h n c hc K m φ σ s Q E G O S P)
theorem ExpS.and {e e2 : Expr} {es : List Expr} {A B : Wd} {pos : Pos} (h : ExpS w mean mg mb zs κ e A) (h2 : ExpS w mean mg mb zs κ (.BoolOp .And (e2 :: es) pos) B) : ExpS w mean mg mb zs κ (.BoolOp .And (e :: e2 :: es) pos) (andW A B) := by
  intro n c hc K m φ σ s Q E G O S P
  refine BoolOp_and (h.bnd hc G O S P ?_)
  intro x σ₁ φ₁ h₁ tk₁ rv p₁ O₁ S₁ r₁ P₁
  obtain ⟨b, rfl, P₁⟩ := isB_bad PostV.nb P₁
  cases r₁
  refine wpAny_truthy_bool ?_
  cases b with
  | true => exact h2 n c hc K m φ₁ σ₁ _ Q E G O₁ S₁ P₁
  | false => exact P₁.now0 S₁ rfl
/-- arguments, one by one -/
theorem ArgS.run {es : List Expr} {Ws : List Wd} (H : ArgS w mean mg mb zs κ es Ws) : ∀ {n : Nat} {c : Cl} (_ : CallOk w mean mg mb zs c n) {K : Kx} {m : List V} {φ : List Addr} {σ : St} {s : Shared} {Q E : Value → Shared → Prop} {Q' : List Value → Shared → Prop} {k : List V → St → R} {pos : Pos}
    (_ : K.Good w mean mg mb n) (_ : K.Ok κ m φ) (_ : K.Sta zs φ σ s.heap) (_ : PostV zs K φ s Q E (evL c m Ws k σ))
    (_ : ∀ xs σ' φ' h' tk' vs, φ <+: φ' → K.Ok κ m φ' → K.Sta zs φ' σ' h' → RVs φ' xs vs → PostV zs K φ' { s with heap := h', toks := tk' } Q E (k xs σ') → Q' vs { s with heap := h', toks := tk' }),
    wpAny (Mdl w) K.A (spliced (backTo pos (starEach es K.ev))) Q' E s := by
  induction H with
  | nil => exact fun {n c} hc {K m φ σ s Q E Q' k pos} G O S P cont => args_nil (cont [] σ φ s.heap s.toks [] (List.prefix_refl _) O S .nil P)
  | @cons e es W Ws hst he _ ih =>
    intro n c hc K m φ σ s Q E Q' k pos G O S P cont
    refine args_cons (he.bnd hc G O S P ?_) (hst _ _)
    intro x σ₁ φ₁ h₁ tk₁ rv p₁ O₁ S₁ r₁ P₁
    refine ih hc (k := fun l s => k (x :: l) s) G O₁ S₁ P₁ ?_
    intro xs σ₂ φ₂ h₂ tk₂ vs p₂ O₂ S₂ r₂ P₂
    exact cont (x :: xs) σ₂ φ₂ h₂ tk₂ (rv :: vs) (p₁.trans p₂) O₂ S₂ (.cons (r₁.mono p₂) r₂) P₂
theorem lenV {xs : List V} {φ : List Addr} {vs : List Value} (r : RVs φ xs vs) (h : xs.length ≤ 1000) : vs.length ≤ sizeLine := by rw [r.len, sizeLine_eq]; omega
/-- what evL leaves is as long as the words -/
theorem evL_len {c : Cl} {m : List V} : ∀ {Ws : List Wd} {k k' : List V → St → R} {σ : St}, (∀ l s, l.length = Ws.length → k l s = k' l s) → evL c m Ws k σ = evL c m Ws k' σ := by
  have bnd_congr : ∀ (r : R) (k k' : V → St → R), (∀ x s, k x s = k' x s) → Mine.bnd r k = Mine.bnd r k' := fun r k k' h => by rw [show k = k' from funext fun x => funext fun s => h x s]
  intro Ws
  induction Ws with
  | nil => exact fun h => h [] _ rfl
  | cons W Ws ih =>
    intro k k' σ h
    refine bnd_congr _ _ _ fun x s => ih fun l s hl => h _ _ (by simp [hl])
theorem Kx.Sta.new {K : Kx} {φ : List Addr} {σ : St} {s : Shared} {led : List (Addr × Obj)} {Q E : Value → Shared → Prop} {o : O} {D : Addr} {ob : Obj} {h' : Heap} {tk : Nat} (Ld : K.Led zs φ σ led) (P : PostV zs K φ s Q E (newS σ o)) (F : Fr K.g K.L h' K.mm) (N : News K.g K.L h' ((D, ob) :: (K.xl ++ led))) (hD : ∀ p ∈ K.xl ++ led, p.1 < D)
    (r : RO zs (φ ++ [D]) o (D, ob)) : Q (.ref D) { s with heap := h', toks := tk } := by
  obtain ⟨nx, t, pn⟩ := σ
  have e : nx = φ.length := by obtain ⟨_, _, _, _, t', e, _⟩ := Ld; cases e; rfl
  rw [newS_eq] at P
  refine P (φ ++ [D]) h' tk _ ⟨_, rfl⟩ ⟨F, led ++ [(D, ob)], Ld.push (fun p hp => Nat.ne_of_lt (hD p hp)) r, fun p hp => N p ?_⟩ ⟨D, by rw [e]; simp, rfl⟩
  rcases List.mem_append.mp hp with hp | hp
  · exact .tail _ (List.mem_append_left _ hp)
  rcases List.mem_append.mp hp with hp | hp
  · exact .tail _ (List.mem_append_right _ hp)
  · rw [List.mem_singleton.mp hp]; exact .head _
theorem ExpS.list {es : List Expr} {Ws : List Wd} {pos : Pos} (H : ArgS w mean mg mb zs κ es Ws) (hl : Ws.length ≤ 1000) : ExpS w mean mg mb zs κ (.List es pos) (lstW Ws) := by
  intro n c hc K m φ σ s Q E G O S P
  have P' : PostV zs K φ s Q E (evL c m Ws (fun l s => ifB (Nat.ble l.length 1000) (newS s (.lst l)) .bad) σ) := by
    rw [evL_len (k' := fun l s => newS s (.lst l)) fun l s h => by rw [show Nat.ble l.length 1000 = true from Nat.ble_eq_true_of_le (h ▸ hl)]; rfl]; exact P
  refine List_ (H.run hc G O S P' ?_)
  intro xs σ' φ' h' tk' vs p O' S' r P
  obtain ⟨hle, P⟩ := ifB_bad PostV.nb P
  have hle := Nat.le_of_ble_eq_true hle
  obtain ⟨F, led, Ld, N⟩ := S'
  refine newList_K F N (fun D h'' F' N' l1 => ?_) (lenV r hle)
  exact Kx.Sta.new (tk := tk') Ld P F' N' l1 ⟨vs, 0, rfl, r.mono ⟨_, rfl⟩, hle⟩
theorem ExpS.tup {es : List Expr} {Ws : List Wd} {pos : Pos} {kk : Nat} (H : ArgS w mean mg mb zs κ es Ws) (hl : Ws.length ≤ 1000) : ExpS w mean mg mb zs κ (.Tuple es kk pos) (tupW Ws) := by
  intro n c hc K m φ σ s Q E G O S P
  have P' : PostV zs K φ s Q E (evL c m Ws (fun l s => ifB (Nat.ble l.length 1000) (newS s (.tup l)) .bad) σ) := by
    rw [evL_len (k' := fun l s => newS s (.tup l)) fun l s h => by rw [show Nat.ble l.length 1000 = true from Nat.ble_eq_true_of_le (h ▸ hl)]; rfl]; exact P
  refine Tuple_ (H.run hc G O S P' ?_)
  intro xs σ' φ' h' tk' vs p O' S' r P
  obtain ⟨hle, P⟩ := ifB_bad PostV.nb P
  have hle := Nat.le_of_ble_eq_true hle
  obtain ⟨F, led, Ld, N⟩ := S'
  refine kup_newTuple F N (fun D h'' F' N' l1 => ?_) (lenV r hle)
  exact Kx.Sta.new (tk := tk') Ld P F' N' l1 ⟨vs, rfl, r.mono ⟨_, rfl⟩, hle⟩
end
end
section
noncomputable section
noncomputable def addV (x y : V) (s : St) : R := V.rec (motive := fun _ => R) .bad (fun i => isInt y fun j => frcN (Nat.add i j) fun z => .v (.n z) s) (fun _ => .bad) .bad (fun l => isS y fun l' => frcL (apl l l') fun z => lim z (.v (.s z) s))
  (fun a => lookS s a fun o => onLst o fun l => lstOf s y fun _ l' => frcL (apl l l') fun z => lim z (newS s (.lst z))) x
noncomputable def subV (x y : V) (s : St) : R := isInt x fun i => isInt y fun j => ifB (Nat.ble j i) (frcN (Nat.sub i j) fun z => .v (.n z) s) .bad
noncomputable def repS (l : List Nat) (n : Nat) : List Nat := Nat.rec (motive := fun _ => List Nat) [] (fun _ ih => apl l ih) n
noncomputable def mulV (x y : V) (s : St) : R := V.rec (motive := fun _ => R) .bad (fun i => isInt y fun j => ifB (Nat.ble i 1000) (frcN (Nat.mul i j) fun z => .v (.n z) s) .bad) (fun _ => .bad) .bad (fun l => isS y fun _ => .bad) (fun _ => .bad) x
/-- a text times a small number -/
noncomputable def mulS (x y : V) (s : St) : R := isS x fun l => isInt y fun n => ifB (Nat.ble (lnL l) 16) (ifB (Nat.ble n 16) (frcL (repS l n) fun z => .v (.s z) s) .bad) .bad
noncomputable def mulU (x y : V) (s : St) : R := V.rec (motive := fun _ => R) .bad (fun _ => mulV x y s) (fun _ => .bad) .bad (fun _ => mulS x y s) (fun _ => .bad) x
noncomputable def cmpV (op : Nat → Nat → Bool) (x y : V) (s : St) : R := isInt x fun i => isInt y fun j => .v (.b (op i j)) s
noncomputable def beqS (l : List Nat) : List Nat → Bool := List.rec (motive := fun _ => List Nat → Bool) (fun l => List.rec (motive := fun _ => Bool) true (fun _ _ _ => false) l) (fun x _ ih l => List.rec (motive := fun _ => Bool) false (fun y l' _ => Bool.rec false (ih l') (Nat.beq x y)) l) l
noncomputable def on1 (l : List V) (k : V → R) : R := List.rec (motive := fun _ => R) .bad (fun x l' _ => List.rec (motive := fun _ => R) (k x) (fun _ _ _ => .bad) l') l
noncomputable def on2 (l : List V) (k : V → V → R) : R := List.rec (motive := fun _ => R) .bad (fun x l' _ => on1 l' fun y => k x y) l
noncomputable def eqV (x y : V) (s : St) : R := V.rec (motive := fun _ => R) .bad (fun i => isInt y fun j => .v (.b (Nat.beq i j)) s) (fun _ => .bad) .bad (fun l => isS y fun l' => .v (.b (beqS l l')) s) (fun _ => .bad) x
noncomputable def neV (x y : V) (s : St) : R := V.rec (motive := fun _ => R) .bad (fun i => isInt y fun j => .v (.b (ntB (Nat.beq i j))) s) (fun _ => .bad) .bad (fun l => isS y fun l' => .v (.b (ntB (beqS l l'))) s)
  (fun a => lookS s a fun o => onLst o fun l => lstOf s y fun _ l' => on1 l fun x => on1 l' fun y => isS x fun i => isS y fun j => .v (.b (ntB (beqS i j))) s) x
noncomputable def isO (v : V) (k : R) : R := V.rec (motive := fun _ => R) .bad (fun _ => .bad) (fun _ => .bad) k (fun _ => .bad) (fun _ => .bad) v
noncomputable def isV (x y : V) (s : St) : R := isO y (isNon x fun b => .v (.b b) s)
noncomputable def isnV (x y : V) (s : St) : R := isO y (isNon x fun b => .v (.b (ntB b)) s)
end
theorem isO_bad {P : R → Prop} (hb : ¬ P .bad) {v : V} {k : R} (h : P (isO v k)) : v = .o ∧ P k := by cases v <;> first | exact ⟨rfl, h⟩ | exact (hb h).elim
theorem on1_bad {P : R → Prop} (hb : ¬ P .bad) {l : List V} {k : V → R} (h : P (on1 l k)) : ∃ x, l = [x] ∧ P (k x) := by rcases l with _ | ⟨x, _ | ⟨y, l⟩⟩ <;> first | exact ⟨_, rfl, h⟩ | exact (hb h).elim
theorem on2_bad {P : R → Prop} (hb : ¬ P .bad) {l : List V} {k : V → V → R} (h : P (on2 l k)) : ∃ x y, l = [x, y] ∧ P (k x y) := by
  rcases l with _ | ⟨x, l⟩
  · exact (hb h).elim
  · obtain ⟨y, rfl, h⟩ := on1_bad hb h
    exact ⟨x, y, rfl, h⟩
theorem lim_bad {α : Type} {P : R → Prop} (hb : ¬ P .bad) {l : List α} {k : R} (h : P (lim l k)) : l.length ≤ 1000 ∧ P k := by
  obtain ⟨a, b⟩ := ifB_bad hb h
  rw [lnL_eq] at a
  exact ⟨Nat.le_of_ble_eq_true a, b⟩
theorem lstOf_bad {P : R → Prop} (hb : ¬ P .bad) {nx : Nat} {t : T} {pn : List Nat} {v : V} {k : Nat → List V → R} (h : P (lstOf (.mk nx t pn) v k)) : ∃ a l, v = .r a ∧ lookO t a = some (.lst l) ∧ P (k a l) := by
  obtain ⟨a, rfl, h⟩ := isRef_bad hb h
  obtain ⟨o, h1, h⟩ := look_bad hb h
  obtain ⟨l, rfl, h⟩ := onLst_bad hb h
  exact ⟨a, l, rfl, h1, h⟩
section
variable {zs : List Int}
theorem PV.int {K : Kx} {φ : List Addr} {s : Shared} {Q E : Value → Shared → Prop} {v : V} {k : Nat → R} (h : PostV zs K φ s Q E (isInt v k)) : ∃ i, v = .n i ∧ PostV zs K φ s Q E (k i) := isInt_bad PostV.nb h
theorem PV.ref {K : Kx} {φ : List Addr} {s : Shared} {Q E : Value → Shared → Prop} {v : V} {k : Nat → R} (h : PostV zs K φ s Q E (isRef v k)) : ∃ i, v = .r i ∧ PostV zs K φ s Q E (k i) := isRef_bad PostV.nb h
theorem PV.str {K : Kx} {φ : List Addr} {s : Shared} {Q E : Value → Shared → Prop} {v : V} {k : List Nat → R} (h : PostV zs K φ s Q E (isS v k)) : ∃ i, v = .s i ∧ PostV zs K φ s Q E (k i) := isS_bad PostV.nb h
theorem PV.if {K : Kx} {φ : List Addr} {s : Shared} {Q E : Value → Shared → Prop} {b : Bool} {k : R} (h : PostV zs K φ s Q E (ifB b k .bad)) : b = true ∧ PostV zs K φ s Q E k := ifB_bad PostV.nb h
theorem PV.ifn {K : Kx} {φ : List Addr} {s : Shared} {Q E : Value → Shared → Prop} {b : Bool} {k : R} (h : PostV zs K φ s Q E (ifB b .bad k)) : b = false ∧ PostV zs K φ s Q E k := ifN_bad PostV.nb h
theorem PV.look {K : Kx} {φ : List Addr} {s : Shared} {Q E : Value → Shared → Prop} {t : T} {a : Nat} {k : O → R} (h : PostV zs K φ s Q E (look t a k)) : ∃ o, lookO t a = some o ∧ PostV zs K φ s Q E (k o) := look_bad PostV.nb h
theorem PV.get {K : Kx} {φ : List Addr} {s : Shared} {Q E : Value → Shared → Prop} {α : Type} {l : List α} {i : Nat} {k : α → R} (h : PostV zs K φ s Q E (getL l i k)) : ∃ x, l[i]? = some x ∧ PostV zs K φ s Q E (k x) := getL_bad PostV.nb h
theorem PV.lst {K : Kx} {φ : List Addr} {s : Shared} {Q E : Value → Shared → Prop} {o : O} {k : List V → R} (h : PostV zs K φ s Q E (onLst o k)) : ∃ l, o = .lst l ∧ PostV zs K φ s Q E (k l) := onLst_bad PostV.nb h
theorem PV.tup {K : Kx} {φ : List Addr} {s : Shared} {Q E : Value → Shared → Prop} {o : O} {k : List V → R} (h : PostV zs K φ s Q E (onTup o k)) : ∃ l, o = .tup l ∧ PostV zs K φ s Q E (k l) := onTup_bad PostV.nb h
theorem PV.dct {K : Kx} {φ : List Addr} {s : Shared} {Q E : Value → Shared → Prop} {o : O} {k : List V → R} (h : PostV zs K φ s Q E (onDct o k)) : ∃ l, o = .dct l ∧ PostV zs K φ s Q E (k l) := onDct_bad PostV.nb h
theorem PV.ins {K : Kx} {φ : List Addr} {s : Shared} {Q E : Value → Shared → Prop} {o : O} {k : Nat → R} (h : PostV zs K φ s Q E (onIns o k)) : ∃ l, o = .ins l ∧ PostV zs K φ s Q E (k l) := onIns_bad PostV.nb h
theorem PV.ed {K : Kx} {φ : List Addr} {s : Shared} {Q E : Value → Shared → Prop} {o : O} {k : R} (h : PostV zs K φ s Q E (onEd o k)) : o = .ed ∧ PostV zs K φ s Q E k := onEd_bad PostV.nb h
theorem PV.raw {K : Kx} {φ : List Addr} {s : Shared} {Q E : Value → Shared → Prop} {o : O} {k : R} (h : PostV zs K φ s Q E (onRaw o k)) : o = .raw ∧ PostV zs K φ s Q E k := onRaw_bad PostV.nb h
theorem PV.isO {K : Kx} {φ : List Addr} {s : Shared} {Q E : Value → Shared → Prop} {v : V} {k : R} (h : PostV zs K φ s Q E (isO v k)) : v = .o ∧ PostV zs K φ s Q E k := isO_bad PostV.nb h
theorem PV.on1 {K : Kx} {φ : List Addr} {s : Shared} {Q E : Value → Shared → Prop} {l : List V} {k : V → R} (h : PostV zs K φ s Q E (on1 l k)) : ∃ x, l = [x] ∧ PostV zs K φ s Q E (k x) := on1_bad PostV.nb h
theorem PV.on2 {K : Kx} {φ : List Addr} {s : Shared} {Q E : Value → Shared → Prop} {l : List V} {k : V → V → R} (h : PostV zs K φ s Q E (on2 l k)) : ∃ x y, l = [x, y] ∧ PostV zs K φ s Q E (k x y) := on2_bad PostV.nb h
theorem PV.lim {K : Kx} {φ : List Addr} {s : Shared} {Q E : Value → Shared → Prop} {α : Type} {l : List α} {k : R} (h : PostV zs K φ s Q E (lim l k)) : l.length ≤ 1000 ∧ PostV zs K φ s Q E k := lim_bad PostV.nb h
theorem PV.list {K : Kx} {φ : List Addr} {s : Shared} {Q E : Value → Shared → Prop} {nx : Nat} {t : T} {pn : List Nat} {v : V} {k : Nat → List V → R} (h : PostV zs K φ s Q E (lstOf (.mk nx t pn) v k)) : ∃ a l, v = .r a ∧ lookO t a = some (.lst l) ∧ PostV zs K φ s Q E (k a l) := lstOf_bad PostV.nb h
theorem PV.frcN {K : Kx} {φ : List Addr} {s : Shared} {Q E : Value → Shared → Prop} {n : Nat} {k : Nat → R} (h : PostV zs K φ s Q E (frcN n k)) : PostV zs K φ s Q E (k n) := (frcN_eq n k ▸ h)
theorem PV.frcL {K : Kx} {φ : List Addr} {s : Shared} {Q E : Value → Shared → Prop} {α : Type} {l : List α} {k : List α → R} (h : PostV zs K φ s Q E (frcL l k)) : PostV zs K φ s Q E (k l) := (frcL_eq l k ▸ h)
theorem PS.int {κ : Kp} {K : Kx} {φ : List Addr} {s : Shared} {Q : Flow → Shared → Prop} {E : Value → Shared → Prop} {v : V} {k : Nat → R} (h : PostS zs κ K φ s Q E (isInt v k)) : ∃ i, v = .n i ∧ PostS zs κ K φ s Q E (k i) := isInt_bad PostS.nb h
theorem PS.ref {κ : Kp} {K : Kx} {φ : List Addr} {s : Shared} {Q : Flow → Shared → Prop} {E : Value → Shared → Prop} {v : V} {k : Nat → R} (h : PostS zs κ K φ s Q E (isRef v k)) : ∃ i, v = .r i ∧ PostS zs κ K φ s Q E (k i) := isRef_bad PostS.nb h
theorem PS.if {κ : Kp} {K : Kx} {φ : List Addr} {s : Shared} {Q : Flow → Shared → Prop} {E : Value → Shared → Prop} {b : Bool} {k : R} (h : PostS zs κ K φ s Q E (ifB b k .bad)) : b = true ∧ PostS zs κ K φ s Q E k := ifB_bad PostS.nb h
theorem PS.ifn {κ : Kp} {K : Kx} {φ : List Addr} {s : Shared} {Q : Flow → Shared → Prop} {E : Value → Shared → Prop} {b : Bool} {k : R} (h : PostS zs κ K φ s Q E (ifB b .bad k)) : b = false ∧ PostS zs κ K φ s Q E k := ifN_bad PostS.nb h
theorem PS.look {κ : Kp} {K : Kx} {φ : List Addr} {s : Shared} {Q : Flow → Shared → Prop} {E : Value → Shared → Prop} {t : T} {a : Nat} {k : O → R} (h : PostS zs κ K φ s Q E (look t a k)) : ∃ o, lookO t a = some o ∧ PostS zs κ K φ s Q E (k o) := look_bad PostS.nb h
theorem PS.get {κ : Kp} {K : Kx} {φ : List Addr} {s : Shared} {Q : Flow → Shared → Prop} {E : Value → Shared → Prop} {α : Type} {l : List α} {i : Nat} {k : α → R} (h : PostS zs κ K φ s Q E (getL l i k)) : ∃ x, l[i]? = some x ∧ PostS zs κ K φ s Q E (k x) := getL_bad PostS.nb h
theorem PS.tup {κ : Kp} {K : Kx} {φ : List Addr} {s : Shared} {Q : Flow → Shared → Prop} {E : Value → Shared → Prop} {o : O} {k : List V → R} (h : PostS zs κ K φ s Q E (onTup o k)) : ∃ l, o = .tup l ∧ PostS zs κ K φ s Q E (k l) := onTup_bad PostS.nb h
theorem PS.dct {κ : Kp} {K : Kx} {φ : List Addr} {s : Shared} {Q : Flow → Shared → Prop} {E : Value → Shared → Prop} {o : O} {k : List V → R} (h : PostS zs κ K φ s Q E (onDct o k)) : ∃ l, o = .dct l ∧ PostS zs κ K φ s Q E (k l) := onDct_bad PostS.nb h
theorem PS.ins {κ : Kp} {K : Kx} {φ : List Addr} {s : Shared} {Q : Flow → Shared → Prop} {E : Value → Shared → Prop} {o : O} {k : Nat → R} (h : PostS zs κ K φ s Q E (onIns o k)) : ∃ l, o = .ins l ∧ PostS zs κ K φ s Q E (k l) := onIns_bad PostS.nb h
theorem PS.cel {κ : Kp} {K : Kx} {φ : List Addr} {s : Shared} {Q : Flow → Shared → Prop} {E : Value → Shared → Prop} {o : O} {k : V → R} (h : PostS zs κ K φ s Q E (onCel o k)) : ∃ l, o = .cel l ∧ PostS zs κ K φ s Q E (k l) := onCel_bad PostS.nb h
theorem PS.on1 {κ : Kp} {K : Kx} {φ : List Addr} {s : Shared} {Q : Flow → Shared → Prop} {E : Value → Shared → Prop} {l : List V} {k : V → R} (h : PostS zs κ K φ s Q E (on1 l k)) : ∃ x, l = [x] ∧ PostS zs κ K φ s Q E (k x) := on1_bad PostS.nb h
theorem PS.on2 {κ : Kp} {K : Kx} {φ : List Addr} {s : Shared} {Q : Flow → Shared → Prop} {E : Value → Shared → Prop} {l : List V} {k : V → V → R} (h : PostS zs κ K φ s Q E (on2 l k)) : ∃ x y, l = [x, y] ∧ PostS zs κ K φ s Q E (k x y) := on2_bad PostS.nb h
theorem PS.list {κ : Kp} {K : Kx} {φ : List Addr} {s : Shared} {Q : Flow → Shared → Prop} {E : Value → Shared → Prop} {nx : Nat} {t : T} {pn : List Nat} {v : V} {k : Nat → List V → R} (h : PostS zs κ K φ s Q E (lstOf (.mk nx t pn) v k)) : ∃ a l, v = .r a ∧ lookO t a = some (.lst l) ∧ PostS zs κ K φ s Q E (k a l) := lstOf_bad PostS.nb h
theorem PS.frcN {κ : Kp} {K : Kx} {φ : List Addr} {s : Shared} {Q : Flow → Shared → Prop} {E : Value → Shared → Prop} {n : Nat} {k : Nat → R} (h : PostS zs κ K φ s Q E (frcN n k)) : PostS zs κ K φ s Q E (k n) := (frcN_eq n k ▸ h)
theorem PS.frcL {κ : Kp} {K : Kx} {φ : List Addr} {s : Shared} {Q : Flow → Shared → Prop} {E : Value → Shared → Prop} {α : Type} {l : List α} {k : List α → R} (h : PostS zs κ K φ s Q E (frcL l k)) : PostS zs κ K φ s Q E (k l) := (frcL_eq l k ▸ h)
end
theorem blt_dec (i j : Nat) : decide ((i : Int) < (j : Int)) = Nat.blt i j := by
  have e : Nat.blt i j = Nat.ble (i + 1) j := rfl
  rw [e, Bool.eq_iff_iff, decide_eq_true_iff, Nat.ble_eq]
  omega
theorem ble_dec (i j : Nat) : decide ((i : Int) ≤ (j : Int)) = Nat.ble i j := by
  rw [Bool.eq_iff_iff, decide_eq_true_iff, Nat.ble_eq]
  omega
theorem beq_int (i j : Nat) : ((i : Int) == (j : Int)) = Nat.beq i j := by
  rw [Bool.eq_iff_iff, beq_iff_eq, Nat.beq_eq]
  omega
theorem beqS_iff : ∀ l l' : List Nat, beqS l l' = true ↔ l = l'
  | [], [] => by simp [beqS]
  | [], _ :: _ => by simp [beqS]
  | _ :: _, [] => by simp [beqS]
  | x :: l, y :: l' => by
    have ih := beqS_iff l l'
    have e : beqS (x :: l) (y :: l') = Bool.rec false (beqS l l') (Nat.beq x y) := rfl
    rw [e]
    cases hb : Nat.beq x y with
    | true => have := Nat.eq_of_beq_eq_true hb; subst this; simpa using ih
    | false => have := Nat.ne_of_beq_eq_false hb; simp [this]
theorem txN_inj {l l' : List Nat} (h : txN l = txN l') : l = l' := by
  have := congrArg (fun x : Str => x.cps.toList) h
  simpa [txN] using this
theorem txN_beq (l l' : List Nat) : (txN l == txN l') = beqS l l' := by
  rw [Bool.eq_iff_iff, beq_iff_eq, beqS_iff]
  exact ⟨txN_inj, fun h => h ▸ rfl⟩
theorem txN_bne (l l' : List Nat) : (txN l != txN l') = ntB (beqS l l') := by
  rw [bne, txN_beq]
  cases beqS l l' <;> rfl
theorem txN_len (l : List Nat) : (txN l).length = l.length := by simp [txN, Str.length]
theorem txN_app (l l' : List Nat) : txN l ++ txN l' = txN (l ++ l') := by
  have e : (txN l ++ txN l').cps = (txN l).cps ++ (txN l').cps := Str.cps_append ..
  have : ∀ x y : Str, x.cps = y.cps → x = y := fun ⟨_⟩ ⟨_⟩ h => congrArg Str.mk h
  refine this _ _ ?_
  rw [e]; simp [txN]
section
variable {w : World} {mean : ExcName → Option Value} {mg mb : Str → Option Value} {zs : List Int}
/-- a list of the store -/
theorem Kx.Led.list {K : Kx} {φ : List Addr} {nx : Nat} {t : T} {pn : List Nat} {led : List (Addr × Obj)} {k : Nat} {l : List V} {a : Addr} (Ld : K.Led zs φ (.mk nx t pn) led) (hk : lookO t k = some (.lst l)) (ha : φ[k]? = some a) :
    ∃ vs u, (a, W.listOf (List.toArray vs) u) ∈ led ∧ RVs φ l vs ∧ l.length ≤ 1000 ∧ led[k]? = some (a, W.listOf (List.toArray vs) u) := by
  obtain ⟨a', ob, h1, h2, h3, vs, u, rfl, r, hz⟩ := Ld.at hk
  rw [ha] at h1
  cases h1
  exact ⟨vs, u, h3, r, hz, h2⟩
/-- an object that a list of the store is -/
noncomputable def SeqO (o : O) (l : List V) : Prop := o = .lst l
theorem Kx.Led.seq {K : Kx} {φ : List Addr} {nx : Nat} {t : T} {pn : List Nat} {led : List (Addr × Obj)} {k : Nat} {o : O} {l : List V} {a : Addr} (Ld : K.Led zs φ (.mk nx t pn) led) (hk : lookO t k = some o) (ho : SeqO o l) (ha : φ[k]? = some a) :
    ∃ vs u, (a, W.listOf (List.toArray vs) u) ∈ led ∧ RVs φ l vs ∧ l.length ≤ 1000 ∧ led[k]? = some (a, W.listOf (List.toArray vs) u) := by
  cases ho
  exact Ld.list hk ha
theorem Kx.Led.isList {K : Kx} {φ : List Addr} {σ : St} {led : List (Addr × Obj)} {h : Heap} {a : Addr} {vs : List Value} {u : Nat} (_ : K.Led zs φ σ led) (N : News K.g K.L h (K.xl ++ led)) (hm : (a, W.listOf (List.toArray vs) u) ∈ led) : h.IsList a vs.toArray :=
  ⟨_, (N _ (List.mem_append_right _ hm)).1, rfl, u, rfl⟩
theorem RVs.ints {φ : List Addr} : ∀ {l : List V} {vs : List Value}, RVs φ l vs → ∀ ns : List Nat, l = ns.map V.n → IntsAre vs (ns.map Int.ofNat)
  | _, _, .nil, [], _ => .nil
  | _, _, .cons a r, n :: ns, e => by
    obtain ⟨e1, e2⟩ := List.cons.inj e
    subst e1
    obtain ⟨t, rfl⟩ := a
    exact .cons _ _ (RVs.ints r ns e2)
theorem BinS.add : BinS w mean mg mb zs .Add addV := by
  intro n K G φ σ s x y rv rw' Q E S rx ry P
  obtain ⟨nx, t, pn⟩ := σ
  cases x with
  | n i =>
    replace P := PV.int P; obtain ⟨j, rfl, P⟩ := P
    obtain ⟨t1, rfl⟩ := rx
    obtain ⟨t2, rfl⟩ := ry
    replace P := PV.frcN P
    exact add_int (P.now (tk := s.toks + 1) S ⟨_, by rw [← Int.natCast_add]; rfl⟩)
  | s l =>
    replace P := PV.str P; obtain ⟨l', rfl, P⟩ := P
    obtain ⟨a1, b1, t1, rfl⟩ := rx
    obtain ⟨a2, b2, t2, rfl⟩ := ry
    replace P := PV.frcL P
    rw [apl_eq] at P
    replace P := PV.lim P; obtain ⟨hz, P⟩ := P
    refine KOpn.add (by rw [txN_len, txN_len]; omega) fun t' k _ => ?_
    rw [txN_app]
    refine P.now (tk := k) S ⟨fun x hx => ?_, hz, t', rfl⟩
    rcases List.mem_append.mp hx with hx | hx
    · exact a1 x hx
    · exact a2 x hx
  | r a =>
    replace P := PV.look P; obtain ⟨o, hl, P⟩ := P
    replace P := PV.lst P; obtain ⟨l, rfl, P⟩ := P
    replace P := PV.list P; obtain ⟨b, l', rfl, hl', P⟩ := P
    replace P := PV.frcL P
    rw [apl_eq] at P
    replace P := PV.lim P; obtain ⟨hz, P⟩ := P
    obtain ⟨a1, ha1, rfl⟩ := rx
    obtain ⟨a2, ha2, rfl⟩ := ry
    obtain ⟨F, led, Ld, N⟩ := S
    obtain ⟨vs, u, h1, r1, z1, _⟩ := Ld.list hl ha1
    obtain ⟨ws, u2, h2, r2, z2, _⟩ := Ld.list hl' ha2
    refine kmk_add_lit F N (Ld.isList N h1) (Ld.isList N h2) rfl (fun D h' F' N' l1 => ?_) (by simp only [r1.len, r2.len, sizeLine_eq]; omega)
    exact Kx.Sta.new (tk := s.toks) Ld P F' N' l1 ⟨vs ++ ws, 0, rfl, (r1.app r2).mono ⟨_, rfl⟩, hz⟩
  | _ => exact P.elim
theorem BinS.sub : BinS w mean mg mb zs .Sub subV := by
  intro n K G φ σ s x y rv rw' Q E S rx ry P
  replace P := PV.int P; obtain ⟨i, rfl, P⟩ := P
  replace P := PV.int P; obtain ⟨j, rfl, P⟩ := P
  replace P := PV.if P; obtain ⟨hle, P⟩ := P
  obtain ⟨t1, rfl⟩ := rx
  obtain ⟨t2, rfl⟩ := ry
  replace P := PV.frcN P
  exact sub_int (P.now (tk := s.toks + 1) S ⟨_, by rw [← Int.ofNat_sub (Nat.le_of_ble_eq_true hle)]; rfl⟩)
theorem repS_eq (l : List Nat) : ∀ n, repS l n = (List.replicate n l).flatten
  | 0 => rfl
  | n + 1 => by
    have e : repS l (n + 1) = apl l (repS l n) := rfl
    rw [e, apl_eq, repS_eq l n, List.replicate_succ, List.flatten_cons]
theorem arr_foldl : ∀ (L : List (Array Nat)) (x : Array Nat), L.foldl (· ++ ·) x = x ++ (L.map Array.toList).flatten.toArray
  | [], x => by simp
  | a :: L, x => by
    rw [List.foldl_cons, arr_foldl L]
    apply Array.toList_inj.mp
    simp
theorem txN_mul (l : List Nat) (n : Nat) : Txt.mul (txN l) (n : Int) = txN (repS l n) := by
  have ext : ∀ x y : Str, x.cps.toList = y.cps.toList → x = y := fun ⟨_⟩ ⟨_⟩ h => congrArg Str.mk (Array.toList_inj.mp h)
  rw [repS_eq]
  unfold Txt.mul
  rcases n with _ | n
  · simp [txN]; exact ext _ _ rfl
  rw [if_neg (by omega)]
  by_cases h : ((((n + 1 : Nat) : Int) == 1 || (txN l).length == 0) = true)
  · rw [if_pos h]
    simp only [Bool.or_eq_true, beq_iff_eq, txN_len] at h
    rcases h with h | h
    · obtain rfl : n = 0 := by omega
      simp
    · obtain rfl := List.length_eq_zero_iff.mp h
      simp
  · rw [if_neg h, arr_foldl]
    refine ext _ _ ?_
    have e : ((n + 1 : Nat) : Int).toNat = n + 1 := rfl
    simp [txN, e]
theorem BinS.mul : BinS w mean mg mb zs .Mult mulU := by
  intro n K G φ σ s x y rv rw' Q E S rx ry P
  cases x with
  | n i =>
    replace P := PV.int P; obtain ⟨j, rfl, P⟩ := P
    replace P := PV.if P; obtain ⟨hle, P⟩ := P
    have hle := Nat.le_of_ble_eq_true hle
    obtain ⟨t1, rfl⟩ := rx
    obtain ⟨t2, rfl⟩ := ry
    replace P := PV.frcN P
    exact mul_int (P.now (tk := s.toks + 1) S ⟨_, by rw [← Int.natCast_mul]; rfl⟩) (IntMulOk.of_left (intBits_le_64 (by omega) (by omega)))
  | s l =>
    replace P : PostV zs K φ s Q E (mulS (.s l) y σ) := P
    replace P := PV.str P; obtain ⟨_, e, P⟩ := P
    cases e
    replace P := PV.int P; obtain ⟨j, rfl, P⟩ := P
    replace P := PV.if P; obtain ⟨hle, P⟩ := P
    replace P := PV.if P; obtain ⟨hle2, P⟩ := P
    rw [lnL_eq] at hle
    have hle := Nat.le_of_ble_eq_true hle
    have hle2 := Nat.le_of_ble_eq_true hle2
    obtain ⟨a1, b1, t1, rfl⟩ := rx
    obtain ⟨t2, rfl⟩ := ry
    replace P := PV.frcL P
    refine SB.mul (mulOk_of 16 16 (by rw [txN_len]; exact hle) (by omega) (by omega) (by decide) (by decide)) fun t' k => ?_
    rw [txN_mul]
    refine P.now (tk := k) S ⟨fun x hx => ?_, ?_, t', rfl⟩
    · rw [repS_eq, List.mem_flatten] at hx
      obtain ⟨l', h1, h2⟩ := hx
      rw [List.eq_of_mem_replicate h1] at h2
      exact a1 x h2
    · rw [repS_eq, List.length_flatten, List.map_replicate, List.sum_replicate_nat]
      have := Nat.mul_le_mul hle2 hle
      omega
  | _ => exact P.elim
theorem CmpS.lt : CmpS w mean mg mb zs .Lt (cmpV Nat.blt) := by
  intro n K G φ σ s x y rv rw' Q E S rx ry P
  replace P := PV.int P; obtain ⟨i, rfl, P⟩ := P
  replace P := PV.int P; obtain ⟨j, rfl, P⟩ := P
  obtain ⟨t1, rfl⟩ := rx
  obtain ⟨t2, rfl⟩ := ry
  exact lt_int (P.now0 S (by rw [blt_dec]; rfl))
theorem CmpS.gt : CmpS w mean mg mb zs .Gt (cmpV fun i j => Nat.blt j i) := by
  intro n K G φ σ s x y rv rw' Q E S rx ry P
  replace P := PV.int P; obtain ⟨i, rfl, P⟩ := P
  replace P := PV.int P; obtain ⟨j, rfl, P⟩ := P
  obtain ⟨t1, rfl⟩ := rx
  obtain ⟨t2, rfl⟩ := ry
  exact gt_int (P.now0 S (by rw [blt_dec]; rfl))
theorem CmpS.le : CmpS w mean mg mb zs .LtE (cmpV Nat.ble) := by
  intro n K G φ σ s x y rv rw' Q E S rx ry P
  replace P := PV.int P; obtain ⟨i, rfl, P⟩ := P
  replace P := PV.int P; obtain ⟨j, rfl, P⟩ := P
  obtain ⟨t1, rfl⟩ := rx
  obtain ⟨t2, rfl⟩ := ry
  exact le_int (P.now0 S (by rw [ble_dec]; rfl))
theorem CmpS.ge : CmpS w mean mg mb zs .GtE (cmpV fun i j => Nat.ble j i) := by
  intro n K G φ σ s x y rv rw' Q E S rx ry P
  replace P := PV.int P; obtain ⟨i, rfl, P⟩ := P
  replace P := PV.int P; obtain ⟨j, rfl, P⟩ := P
  obtain ⟨t1, rfl⟩ := rx
  obtain ⟨t2, rfl⟩ := ry
  exact ge_int (P.now0 S (by rw [ble_dec]; rfl))
theorem CmpS.eq : CmpS w mean mg mb zs .Eq eqV := by
  intro n K G φ σ s x y rv rw' Q E S rx ry P
  cases x with
  | n i =>
    replace P := PV.int P; obtain ⟨j, rfl, P⟩ := P
    obtain ⟨t1, rfl⟩ := rx
    obtain ⟨t2, rfl⟩ := ry
    exact eq_int (P.now0 S (by rw [beq_int]; rfl))
  | s l =>
    replace P := PV.str P; obtain ⟨l', rfl, P⟩ := P
    obtain ⟨_, _, t1, rfl⟩ := rx
    obtain ⟨_, _, t2, rfl⟩ := ry
    exact eq_str (P.now0 S (by rw [txN_beq]; rfl))
  | _ => exact P.elim
theorem txN_ok {l : List Nat} (h : ∀ x ∈ l, x < 128) : PyData.strOk (txN l) = true := by
  unfold PyData.strOk
  rw [Array.all_eq_true']
  intro c hc
  have := h c (by simpa [txN] using hc)
  simp only [decide_eq_true_eq] at this ⊢
  omega
theorem str1_shaped {x : Str} (h : PyData.strOk x = true) : SeqAt.shaped (.list [.str x]) = true := by simp [SeqAt.shaped, PyData.canLay0, PyData.canLayAll0, PyData.depth, PyData.depthAll, h]
theorem str1_read {h : Heap} {a : Addr} {x : Str} {t1 : Tok} (ha : h.IsList a #[.str x t1]) : Reads h (.ref a) (.list [.str x]) [a] := by
  obtain ⟨o, ho, hc, k, hd⟩ := ha
  exact reads_list_at ho hc hd (ReadsAll.cons (Reads.str _ _) ReadsAll.nil)
theorem CmpS.ne : CmpS w mean mg mb zs .NotEq neV := by
  intro n K G φ σ s x y rv rw' Q E S rx ry P
  cases x with
  | n i =>
    replace P := PV.int P; obtain ⟨j, rfl, P⟩ := P
    obtain ⟨t1, rfl⟩ := rx
    obtain ⟨t2, rfl⟩ := ry
    exact ne_int (P.now0 S (by rw [bne, beq_int]; cases Nat.beq i j <;> rfl))
  | s l =>
    replace P := PV.str P; obtain ⟨l', rfl, P⟩ := P
    obtain ⟨_, _, t1, rfl⟩ := rx
    obtain ⟨_, _, t2, rfl⟩ := ry
    exact ne_str (P.now0 S (by rw [txN_bne]; rfl))
  | r a =>
    obtain ⟨nx, t, pn⟩ := σ
    replace P := PV.look P; obtain ⟨o, hl, P⟩ := P
    replace P := PV.lst P; obtain ⟨l, rfl, P⟩ := P
    replace P := PV.list P; obtain ⟨b, l', rfl, hl', P⟩ := P
    replace P := PV.on1 P; obtain ⟨x, rfl, P⟩ := P
    replace P := PV.on1 P; obtain ⟨y, rfl, P⟩ := P
    replace P := PV.str P; obtain ⟨i, rfl, P⟩ := P
    replace P := PV.str P; obtain ⟨j, rfl, P⟩ := P
    obtain ⟨a1, ha1, rfl⟩ := rx
    obtain ⟨a2, ha2, rfl⟩ := ry
    have S₀ := S
    obtain ⟨F, led, Ld, N⟩ := S
    obtain ⟨vs, u, h1, r1, z1, _⟩ := Ld.list hl ha1
    obtain ⟨ws, u2, h2, r2, z2, _⟩ := Ld.list hl' ha2
    have i1 := Ld.isList N h1
    have i2 := Ld.isList N h2
    obtain ⟨_, rfl, ⟨q1, _, t1, rfl⟩⟩ := r1.one
    obtain ⟨_, rfl, ⟨q2, _, t2, rfl⟩⟩ := r2.one
    refine ne_dataH (str1_read i1) (str1_read i2) (str1_shaped (txN_ok q1)) (str1_shaped (txN_ok q2)) ?_ (P.now0 S₀ ?_)
    · show K.un + 64 < cLine
      have := G.u
      omega
    · show _ = Value.bool _
      congr 1
      have e : (PyData.list [.str (txN i)]).eqv (.list [.str (txN j)]) = (txN i == txN j) := by simp [PyData.eqv, PyData.eqvAll]
      rw [e, txN_beq]
      cases beqS i j <;> rfl
  | _ => exact P.elim
theorem CmpS.is : CmpS w mean mg mb zs .Is isV := by
  intro n K G φ σ s x y rv rw' Q E S rx ry P
  replace P := PV.isO P; obtain ⟨rfl, P⟩ := P
  cases ry
  cases x with
  | o => cases rx; exact is_none_none (P.now0 S rfl)
  | r a => obtain ⟨a1, _, rfl⟩ := rx; exact is_ref_none (P.now0 S rfl)
  | _ => exact P.elim
theorem CmpS.isn : CmpS w mean mg mb zs .IsNot isnV := by
  intro n K G φ σ s x y rv rw' Q E S rx ry P
  replace P := PV.isO P; obtain ⟨rfl, P⟩ := P
  cases ry
  cases x with
  | o => cases rx; exact isnot_none_none (P.now0 S rfl)
  | r a => obtain ⟨a1, _, rfl⟩ := rx; exact isnot_ref_none (P.now0 S rfl)
  | _ => exact P.elim
end
end
section
noncomputable section
noncomputable def attW (i : Nat) (A : Wd) : Wd := fun c m s => bnd (A c m s) fun x s => dctOf s x fun _ l => getL l i fun x => notU x (.v x s)
noncomputable def itmV (x j : V) (s : St) : R := isInt j fun j => V.rec (motive := fun _ => R) .bad (fun _ => .bad) (fun _ => .bad) .bad (fun l => getL l j fun y => .v (.s [y]) s)
  (fun a => lookS s a fun o => O.rec (motive := fun _ => R) (fun l => getL l j fun y => .v y s) (fun l => getL l j fun y => .v y s) (fun _ => .bad) (fun _ => .bad) .bad (fun _ => .bad) .bad o) x
/-- the item before the end -/
noncomputable def endW (k : Nat) (A : Wd) : Wd := fun c m s => bnd (A c m s) fun x s => lstOf s x fun _ l => ifB (Nat.ble k (lnL l)) (getL l (Nat.sub (lnL l) k) fun y => .v y s) .bad
noncomputable def slcW (A B C : Wd) : Wd := fun c m s => bnd (A c m s) fun x s => bnd (B c m s) fun a s => bnd (C c m s) fun b s => isRef x fun k => lookS s k fun o => isInt a fun a => isInt b fun b => O.rec (motive := fun _ => R) (fun l => frcL (tke (Nat.sub b a) (drp a l)) fun l => newS s (.lst l)) (fun _ => .bad) (fun _ => .bad) (fun _ => .bad) .bad (fun _ => .bad) .bad o
noncomputable def slaW (A B : Wd) : Wd := fun c m s => bnd (A c m s) fun x s => bnd (B c m s) fun a s => lstOf s x fun _ l => isInt a fun a => newS s (.lst (drp a l))
noncomputable def slbW (A C : Wd) : Wd := fun c m s => bnd (A c m s) fun x s => bnd (C c m s) fun b s => lstOf s x fun _ l => isInt b fun b => newS s (.lst (tke b l))
noncomputable def appW (A B : Wd) : Wd := fun c m s => bnd (A c m s) fun x s => lstOf s x fun _ _ => bnd (B c m s) fun y s => lstOf s x fun k l => frcL (apl l [y]) fun l => lim l (updS s k (.lst l) fun s => .v .o s)
noncomputable def isiW (A : Wd) : Wd := fun c m s => bnd (A c m s) fun x s => V.rec (motive := fun _ => R) .bad (fun _ => .v (.b false) s) (fun _ => .bad) .bad (fun _ => .bad) (fun k => lookS s k fun o => onTup o fun _ => .v (.b true) s) x
noncomputable def lnA {α : Type} (l : List α) : Nat → (Nat → R) → R := List.rec (motive := fun _ => Nat → (Nat → R) → R) (fun a k => k a) (fun _ _ ih a k => frcN (a+1) fun a => ih a k) l
noncomputable def lenF (l : List V) (s : St) : R := on1 l fun x => V.rec (motive := fun _ => R) .bad (fun _ => .bad) (fun _ => .bad) .bad (fun l => lnA l 0 fun z => .v (.n z) s) (fun a => lookS s a fun o => onLst o fun l => lnA l 0 fun z => .v (.n z) s) x
noncomputable def sumV (l : List V) : Nat → (Nat → R) → R := List.rec (motive := fun _ => Nat → (Nat → R) → R) (fun a k => k a) (fun x _ ih a k => isInt x fun i => frcN (a+i) fun z => ih z k) l
noncomputable def minV (l : List V) : Nat → (Nat → R) → R := List.rec (motive := fun _ => Nat → (Nat → R) → R) (fun a k => k a) (fun x _ ih a k => isInt x fun i => ifB (Nat.ble i a) (ih i k) (ih a k)) l
noncomputable def sumF (l : List V) (s : St) : R := on1 l fun x => lstOf s x fun _ l => sumV l 0 fun z => .v (.n z) s
noncomputable def minF (l : List V) (s : St) : R := on1 l fun x => lstOf s x fun _ l => List.rec (motive := fun _ => R) .bad (fun x l _ => isInt x fun i => minV l i fun z => .v (.n z) s) l
noncomputable def joiV (l : List V) : (List Nat → R) → R := List.rec (motive := fun _ => (List Nat → R) → R) (fun k => k []) (fun x _ ih k => isS x fun y => ih fun z => k (apl y z)) l
noncomputable def joiW (A : Wd) : Wd := fun c m s => bnd (A c m s) fun x s => lstOf s x fun _ l => joiV l fun z => frcL z fun z => lim z (.v (.s z) s)
end
section
variable {w : World} {mean : ExcName → Option Value} {mg mb : Str → Option Value} {zs : List Int} {κ : Kp}
theorem PV.upd {K : Kx} {φ : List Addr} {s : Shared} {Q E : Value → Shared → Prop} {nx : Nat} {t : T} {pn : List Nat} {a : Nat} {o : O} {k : St → R} (h : PostV zs K φ s Q E (updS (.mk nx t pn) a o k)) : memN a pn = false ∧ PostV zs K φ s Q E (k (.mk nx (upd t a o) pn)) := by
  obtain ⟨h1, h2⟩ := PV.ifn h
  rw [frcT_eq] at h2
  exact ⟨h1, h2⟩
theorem PS.upd {K : Kx} {φ : List Addr} {s : Shared} {Q : Flow → Shared → Prop} {E : Value → Shared → Prop} {nx : Nat} {t : T} {pn : List Nat} {a : Nat} {o : O} {k : St → R} (h : PostS zs κ K φ s Q E (updS (.mk nx t pn) a o k)) : memN a pn = false ∧ PostS zs κ K φ s Q E (k (.mk nx (upd t a o) pn)) := by
  obtain ⟨h1, h2⟩ := PS.ifn h
  rw [frcT_eq] at h2
  exact ⟨h1, h2⟩
theorem upd_set {a : Addr} {o o' : Obj} : ∀ {l : List (Addr × Obj)} {k : Nat}, (l.map (·.1)).Nodup → l[k]? = some (a, o) → Upd a o o' l (l.set k (a, o'))
  | [], _, _, h => by simp at h
  | p :: l, 0, hn, h => by
    cases h
    refine .head fun q hq e => ?_
    rw [List.map_cons, List.nodup_cons] at hn
    exact hn.1 (List.mem_map.mpr ⟨q, hq, e⟩)
  | p :: l, k + 1, hn, h => by
    rw [List.map_cons, List.nodup_cons] at hn
    exact .tail (fun e => hn.1 (List.mem_map.mpr ⟨_, List.mem_of_getElem? h, e.symm⟩)) (upd_set hn.2 h)
theorem upd_pre {a : Addr} {o o' : Obj} {l l' : List (Addr × Obj)} (h : Upd a o o' l l') : ∀ {xl : List (Addr × Obj)}, (∀ p ∈ xl, p.1 ≠ a) → Upd a o o' (xl ++ l) (xl ++ l')
  | [], _ => h
  | p :: xl, hx => .tail (hx p (.head _)) (upd_pre h fun q hq => hx q (.tail _ hq))
theorem Kx.Led.turn {K : Kx} {φ : List Addr} {nx : Nat} {t : T} {pn : List Nat} {led : List (Addr × Obj)} {k : Nat} {a : Addr} {o : O} {ob ob' : Obj} (Ld : K.Led zs φ (.mk nx t pn) led) (hk : φ[k]? = some a) (hl : led[k]? = some (a, ob)) (hn : memN k pn = false) (r : RO zs φ o (a, ob')) :
    Upd a ob ob' (K.xl ++ led) (K.xl ++ led.set k (a, ob')) ∧ K.Led zs φ (.mk nx (upd t k o) pn) (led.set k (a, ob')) :=
  ⟨upd_pre (upd_set (Ld.ad ▸ Ld.nd) hl) fun p hp e => Ld.xl p hp (e ▸ List.mem_of_getElem? hk), Ld.set hk hn r⟩
theorem PostS.done {K : Kx} {φ : List Addr} {s : Shared} {Q : Flow → Shared → Prop} {E : Value → Shared → Prop} {m : List V} {σ : St} {h' : Heap} {tk : Nat} (P : PostS zs κ K φ s Q E (.nx m σ)) (O : K.Ok κ m φ) (S : K.Sta zs φ σ h') : Q .next { s with heap := h', toks := tk } := P φ h' tk K.mm (List.prefix_refl _) O S
theorem PostV.here {K : Kx} {φ : List Addr} {s : Shared} {Q E : Value → Shared → Prop} {x : V} {σ : St} {rv : Value} {h' : Heap} {tk : Nat} (P : PostV zs K φ s Q E (.v x σ)) (S : K.Sta zs φ σ h') (r : RV φ x rv) : Q rv { s with heap := h', toks := tk } := P φ h' tk rv (List.prefix_refl _) S r
/-- a name that says one thing, whatever the state -/
noncomputable def NamS (w : World) (mean : ExcName → Option Value) (mg mb : Str → Option Value) (zs : List Int) (κ : Kp) (x : Str) (v : Value) : Prop := ∀ n (K : Kx) m φ σ s Q E pos, K.Good w mean mg mb n → K.Ok κ m φ → K.Sta zs φ σ s.heap → Q v s → wpAny (Mdl w) K.A (eval (.Name x pos) K.ev) Q E s
theorem NamS.glob {cs : Scope} {nm : Nms} {x : Str} {v : Value} (hx : nsIn (Mine.hd.heap_39 w.params) mainGlobals x = some (some v)) (hk : cs.names.lookup x = none ∨ cs.names.lookup x = some .globalImplicit) (he : ∀ cn L a ccd cl, (envX cn cs L a ccd cl).kindOf x = some .globalImplicit) (hd : (x == Str.ofString "__debug__") = false) : NamS w mean mg mb zs (.fn cs nm) x v := by
  intro n K m φ σ s Q E pos G O S h
  obtain ⟨e1, e2, _⟩ := O
  rw [e2]
  exact nameX_K S.1 G.X (topRead_of G.T) hx h G.k (by subst e1; exact he ..) hd
theorem NamS.blt {cs : Scope} {nm : Nms} {x : Str} {v : Value} (hx : nsIn (Mine.hd.heap_39 w.params) mainGlobals x = some none) (hb : bootBuiltins x = some v) (hn : x ≠ Str.ofString "__name__") (he : ∀ cn L a ccd cl, (envX cn cs L a ccd cl).kindOf x = some .globalImplicit) (hd : (x == Str.ofString "__debug__") = false) : NamS w mean mg mb zs (.fn cs nm) x v := by
  intro n K m φ σ s Q E pos G O S h
  obtain ⟨e1, e2, _⟩ := O
  rw [e2]
  exact nameX_B S.1 G.X (topRead_of G.T) hx hb hn h G.k (by subst e1; exact he ..) hd
theorem NamS.globB {cs sc : Scope} {nm : Nms} {x : Str} {v : Value} (hx : nsIn (Mine.hd.heap_39 w.params) mainGlobals x = some (some v)) (hs : sc.kind = .function) (he : ∀ cn L a ccd cl clx C, (compEnvC sc clx C (envX cn cs L a ccd cl)).kindOf x = some .globalImplicit) (hd : (x == Str.ofString "__debug__") = false) : NamS w mean mg mb zs (.cp cs sc nm) x v := by
  intro n K m φ σ s Q E pos G O S h
  obtain ⟨e1, clx, C, oC, m₂, e2, _⟩ := O
  rw [e2]
  exact LCgL.ld_global S.1 G.X G.T hx h rfl hs (by subst e1; exact he ..) hd
theorem NamS.bltB {cs sc : Scope} {nm : Nms} {x : Str} {v : Value} (hx : nsIn (Mine.hd.heap_39 w.params) mainGlobals x = some none) (hb : bootBuiltins x = some v) (hn : x ≠ Str.ofString "__name__") (hs : sc.kind = .function) (he : ∀ cn L a ccd cl clx C, (compEnvC sc clx C (envX cn cs L a ccd cl)).kindOf x = some .globalImplicit) (hd : (x == Str.ofString "__debug__") = false) : NamS w mean mg mb zs (.cp cs sc nm) x v := by
  intro n K m φ σ s Q E pos G O S h
  obtain ⟨e1, clx, C, oC, m₂, e2, _⟩ := O
  rw [e2]
  exact LCgL.ld_built S.1 G.X G.T hx hb hn h rfl rfl hs (by subst e1; exact he ..) hd
theorem ExpS.glob {x : Str} {pos : Pos} {i : Nat} {t : Tok} (h : NamS w mean mg mb zs κ x (.int (i : Int) t)) : ExpS w mean mg mb zs κ (.Name x pos) (cstW (.n i)) := by
  intro n c hc K m φ σ s Q E G O S P
  exact h n K m φ σ s Q E pos G O S (P.now0 S ⟨_, rfl⟩)
theorem ArgS.any {es : List Expr} {Ws : List Wd} (H : ArgS w mean mg mb zs κ es Ws) (pos : Pos) (env : Env) : ((backTo pos (starEach es env)).any fun x => x.1) = false := by
  induction H with
  | nil => rfl
  | cons hst _ _ ih => rw [hst]; exact ih
theorem ExpS.call {x : Str} {xp pos : Pos} {f : Addr} {e : Expr} {es : List Expr} {Ws : List Wd} (hx : NamS w mean mg mb zs κ x (.ref f)) (hk : keepIn (Mine.hd.heap_39 w.params) (.ref f) = true) (H : ArgS w mean mg mb zs κ (e :: es) Ws) : ExpS w mean mg mb zs κ (.Call (.Name x xp) (e :: es) [] pos) (calW f Ws) := by
  intro n c hc K m φ σ s Q E G O S P
  refine Call_ (hx n K m φ σ s _ E xp G O S ?_)
  have hst : starEach (e :: es) K.ev = (false, eval e K.ev) :: starEach es K.ev ∧ ((backTo pos (starEach es K.ev)).any fun x => x.1) = false := by
    cases H with
    | cons hst _ H' => exact ⟨hst _ _, H'.any _ _⟩
  refine callWith_K G.X hk (H.run hc G O S P ?_) hst.1 hst.2
  intro xs σ' φ' h' tk' vs p O' S' r P'
  exact ⟨G.X.keeps S'.1.keep, hc f xs σ' K φ' vs _ Q E G S' r P'⟩
theorem ExpS.fn {x : Str} {xp pos : Pos} {id : String} {op : List V → St → R} {e : Expr} {es : List Expr} {Ws : List Wd} (hx : NamS w mean mg mb zs κ x (.builtin id)) (ho : FunS w mean mg mb zs id op) (H : ArgS w mean mg mb zs κ (e :: es) Ws) : ExpS w mean mg mb zs κ (.Call (.Name x xp) (e :: es) [] pos) (funW op Ws) := by
  intro n c hc K m φ σ s Q E G O S P
  refine Call_ (hx n K m φ σ s _ E xp G O S ?_)
  have hst : starEach (e :: es) K.ev = (false, eval e K.ev) :: starEach es K.ev ∧ ((backTo pos (starEach es K.ev)).any fun x => x.1) = false := by
    cases H with
    | cons hst _ H' => exact ⟨hst _ _, H'.any _ _⟩
  refine callWith_builtin1 (H.run hc G O S P ?_) hst.1 hst.2
  intro xs σ' φ' h' tk' vs p O' S' r P'
  exact ho n K G φ' σ' _ xs vs Q E S' r P'
theorem seqIdx {j n : Nat} (h : j < n) : seqIndex? (j : Int) n = some j := by
  have hn : ¬ ((j : Int) < 0) := by omega
  simp [seqIndex?, hn]
  omega
/-- a place of a space -/
theorem RV.handed {φ : List Addr} : ∀ {x : V} {v : Value}, RV φ x v → handedIn v = true
  | .n _, _, ⟨_, e⟩ => e ▸ rfl
  | .b _, _, e => (show _ = _ from e) ▸ rfl
  | .o, _, e => (show _ = _ from e) ▸ rfl
  | .s _, _, ⟨_, _, _, e⟩ => e ▸ rfl
  | .r _, _, ⟨_, _, e⟩ => e ▸ rfl
theorem ExpS.att {x attr : Str} {xp pos : Pos} {A : Wd} {a : Option Value} (i : Nat) (hA : ExpS w mean mg mb zs κ (.Name x xp) A) (h1 : plainGet (Mine.hd.heap_39 w.params) 54 attr = true) (h2 : hasDictIn (Mine.hd.heap_39 w.params) 54 = true) (h3 : findIn (Mine.hd.heap_39 w.params) (.ref 54) attr = some a) (h4 : noGet (Mine.hd.heap_39 w.params) a = true)
    (h5 : ∀ H v0 v1 v2 v3 v4 v5 v6 v7 v, [v0, v1, v2, v3, v4, v5, v6, v7][i]? = some v → PySem.W.getL attr (spV H v0 v1 v2 v3 v4 v5 v6 v7) = some (some v)) : ExpS w mean mg mb zs κ (.Attribute (.Name x xp) attr pos) (attW i A) := by
  intro n c hc K m φ σ s Q E G O S P
  refine Attribute_Name_ (hA.bnd hc G O S P ?_)
  intro x σ₁ φ₁ h₁ tk₁ rv p₁ O₁ S₁ r₁ P
  obtain ⟨nx, t, pn⟩ := σ₁
  replace P := PV.ref P; obtain ⟨k, rfl, P⟩ := P
  replace P := PV.look P; obtain ⟨o, hl, P⟩ := P
  replace P := PV.ins P; obtain ⟨d, rfl, P⟩ := P
  replace P := PV.look P; obtain ⟨o, hl2, P⟩ := P
  replace P := PV.dct P; obtain ⟨l, rfl, P⟩ := P
  replace P := PV.get P; obtain ⟨y, hy, P⟩ := P
  obtain ⟨_, P⟩ := notU_bad PostV.nb P
  obtain ⟨ax, hax, rfl⟩ := r₁
  have S₀ := S₁
  obtain ⟨F, led, Ld, N⟩ := S₁
  obtain ⟨a', ob, k1, _, k3, dx, hdx, rfl⟩ := Ld.at hl
  rw [hax] at k1; cases k1
  obtain ⟨a', ob, k1, _, k4, H, v0, v1, v2, v3, v4, v5, v6, v7, e, r⟩ := Ld.at hl2
  rw [hdx] at k1; cases k1
  cases e
  obtain ⟨v, hv, rv⟩ := r.get hy
  exact get_own F G.X (InstAt.of_news N (List.mem_append_right _ k3) (List.mem_append_right _ k4)) h1 h2 h3 h4 (h5 _ _ _ _ _ _ _ _ _ _ hv) rv.handed (P.now (tk := tk₁ + 1) S₀ rv)
theorem ExpS.item {e i : Expr} {A B : Wd} {pos : Pos} (ha : ExpS w mean mg mb zs κ e A) (hb : ExpS w mean mg mb zs κ i B) (hs : ∀ o i', subscripted i false o i' = operate [o, i'] (getItem o i')) : ExpS w mean mg mb zs κ (.Subscript e i pos) (binW itmV A B) := by
  intro n c hc K m φ σ s Q E G O S P
  refine Subscript_ (ha.bnd hc G O S P ?_)
  intro x σ₁ φ₁ h₁ tk₁ rv p₁ O₁ S₁ r₁ P₁
  refine hb.bnd hc G O₁ S₁ P₁ ?_
  intro y σ₂ φ₂ h₂ tk₂ rw' p₂ O₂ S₂ r₂ P
  replace r₁ := r₁.mono p₂
  refine kba_turn (value' := .Name "" pos) (fun _ => rfl) ?_
  replace P := PV.int P; obtain ⟨j, rfl, P⟩ := P
  obtain ⟨t2, rfl⟩ := r₂
  cases x with
  | s l =>
    replace P := PV.get P; obtain ⟨y, hy, P⟩ := P
    obtain ⟨a1, b1, t1, rfl⟩ := r₁
    have hlt := (List.getElem?_eq_some_iff.mp hy).1
    refine KXi.item (n := l.length) (txN_len l) (by omega) (by omega) (by omega) (fun _ => ?_) (hs _ _)
    have e : Txt.item (txN l) (j : Int) = txN [y] := by
      have : ∀ x y : Str, x.cps = y.cps → x = y := fun ⟨_⟩ ⟨_⟩ h => congrArg Str.mk h
      refine this _ _ ?_
      have e2 : Txt.charAt (txN l) (j : Int) = some y := by
        have e3 : (txN l).length = l.length := txN_len l
        simp only [Txt.charAt, e3, seqIdx hlt]
        simp [txN, hy]
      simp only [Txt.item, e2]
      rfl
    rw [e]
    exact P.now (tk := tk₂ + 1) S₂ ⟨fun z hz => by rw [List.mem_singleton.mp hz]; exact a1 y (List.mem_of_getElem? hy), by simp, _, rfl⟩
  | r a =>
    obtain ⟨nx, t, pn⟩ := σ₂
    replace P := PV.look P; obtain ⟨o, hl, P⟩ := P
    obtain ⟨ax, hax, rfl⟩ := r₁
    have S₀ := S₂
    obtain ⟨F, led, Ld, N⟩ := S₂
    cases o with
    | lst l =>
      replace P := PV.get P; obtain ⟨y, hy, P⟩ := P
      obtain ⟨vs, u, k1, k2, k3, _⟩ := Ld.list hl hax
      obtain ⟨v, hv, rv⟩ := k2.get hy
      have hlt := (List.getElem?_eq_some_iff.mp hy).1
      exact item_listL (Ld.isList N k1) (by omega) (by omega) (by simpa using hv) (P.now (tk := tk₂) S₀ rv) (hs _ _) (fun _ => rfl)
    | tup l =>
      replace P := PV.get P; obtain ⟨y, hy, P⟩ := P
      obtain ⟨a', ob, k1, _, k3, vs, e, k2, k4⟩ := Ld.at hl
      rw [hax] at k1; cases k1
      cases e
      obtain ⟨v, hv, rv⟩ := k2.get hy
      have hlt := (List.getElem?_eq_some_iff.mp hy).1
      refine item_tupleL (j := j) ⟨_, (N _ (List.mem_append_right _ k3)).1, rfl, 0, rfl⟩ (by omega) (by omega) ?_ hv (P.now (tk := tk₂) S₀ rv) (hs _ _) (fun _ => rfl)
      have := k2.len
      exact seqIdx (by omega)
    | _ => exact P.elim
  | _ => exact P.elim
end
end
section
section
variable {w : World} {mean : ExcName → Option Value} {mg mb : Str → Option Value} {zs : List Int} {κ : Kp}
theorem seqIdxN {k n : Nat} (h1 : 1 ≤ k) (h : k ≤ n) : seqIndex? (-(k : Int)) n = some (n - k) := by
  have hn : -(k : Int) < 0 := by omega
  simp [seqIndex?, hn]
  omega
theorem ExpS.last {e : Expr} {A : Wd} {kk : Nat} {cp up pos : Pos} {q : Int} (k : Nat) (h1 : 1 ≤ k) (hq : q = (k : Int)) (ha : ExpS w mean mg mb zs κ e A) : ExpS w mean mg mb zs κ (.Subscript e (.UnaryOp .USub (.Constant (.int q) kk cp) up) pos) (endW k A) := by
  subst hq
  intro n c hc K m φ σ s Q E G O S P
  refine Subscript_ (ha.bnd hc G O S P ?_)
  intro x σ₁ φ₁ h₁ tk₁ rv p₁ O₁ S₁ r₁ P
  refine UnaryOp_ (wpAny_Constant_int (neg_int ?_))
  refine kba_turn (value' := .Name "" pos) (fun _ => rfl) ?_
  obtain ⟨nx, t, pn⟩ := σ₁
  replace P := PV.list P; obtain ⟨a, l, rfl, hl, P⟩ := P
  replace P := PV.if P; obtain ⟨hle, P⟩ := P
  replace P := PV.get P; obtain ⟨y, hy, P⟩ := P
  rw [lnL_eq] at hle hy
  have hle := Nat.le_of_ble_eq_true hle
  obtain ⟨ax, hax, rfl⟩ := r₁
  have S₀ := S₁
  obtain ⟨F, led, Ld, N⟩ := S₁
  obtain ⟨vs, u, k1, k2, k3, _⟩ := Ld.list hl hax
  have hy' : l[l.length - k]? = some y := hy
  obtain ⟨v, hv, rv⟩ := k2.get hy'
  refine kde_neg (j := l.length - k) (Ld.isList N k1) (by omega) (by omega) ?_ hv (P.now (tk := tk₁ + 1 + 1) S₀ rv)
  rw [k2.len]
  exact seqIdxN h1 hle
theorem pick_eq (l : List Value) (a b : Nat) : kms_pick l (some (a : Int)) (some (b : Int)) = (l.drop a).take (b - a) := by
  unfold kms_pick kms_lo kms_hi
  dsimp only
  rw [if_neg (by omega), if_neg (by omega), Int.toNat_natCast, Int.toNat_natCast]
  by_cases h : a ≤ l.length
  · rw [Nat.min_eq_left h]
    apply List.ext_getElem?
    intro i
    simp only [List.getElem?_take, List.getElem?_drop]
    by_cases h1 : i < b - a
    · rw [if_pos h1]
      by_cases h2 : i < min b l.length - a
      · rw [if_pos h2]
      · rw [if_neg h2, List.getElem?_eq_none (by omega)]
    · rw [if_neg h1, if_neg (by omega)]
  · have e : min a l.length = l.length := Nat.min_eq_right (by omega)
    rw [e, List.drop_eq_nil_of_le (Nat.le_refl _), List.drop_eq_nil_of_le (show l.length ≤ a by omega)]
    simp
theorem pick_a (l : List Value) (a : Nat) : kms_pick l (some (a : Int)) none = l.drop a := by
  unfold kms_pick kms_lo kms_hi
  dsimp only
  rw [if_neg (by omega), Int.toNat_natCast]
  by_cases h : a ≤ l.length
  · rw [Nat.min_eq_left h, List.take_of_length_le (by simp)]
  · have e : min a l.length = l.length := Nat.min_eq_right (by omega)
    rw [e, List.drop_eq_nil_of_le (Nat.le_refl _), List.drop_eq_nil_of_le (show l.length ≤ a by omega)]
    simp
theorem pick_b (l : List Value) (b : Nat) : kms_pick l none (some (b : Int)) = l.take b := by
  unfold kms_pick kms_lo kms_hi
  dsimp only
  rw [if_neg (by omega), Int.toNat_natCast, List.drop_zero, Nat.sub_zero]
  by_cases h : b ≤ l.length
  · rw [Nat.min_eq_left h]
  · have e : min b l.length = l.length := Nat.min_eq_right (by omega)
    rw [e, List.take_of_length_le (Nat.le_refl _), List.take_of_length_le (show l.length ≤ b by omega)]
/-- a run of a list -/
theorem slice_S {K : Kx} {n : Nat} {e sl : Expr} {pos : Pos} {φ : List Addr} {nx : Nat} {t : T} {pn : List Nat} {s : Shared} {k : Nat} {l ms : List V} {ax : Addr} {va vb : Value} {lo hi : Option Int} {Q E : Value → Shared → Prop} (G : K.Good w mean mg mb n) {o : O} (S : K.Sta zs φ (.mk nx t pn) s.heap) (hl : lookO t k = some o) (ho : SeqO o l) (hax : φ[k]? = some ax) (pa : IsPart va lo) (pb : IsPart vb hi)
    (hm : ∀ vs : List Value, RVs φ l vs → RVs φ ms (kms_pick vs lo hi)) (hlen : ms.length ≤ l.length) (hs : ∀ o i', subscripted sl false o i' = operate [i', o] (getItem o i')) (P : PostV zs K φ s Q E (newS (.mk nx t pn) (.lst ms))) :
    wpAny (Mdl w) K.A (subscriptTail e sl (.ref ax) (.ref s.heap.objs.size)) Q E { s with heap := s.heap.push { cls := .type "slice", data := .fields #[va, vb, .none] } } := by
  refine kba_turn (value' := .Name "" pos) (fun _ => rfl) ?_
  obtain ⟨F, led, Ld, N⟩ := S
  obtain ⟨vs, u, k1, k2, k3, _⟩ := Ld.seq hl ho hax
  refine kms_slice_lit F N (Ld.isList N k1) pa pb rfl (fun D h' F' N' l1 => ?_) (hs _ _) (fun _ => rfl) (by simp only [List.size_toArray, k2.len, sizeLine_eq]; omega)
  exact Kx.Sta.new (tk := s.toks) Ld P F' N' l1 ⟨_, 0, rfl, (hm vs k2).mono ⟨_, rfl⟩, Nat.le_trans hlen k3⟩
theorem ExpS.slice {e a b : Expr} {A B C : Wd} {sp pos : Pos} (he : ExpS w mean mg mb zs κ e A) (ha : ExpS w mean mg mb zs κ a B) (hb : ExpS w mean mg mb zs κ b C) : ExpS w mean mg mb zs κ (.Subscript e (.Slice (some a) (some b) none sp) pos) (slcW A B C) := by
  intro n c hc K m φ σ s Q E G O S P
  refine Subscript_ (he.bnd hc G O S P ?_)
  intro x σ₁ φ₁ h₁ tk₁ rv p₁ O₁ S₁ r₁ P₁
  refine wpAny_Slice (evalPart_some_step (ha.bnd hc G O₁ S₁ P₁ ?_))
  intro y σ₂ φ₂ h₂ tk₂ rw₂ p₂ O₂ S₂ r₂ P₂
  refine evalPart_some_step (hb.bnd hc G O₂ S₂ P₂ ?_)
  intro z σ₃ φ₃ h₃ tk₃ rw₃ p₃ O₃ S₃ r₃ P
  refine evalPart_none_step ?_
  replace r₁ := r₁.mono (p₂.trans p₃)
  replace r₂ := r₂.mono p₃
  obtain ⟨nx, t, pn⟩ := σ₃
  replace P := PV.ref P; obtain ⟨k, rfl, P⟩ := P
  replace P := PV.look P; obtain ⟨o, hl, P⟩ := P
  replace P := PV.int P; obtain ⟨i, rfl, P⟩ := P
  replace P := PV.int P; obtain ⟨j, rfl, P⟩ := P
  obtain ⟨ax, hax, rfl⟩ := r₁
  obtain ⟨t2, rfl⟩ := r₂
  obtain ⟨t3, rfl⟩ := r₃
  obtain ⟨l, ho, P⟩ : ∃ l, SeqO o l ∧ PostV zs K φ₃ { s with heap := h₃, toks := tk₃ } Q E (newS (.mk nx t pn) (.lst ((l.drop i).take (j - i)))) := by
    cases o with
    | lst l =>
      replace P := PV.frcL P
      rw [tke_eq, drp_eq] at P
      exact ⟨l, rfl, P⟩
    | _ => exact P.elim
  refine slice_S (pos := pos) (s := { s with heap := h₃, toks := tk₃ }) G S₃ hl ho hax (.int _ _) (.int _ _) (fun vs r => ?_) ?_ (fun _ _ => rfl) P
  · rw [pick_eq]; exact (r.drop i).take (j - i)
  · simp only [List.length_take, List.length_drop]; omega
theorem ExpS.sliceA {e a : Expr} {A B : Wd} {sp pos : Pos} (he : ExpS w mean mg mb zs κ e A) (ha : ExpS w mean mg mb zs κ a B) : ExpS w mean mg mb zs κ (.Subscript e (.Slice (some a) none none sp) pos) (slaW A B) := by
  intro n c hc K m φ σ s Q E G O S P
  refine Subscript_ (he.bnd hc G O S P ?_)
  intro x σ₁ φ₁ h₁ tk₁ rv p₁ O₁ S₁ r₁ P₁
  refine wpAny_Slice (evalPart_some_step (ha.bnd hc G O₁ S₁ P₁ ?_))
  intro y σ₂ φ₂ h₂ tk₂ rw₂ p₂ O₂ S₂ r₂ P
  refine evalPart_none_step (evalPart_none_step ?_)
  replace r₁ := r₁.mono p₂
  obtain ⟨nx, t, pn⟩ := σ₂
  replace P := PV.list P; obtain ⟨k, l, rfl, hl, P⟩ := P
  replace P := PV.int P; obtain ⟨i, rfl, P⟩ := P
  rw [drp_eq] at P
  obtain ⟨ax, hax, rfl⟩ := r₁
  obtain ⟨t2, rfl⟩ := r₂
  refine slice_S (pos := pos) (s := { s with heap := h₂, toks := tk₂ }) G S₂ hl rfl hax (.int _ _) .none (fun vs r => ?_) ?_ (fun _ _ => rfl) P
  · rw [pick_a]; exact r.drop i
  · simp only [List.length_drop]; omega
theorem ExpS.sliceB {e b : Expr} {A C : Wd} {sp pos : Pos} (he : ExpS w mean mg mb zs κ e A) (hb : ExpS w mean mg mb zs κ b C) : ExpS w mean mg mb zs κ (.Subscript e (.Slice none (some b) none sp) pos) (slbW A C) := by
  intro n c hc K m φ σ s Q E G O S P
  refine Subscript_ (he.bnd hc G O S P ?_)
  intro x σ₁ φ₁ h₁ tk₁ rv p₁ O₁ S₁ r₁ P₁
  refine wpAny_Slice (evalPart_none_step (evalPart_some_step (hb.bnd hc G O₁ S₁ P₁ ?_)))
  intro y σ₂ φ₂ h₂ tk₂ rw₂ p₂ O₂ S₂ r₂ P
  refine evalPart_none_step ?_
  replace r₁ := r₁.mono p₂
  obtain ⟨nx, t, pn⟩ := σ₂
  replace P := PV.list P; obtain ⟨k, l, rfl, hl, P⟩ := P
  replace P := PV.int P; obtain ⟨i, rfl, P⟩ := P
  rw [tke_eq] at P
  obtain ⟨ax, hax, rfl⟩ := r₁
  obtain ⟨t2, rfl⟩ := r₂
  refine slice_S (pos := pos) (s := { s with heap := h₂, toks := tk₂ }) G S₂ hl rfl hax .none (.int _ _) (fun vs r => ?_) ?_ (fun _ _ => rfl) P
  · rw [pick_b]; exact r.take i
  · simp only [List.length_take]; omega
theorem ExpS.append {o e : Expr} {A B : Wd} {ap pos : Pos} (ho : ExpS w mean mg mb zs κ o A) (he : ExpS w mean mg mb zs κ e B) (hst : ∀ rest env, starEach (e :: rest) env = (false, eval e env) :: starEach rest env)
    (hm : ∀ env, ∃ pl, eval ((o.Attribute "append" ap).Call [e] [] pos) env = (do
      let ov ← eval o env
      standAt ap.atName
      let __x ← holding [ov] (getMethod ov "append" pl)
      match __x with
      | (f, first) => callWith pos f first (backTo pos (starEach [e] env)) [])) : ExpS w mean mg mb zs κ ((o.Attribute "append" ap).Call [e] [] pos) (appW A B) := by
  intro n c hc K m φ σ s Q E G O S P
  obtain ⟨pl, hm⟩ := hm K.ev
  refine MethodCall_ (ho.bnd hc G O S P ?_) hm
  intro x σ₁ φ₁ h₁ tk₁ rv p₁ O₁ S₁ r₁ P
  obtain ⟨nx, t, pn⟩ := σ₁
  replace P := PV.list P; obtain ⟨k, l, rfl, hl, P⟩ := P
  obtain ⟨ax, hax, rfl⟩ := r₁
  have S₀ := S₁
  obtain ⟨F, led, Ld, N⟩ := S₁
  obtain ⟨vs, u, k1, k2, k3, _⟩ := Ld.list hl hax
  refine listMethod_K N (List.mem_append_right _ k1) PySem.F.slot_list_append PySem.type_list_append ?_
  refine callWith_method1 (args_cons (he.bnd hc G O₁ S₀ P ?_) (hst _ _)) (hst _ _) rfl
  intro y σ₂ φ₂ h₂ tk₂ rw₂ p₂ O₂ S₂ r₂ P
  refine args_nil ?_
  obtain ⟨nx, t, pn⟩ := σ₂
  replace P := PV.list P; obtain ⟨k', l, ek, hl, P⟩ := P
  cases ek
  replace P := PV.frcL P
  rw [apl_eq] at P
  replace P := PV.lim P; obtain ⟨hlim, P⟩ := P
  replace P := PV.upd P; obtain ⟨hmem, P⟩ := P
  replace hax := pre_get p₂ hax
  obtain ⟨F, led, Ld, N⟩ := S₂
  obtain ⟨vs, u, k1, k2, k3, k4⟩ := Ld.list hl hax
  obtain ⟨U, Ld'⟩ := Ld.turn (o := .lst (l ++ [y])) (ob' := W.listOf (List.toArray (vs ++ [rw₂])) (u + 1)) hax k4 hmem ⟨_, _, rfl, k2.app (.cons r₂ .nil), hlim⟩
  refine append_K F N (its := vs.toArray) (n := u) (x := rw₂) (by simpa using U) (fun h' F' N' => ?_) (by simp only [List.size_toArray, k2.len, sizeLine_eq]; omega)
  exact P.here (tk := tk₂) ⟨F', _, Ld', by simpa using N'⟩ rfl
theorem ExpS.isi {x t : Str} {xp tp pos : Pos} {e : Expr} {A : Wd} (hx : NamS w mean mg mb zs κ x (.builtin "isinstance")) (ht : NamS w mean mg mb zs κ t (.type "tuple")) (he : ExpS w mean mg mb zs κ e A) (hst : ∀ rest env, starEach (e :: rest) env = (false, eval e env) :: starEach rest env) : ExpS w mean mg mb zs κ (.Call (.Name x xp) [e, .Name t tp] [] pos) (isiW A) := by
  intro n c hc K m φ σ s Q E G O S P
  refine Call_ (hx n K m φ σ s _ E xp G O S ?_)
  refine callWith_builtin1 (args_cons (he.bnd hc G O S P ?_) (hst _ _)) (hst _ _) rfl
  intro y σ₁ φ₁ h₁ tk₁ rv p₁ O₁ S₁ r₁ P
  refine args_cons (ht n K m φ₁ σ₁ _ _ E tp G O₁ S₁ ?_)
  refine args_nil ?_
  cases y with
  | n i =>
    obtain ⟨t, rfl⟩ := r₁
    exact IsiPair.int_tuple (P.now (tk := tk₁ + 1) S₁ rfl)
  | r k =>
    obtain ⟨nx, t, pn⟩ := σ₁
    replace P := PV.look P; obtain ⟨o, hl, P⟩ := P
    replace P := PV.tup P; obtain ⟨l, rfl, P⟩ := P
    obtain ⟨ax, hax, rfl⟩ := r₁
    have S₀ := S₁
    obtain ⟨F, led, Ld, N⟩ := S₁
    obtain ⟨a', ob, k1, _, k3, vs, e, k2, k4⟩ := Ld.at hl
    rw [hax] at k1; cases k1
    cases e
    exact call_isinstance_yes (Tx := "tuple") (T := "tuple") ⟨_, (N _ (List.mem_append_right _ k3)).1, rfl⟩ (by kernel_rfl) isSubtype_tuple_tuple (P.now0 S₀ rfl)
  | _ => exact P.elim
theorem lnA_eq {α : Type} (l : List α) : ∀ (a : Nat) (k : Nat → R), lnA l a k = k (a + l.length) := by
  induction l with
  | nil => exact fun _ _ => rfl
  | cons x l ih =>
    intro a k
    have e : lnA (x :: l) a k = frcN (a + 1) fun a => lnA l a k := rfl
    rw [e, frcN_eq, ih]
    congr 1
    simp only [List.length_cons]; omega
theorem FunS.len : FunS w mean mg mb zs "len" lenF := by
  intro n K G φ σ s xs vs Q E S r P
  replace P := PV.on1 P; obtain ⟨x, rfl, P⟩ := P
  obtain ⟨_, rfl, rx⟩ := r.one
  cases x with
  | s l =>
    obtain ⟨a1, b1, t1, rfl⟩ := rx
    replace P : PostV zs K φ s Q E (lnA l 0 fun z => .v (.n z) σ) := P
    rw [lnA_eq] at P
    refine PySem.P.len_str (by rw [txN_len]; omega) ?_
    rw [txN_len]
    exact PostV.now (tk := s.toks + 1 + 1) P S ⟨_, by rw [Nat.zero_add]⟩
  | r a =>
    obtain ⟨nx, t, pn⟩ := σ
    replace P := PV.look P; obtain ⟨o, hl, P⟩ := P
    replace P := PV.lst P; obtain ⟨l, rfl, P⟩ := P
    rw [lnA_eq] at P
    obtain ⟨ax, hax, rfl⟩ := rx
    have S₀ := S
    obtain ⟨F, led, Ld, N⟩ := S
    obtain ⟨vs, u, k1, k2, k3, _⟩ := Ld.list hl hax
    refine kun_lenL (k := (l.length : Int)) (Ld.isList N k1) (by simp [k2.len]) (by omega) ?_
    exact PostV.now (tk := s.toks + 1 + 1) P S₀ ⟨_, by rw [Nat.zero_add]⟩
  | _ => exact P.elim
end
end
section
noncomputable section
noncomputable def srtF (l : List V) (s : St) : R := on1 l fun x => lstOf s x fun _ l => List.rec (motive := fun _ => R) .bad (fun p l' _ => List.rec (motive := fun _ => R) (newS s (.lst [p])) (fun q l'' _ => List.rec (motive := fun _ => R)
  (tupOf s p fun _ a => tupOf s q fun _ b => on2 a fun i e => on2 b fun j f => isInt i fun i => isInt e fun _ => isInt j fun j => isInt f fun _ => ifB (Nat.blt i j) (newS s (.lst [p, q])) (ifB (Nat.blt j i) (newS s (.lst [q, p])) .bad)) (fun _ _ _ => .bad) l'') l') l
end
section
variable {prog : Program} {w : World} {A : Around} {E : Value → Shared → Prop} {s : Shared} {h₀ : Heap} {L : Addr} {m : Str → Option Value} {news : List (Addr × Obj)}
theorem kas_two : kas_sort 2 = KasT.ask 1 0 (fun c => KasT.ret (if c then #[1, 0] else #[0, 1])) := congrArg (KasT.ask 1 0) (funext fun c => by cases c <;> rfl)
theorem sorted_two {l p q : Addr} {a b c d : Int} {ta tb tc td : Tok} {u : Nat} {Q : Value → Shared → Prop} (hac : a ≠ c) (F : Fr h₀ L s.heap m) (N : News h₀ L s.heap news) (hl : (l, W.listOf #[.ref p, .ref q] u) ∈ news) (hp : (p, ({ cls := .type "tuple", data := .seq #[.int a ta, .int b tb] } : Obj)) ∈ news) (hq : (q, ({ cls := .type "tuple", data := .seq #[.int c tc, .int d td] } : Obj)) ∈ news)
    (h : ∀ D e h', Fr h₀ L h' m → News h₀ L h' ((D, W.listOf (if a < c then #[.ref p, .ref q] else #[.ref q, .ref p]) e) :: news) → (∀ q ∈ news, q.1 < D) → Q (.ref D) { s with heap := h' }) :
    wpAny (model prog w) A (call (.builtin "sorted") [.ref l]) Q E s := by
  refine kat_sorted (vs := [.ref p, .ref q]) F N ⟨_, (N _ hl).1, rfl, u, rfl⟩ (by simp) (by simp) ?_
  intro D e1 h' F' N' l1
  have gp := (N' _ (.tail _ hp)).1
  have gq := (N' _ (.tail _ hq)).1
  refine kat_kind (fs := [.int a ta, .int c tc]) (T := .type "int") ?_ (by simp) ?_ (by decide) ?_
  · exact KatTups.cons gp rfl rfl rfl (KatTups.cons gq rfl rfl rfl KatTups.nil)
  · intro v hv
    simp only [List.mem_cons, List.not_mem_nil, or_false] at hv
    rcases hv with rfl | rfl <;> exact Looks.of_pure rfl
  rw [show (Value.type "int" != Value.type "tuple") = true by decide]
  show KasT.kasWp _ (kas_sort 2) _ _
  rw [kas_two]
  show wpAny _ _ (keyLt' (tuples' true) (Value.ref q) (Value.ref p)) _ _ _
  refine kat_lt gq rfl gp rfl (kat_cons (wpAny_eqBool_int ?_))
  have e : (c == a) = false := beq_eq_false_iff_ne.mpr (Ne.symm hac)
  rw [e]
  refine kat_no (oneLt_int ?_)
  have key : KasFin h₀ L m D e1 [if c < a then .ref q else .ref p, if c < a then .ref p else .ref q] (fun s3 => Q (Value.ref D) s3) { s with heap := h' } := by
    refine KasFin.intro F' N' (UpdF.head fun r hr => Nat.ne_of_lt (l1 r hr)) fun h2 c2 F2 N2 => h D c2 h2 F2 ?_ l1
    by_cases hlt : c < a
    · rw [if_neg (by omega)]; rw [if_pos hlt, if_pos hlt] at N2; exact N2
    · rw [if_pos (by omega)]; rw [if_neg hlt, if_neg hlt] at N2; exact N2
  by_cases hlt : c < a
  · rw [show (decide (c < a)) = true from decide_eq_true hlt]
    rw [if_pos hlt, if_pos hlt] at key
    exact key
  · rw [show (decide (c < a)) = false from decide_eq_false hlt]
    rw [if_neg hlt, if_neg hlt] at key
    exact key
end
section
variable {w : World} {mean : ExcName → Option Value} {mg mb : Str → Option Value} {zs : List Int} {κ : Kp}
theorem pv_sum {K : Kx} {φ : List Addr} {s : Shared} {Q E : Value → Shared → Prop} : ∀ {l : List V} {a : Nat} {k : Nat → R}, PostV zs K φ s Q E (sumV l a k) → ∃ ns : List Nat, l = ns.map V.n ∧ PostV zs K φ s Q E (k (a + ns.sum))
  | [], _, _, h => ⟨[], rfl, h⟩
  | x :: l, a, k, h => by
    replace h := PV.int (show PostV zs K φ s Q E (isInt x fun i => frcN (a + i) fun z => sumV l z k) from h); obtain ⟨i, rfl, h⟩ := h
    replace h := pv_sum (PV.frcN h); obtain ⟨ns, rfl, h⟩ := h
    exact ⟨i :: ns, rfl, by rw [List.sum_cons, ← Nat.add_assoc]; exact h⟩
theorem pv_min {K : Kx} {φ : List Addr} {s : Shared} {Q E : Value → Shared → Prop} : ∀ {l : List V} {a : Nat} {k : Nat → R}, PostV zs K φ s Q E (minV l a k) → ∃ (ns : List Nat) (z : Nat), l = ns.map V.n ∧ PostV zs K φ s Q E (k z) ∧ z ∈ a :: ns ∧ ∀ y ∈ a :: ns, z ≤ y
  | [], a, _, h => ⟨[], a, rfl, h, .head _, fun y hy => by rw [List.mem_singleton.mp hy]; exact Nat.le_refl _⟩
  | x :: l, a, k, h => by
    replace h : PostV zs K φ s Q E (isInt x fun i => ifB (Nat.ble i a) (minV l i k) (minV l a k)) := h
    replace h := PV.int h; obtain ⟨i, rfl, h⟩ := h
    cases hb : Nat.ble i a with
    | true =>
      rw [hb] at h
      have hb := Nat.le_of_ble_eq_true hb
      replace h := pv_min (l := l) (a := i) h; obtain ⟨ns, z, rfl, h, h1, h2⟩ := h
      refine ⟨i :: ns, z, rfl, h, .tail _ h1, fun y hy => ?_⟩
      rcases List.mem_cons.mp hy with rfl | hy
      · exact Nat.le_trans (h2 i (.head _)) hb
      · exact h2 y hy
    | false =>
      rw [hb] at h
      have hb : ¬ i ≤ a := fun h => by rw [Nat.ble_eq_true_of_le h] at hb; cases hb
      replace h := pv_min (l := l) (a := a) h; obtain ⟨ns, z, rfl, h, h1, h2⟩ := h
      refine ⟨i :: ns, z, rfl, h, ?_, fun y hy => ?_⟩
      · rcases List.mem_cons.mp h1 with rfl | h1
        · exact .head _
        · exact .tail _ (.tail _ h1)
      · rcases List.mem_cons.mp hy with rfl | hy
        · exact h2 _ (.head _)
        rcases List.mem_cons.mp hy with rfl | hy
        · have := h2 a (.head _); omega
        · exact h2 y (.tail _ hy)
theorem pv_joi {K : Kx} {φ : List Addr} {s : Shared} {Q E : Value → Shared → Prop} : ∀ {l : List V} {k : List Nat → R}, PostV zs K φ s Q E (joiV l k) → ∃ ls : List (List Nat), l = ls.map V.s ∧ PostV zs K φ s Q E (k ls.flatten)
  | [], _, h => ⟨[], rfl, h⟩
  | x :: l, k, h => by
    replace h := PV.str (show PostV zs K φ s Q E (isS x fun y => joiV l fun z => k (apl y z)) from h); obtain ⟨y, rfl, h⟩ := h
    replace h := pv_joi h; obtain ⟨ls, rfl, h⟩ := h
    exact ⟨y :: ls, rfl, by rw [apl_eq] at h; exact h⟩
theorem sum_ofNat (ns : List Nat) : (ns.map Int.ofNat).sum = ((ns.sum : Nat) : Int) := by
  induction ns with
  | nil => rfl
  | cons n ns ih => rw [List.map_cons, List.sum_cons, List.sum_cons, ih]; simp
theorem FunS.sum : FunS w mean mg mb zs "sum" sumF := by
  intro n K G φ σ s xs vs Q E S r P
  replace P := PV.on1 P; obtain ⟨x, rfl, P⟩ := P
  obtain ⟨_, rfl, rx⟩ := r.one
  obtain ⟨nx, t, pn⟩ := σ
  replace P := PV.list P; obtain ⟨k, l, rfl, hl, P⟩ := P
  replace P := pv_sum P; obtain ⟨ns, rfl, P⟩ := P
  obtain ⟨ax, hax, rfl⟩ := rx
  obtain ⟨F, led, Ld, N⟩ := S
  obtain ⟨vs, u, k1, k2, k3, _⟩ := Ld.list hl hax
  refine sumK rfl F N (Ld.isList N k1) (k2.ints ns rfl) fun h' tk t' F' N' => ?_
  exact P.here (tk := tk) ⟨F', led, Ld, N'⟩ ⟨t', by rw [sum_ofNat, Nat.zero_add]⟩
theorem FunS.min : FunS w mean mg mb zs "min" minF := by
  intro n K G φ σ s xs vs Q E S r P
  replace P := PV.on1 P; obtain ⟨x, rfl, P⟩ := P
  obtain ⟨_, rfl, rx⟩ := r.one
  obtain ⟨nx, t, pn⟩ := σ
  replace P := PV.list P; obtain ⟨k, l, rfl, hl, P⟩ := P
  rcases l with _ | ⟨x, l⟩
  · exact P.elim
  replace P : PostV zs K φ s Q E (isInt x fun i => minV l i fun z => .v (.n z) (.mk nx t pn)) := P
  replace P := PV.int P; obtain ⟨i, rfl, P⟩ := P
  replace P := pv_min P; obtain ⟨ns, z, rfl, P, h1, h2⟩ := P
  obtain ⟨ax, hax, rfl⟩ := rx
  obtain ⟨F, led, Ld, N⟩ := S
  obtain ⟨vs, u, k1, k2, k3, _⟩ := Ld.list hl hax
  refine kso_min F N (Ld.isList N k1) (k2.ints (i :: ns) rfl) (by simp) rfl fun h' M t tk F' N' hM hle => ?_
  refine P.here (tk := tk) ⟨F', led, Ld, N'⟩ ⟨t, ?_⟩
  obtain ⟨y, hy, rfl⟩ := List.mem_map.mp hM
  have a1 := h2 y hy
  have a2 := hle (Int.ofNat z) (List.mem_map_of_mem h1)
  have : y = z := by simp only [Int.ofNat_eq_natCast] at a2; omega
  rw [this]; rfl
theorem txN_codes (l : List Nat) : KStt.codes (txN l) = l.map Int.ofNat := by simp [KStt.codes, txN]
theorem txN_join (ls : List (List Nat)) : Txt.join (Str.ofString "") (ls.map txN) = txN ls.flatten := by
  apply codes_inj
  rw [codes_join, txN_codes, List.map_map]
  induction ls with
  | nil => rfl
  | cons l ls ih => rw [List.map_cons, List.flatten_cons, List.flatten_cons, List.map_append, ← ih]; simp only [Function.comp, txN_codes]
theorem RVs.strs {φ : List Addr} : ∀ {l : List V} {vs : List Value}, RVs φ l vs → ∀ ls : List (List Nat), l = ls.map V.s → StrsAre vs (ls.map txN) ∧ ∀ y ∈ ls, ∀ x ∈ y, x < 128
  | _, _, .nil, [], _ => ⟨.nil, fun _ h => nomatch h⟩
  | _, _, .cons a r, n :: ns, e => by
    obtain ⟨e1, e2⟩ := List.cons.inj e
    subst e1
    obtain ⟨q1, _, t, rfl⟩ := a
    obtain ⟨i1, i2⟩ := RVs.strs r ns e2
    refine ⟨.cons _ _ i1, fun y hy => ?_⟩
    rcases List.mem_cons.mp hy with rfl | hy
    · exact q1
    · exact i2 y hy
theorem lens_eq (ls : List (List Nat)) : ((ls.map txN).map fun x => x.length).sum = ls.flatten.length := by
  induction ls with
  | nil => rfl
  | cons l ls ih => rw [List.map_cons, List.map_cons, List.sum_cons, ih, txN_len, List.flatten_cons, List.length_append]
theorem ExpS.join {e : Expr} {A : Wd} {pos ap cp : Pos} {kk : Nat} (he : ExpS w mean mg mb zs κ e A) (hst : ∀ rest env, starEach (e :: rest) env = (false, eval e env) :: starEach rest env)
    (hm : ∀ env, ∃ pl, eval (((Expr.Constant (.str "") kk cp).Attribute "join" ap).Call [e] [] pos) env = (do
      let ov ← eval (.Constant (.str "") kk cp) env
      standAt ap.atName
      let __x ← holding [ov] (getMethod ov "join" pl)
      match __x with
      | (f, first) => callWith pos f first (backTo pos (starEach [e] env)) [])) : ExpS w mean mg mb zs κ (.Call (.Attribute (.Constant (.str "") kk cp) "join" ap) [e] [] pos) (joiW A) := by
  intro n c hc K m φ σ s Q E G O S P
  obtain ⟨pl, hm⟩ := hm K.ev
  refine MethodCall_ (Calls.Constant_str (GM.join (callWith_method1 (args_cons (he.bnd hc G O (s := { s with toks := s.toks + 1 }) S (PostV.later (List.prefix_refl _) P) ?_) (hst _ _)) (hst _ _) rfl))) hm
  intro x σ₁ φ₁ h₁ tk₁ rv p₁ O₁ S₁ r₁ P
  refine args_nil ?_
  obtain ⟨nx, t, pn⟩ := σ₁
  replace P := PV.list P; obtain ⟨k, l, rfl, hl, P⟩ := P
  replace P := pv_joi P; obtain ⟨ls, rfl, P⟩ := P
  replace P := PV.frcL P
  replace P := PV.lim P; obtain ⟨hlim, P⟩ := P
  obtain ⟨ax, hax, rfl⟩ := r₁
  have S₀ := S₁
  obtain ⟨F, led, Ld, N⟩ := S₁
  obtain ⟨vs, u, k1, k2, k3, _⟩ := Ld.list hl hax
  obtain ⟨i1, i2⟩ := k2.strs ls rfl
  have e0 : (Str.ofString "").length = 0 := by decide +kernel
  refine join_list (ys := ls.map txN) (Ld.isList N k1) (by simpa using i1) (by rw [lens_eq]; show _ + _ * (Str.ofString "").length ≤ _; rw [e0]; omega) fun t' k => ?_
  have ej : Txt.join (Str.ofString "") (ls.map txN) = txN ls.flatten := txN_join ls
  refine Eq.mpr (congrArg (fun z => Q (Value.str z t') _) ej) ?_
  refine P.here (tk := k) S₀ ⟨fun x hx => ?_, hlim, t', rfl⟩
  obtain ⟨y, hy, hx⟩ := List.mem_flatten.mp hx
  exact i2 y hy x hx
theorem pv_tup {K : Kx} {φ : List Addr} {s : Shared} {Q E : Value → Shared → Prop} {nx : Nat} {t : T} {pn : List Nat} {v : V} {k : Nat → List V → R} (h : PostV zs K φ s Q E (tupOf (.mk nx t pn) v k)) : ∃ a l, v = .r a ∧ lookO t a = some (.tup l) ∧ PostV zs K φ s Q E (k a l) := by
  obtain ⟨a, rfl, h⟩ := PV.ref h
  obtain ⟨o, h1, h⟩ := PV.look h
  obtain ⟨l, rfl, h⟩ := PV.tup h
  exact ⟨a, l, rfl, h1, h⟩
theorem FunS.sorted : FunS w mean mg mb zs "sorted" srtF := by
  intro n K G φ σ s xs vs Q E S r P
  replace P := PV.on1 P; obtain ⟨x, rfl, P⟩ := P
  obtain ⟨_, rfl, rx⟩ := r.one
  obtain ⟨nx, t, pn⟩ := σ
  replace P := PV.list P; obtain ⟨k, l, rfl, hl, P⟩ := P
  obtain ⟨ax, hax, rfl⟩ := rx
  obtain ⟨F, led, Ld, N⟩ := S
  obtain ⟨vs, u, k1, k2, k3, _⟩ := Ld.list hl hax
  rcases l with _ | ⟨x, _ | ⟨y, _ | ⟨z, l⟩⟩⟩
  · exact P.elim
  · obtain ⟨_, rfl, rx⟩ := k2.one
    refine sorted_one F N (Ld.isList N k1) fun D c h' F' N' l1 => ?_
    exact Kx.Sta.new (tk := s.toks) Ld P F' N' l1 ⟨_, c, rfl, (RVs.cons rx .nil).mono ⟨_, rfl⟩, by simp⟩
  · obtain ⟨_, _, rfl, rx, ry⟩ := k2.two
    replace P := pv_tup P; obtain ⟨p, lp, rfl, hp, P⟩ := P
    replace P := pv_tup P; obtain ⟨q, lq, rfl, hq, P⟩ := P
    replace P := PV.on2 P; obtain ⟨i, e, rfl, P⟩ := P
    replace P := PV.on2 P; obtain ⟨j, f, rfl, P⟩ := P
    replace P := PV.int P; obtain ⟨i, rfl, P⟩ := P
    replace P := PV.int P; obtain ⟨e, rfl, P⟩ := P
    replace P := PV.int P; obtain ⟨j, rfl, P⟩ := P
    replace P := PV.int P; obtain ⟨f, rfl, P⟩ := P
    obtain ⟨ap, hap, rfl⟩ := rx
    obtain ⟨aq, haq, rfl⟩ := ry
    obtain ⟨a', ob, q1, _, q3, vp, ee, q4, _⟩ := Ld.at hp
    rw [hap] at q1; cases q1; cases ee
    obtain ⟨a', ob, q1, _, q5, vq, ee, q6, _⟩ := Ld.at hq
    rw [haq] at q1; cases q1; cases ee
    obtain ⟨_, _, rfl, ⟨ta, rfl⟩, ⟨tb, rfl⟩⟩ := q4.two
    obtain ⟨_, _, rfl, ⟨tc, rfl⟩, ⟨td, rfl⟩⟩ := q6.two
    have hne : (i : Int) ≠ j := by
      intro e
      obtain rfl : i = j := by omega
      have hb : Nat.blt i i = false := by rw [← blt_dec]; exact decide_eq_false (by omega)
      rw [hb] at P
      exact P.elim
    refine sorted_two hne F N (List.mem_append_right _ k1) (List.mem_append_right _ q3) (List.mem_append_right _ q5) fun D c h' F' N' l1 => ?_
    by_cases hlt : (i : Int) < j
    · rw [if_pos hlt] at N'
      have hb : Nat.blt i j = true := by rw [← blt_dec]; exact decide_eq_true hlt
      rw [hb] at P
      exact Kx.Sta.new (tk := s.toks) Ld P F' N' l1 ⟨_, c, rfl, (RVs.cons (x := .r p) ⟨_, hap, rfl⟩ (RVs.cons (x := .r q) ⟨_, haq, rfl⟩ .nil)).mono ⟨_, rfl⟩, by simp⟩
    · rw [if_neg hlt] at N'
      have hb : Nat.blt i j = false := by rw [← blt_dec]; exact decide_eq_false hlt
      have hb2 : Nat.blt j i = true := by rw [← blt_dec]; exact decide_eq_true (by omega)
      rw [hb] at P
      replace P : PostV zs K φ s Q E (ifB (Nat.blt j i) (newS (.mk nx t pn) (.lst [.r q, .r p])) .bad) := P
      rw [hb2] at P
      exact Kx.Sta.new (tk := s.toks) Ld P F' N' l1 ⟨_, c, rfl, (RVs.cons (x := .r q) ⟨_, haq, rfl⟩ (RVs.cons (x := .r p) ⟨_, hap, rfl⟩ .nil)).mono ⟨_, rfl⟩, by simp⟩
  · exact P.elim
end
end
section
noncomputable section
/-- a step that may not raise -/
noncomputable def bndN (r : R) (k : V → St → R) : R := R.rec (motive := fun _ => R) (fun x s => k x s) (fun _ _ => .bad) (fun _ _ => .bad) (fun _ => .bad) (fun n _ ih => .ch n ih) .bad r
noncomputable def lcL (i : Nat) (W : Wd) (c : Cl) (m : List V) (l : List V) : (List V → St → R) → St → R :=
  List.rec (motive := fun _ => (List V → St → R) → St → R) (fun k s => k [] s) (fun x _ ih k s => bndN (W c (setL m i x) s) fun y s => ih (fun z s => k (y :: z) s) s) l
noncomputable def lcfL (i : Nat) (T W : Wd) (c : Cl) (m : List V) (l : List V) : (List V → St → R) → St → R :=
  List.rec (motive := fun _ => (List V → St → R) → St → R) (fun k s => k [] s) (fun x _ ih k s => bndN (T c (setL m i x) s) fun b s => isB b fun b => ifB b (bndN (W c (setL m i x) s) fun y s => ih (fun z s => k (y :: z) s) s) (ih k s)) l
noncomputable def rngV (n : Nat) : Nat → List V := Nat.rec (motive := fun _ => Nat → List V) (fun _ => []) (fun _ ih a => V.n a :: ih (Nat.succ a)) n
/-- the cell that a block captures -/
noncomputable def capW (j : Nat) (m : List V) (k : R) : R := getL m j fun x => isRef x fun _ => k
end
section
variable {w : World} {mean : ExcName → Option Value} {mg mb : Str → Option Value} {zs : List Int}
/-- what a word's end is asked -/
structure Px (PX : List Addr → R → Prop) : Prop where
  nb : ∀ φ, ¬ PX φ .bad
  ch : ∀ φ n k, PX φ (.ch n k) → ∀ i, i < n → PX φ (k i)
  later : ∀ φ φ' r, φ <+: φ' → PX φ r → PX φ' r
theorem Px.v {K : Kx} {s : Shared} {Q E : Value → Shared → Prop} : Px fun φ r => PostV zs K φ s Q E r := ⟨fun _ h => h, fun _ _ _ h => h, fun _ _ _ p h => PostV.later (h := s.heap) (tk := s.toks) p h⟩
theorem Px.s {κ : Kp} {K : Kx} {s : Shared} {Q : Flow → Shared → Prop} {E : Value → Shared → Prop} : Px fun φ r => PostS zs κ K φ s Q E r := ⟨fun _ h => h, fun _ _ _ h => h, fun _ _ _ p h => PostS.later (h := s.heap) (tk := s.toks) p h⟩
theorem Px.bndN {PX : List Addr → R → Prop} (X : Px PX) {K : Kx} {φ : List Addr} {s : Shared} {Q E : Value → Shared → Prop} {k : V → St → R} : ∀ {r : R}, PX φ (Mine.bndN r k) →
    (∀ x σ' φ' h' tk' rv, φ <+: φ' → K.Sta zs φ' σ' h' → RV φ' x rv → PX φ' (k x σ') → Q rv { s with heap := h', toks := tk' }) → PostV zs K φ s Q E r
  | .v x σ', P, f => fun φ' h' tk' rv p S r => f x σ' φ' h' tk' rv p S r (X.later _ _ _ p P)
  | .ec _, P, _ => (X.nb _ P).elim
  | .ch _ _, P, f => fun i hi => X.bndN (X.ch _ _ _ P i hi) f
  | .nx _ _, P, _ => (X.nb _ P).elim
  | .rt _ _, P, _ => (X.nb _ P).elim
  | .bad, P, _ => (X.nb _ P).elim
theorem Kx.Led.to {K K' : Kx} {φ : List Addr} {σ : St} {led : List (Addr × Obj)} (Ld : K.Led zs φ σ led) (hx : ∀ p ∈ K'.xl, p.1 ∉ φ) (hp : K'.pn = K.pn) : K'.Led zs φ σ led := ⟨Ld.ad, Ld.nd, hx, hp ▸ Ld.pn, hp ▸ Ld.ob⟩
theorem setL_get {m : List V} {i j : Nat} {x v : V} (h : (setL m i x)[j]? = some v) : (j = i ∧ v = x) ∨ (j ≠ i ∧ m[j]? = some v) := by
  rw [setL_eq, List.getElem?_set] at h
  by_cases e : i = j
  · subst e
    rw [if_pos rfl] at h
    by_cases hl : i < m.length
    · rw [if_pos hl] at h; exact .inl ⟨rfl, (Option.some.inj h).symm⟩
    · rw [if_neg hl] at h; cases h
  · rw [if_neg e] at h; exact .inr ⟨Ne.symm e, h⟩
/-- the names within a block: its own one -/
theorem nm_own {x : Str} {i : Nat} {m : List V} {φ : List Addr} {m₂ : Str → Option Value} {clf : Str → Option Addr} {v : V} {rv : Value} (h : m₂ x = some rv) (r : RV φ v rv) : NmOk [(x, false, i)] m₂ clf (setL m i v) φ := by
  intro x' i' v' hv
  have key : ∀ z, ([(x, false, i)] : Nms).lookup x' = some z → x' = x ∧ z = (false, i) := fun z hz => by
    simp only [List.lookup_cons, List.lookup_nil] at hz
    by_cases e : x' = x
    · subst e; simp at hz; exact ⟨rfl, hz.symm⟩
    · rw [show (x' == x) = false from beq_eq_false_iff_ne.mpr e] at hz; cases hz
  refine ⟨fun hz hu => ?_, fun hz k hk => ?_⟩
  · obtain ⟨rfl, e⟩ := key _ hz
    cases e
    rcases setL_get hv with ⟨_, rfl⟩ | ⟨h1, _⟩
    · exact ⟨rv, h, r⟩
    · exact (h1 rfl).elim
  · obtain ⟨_, e⟩ := key _ hz
    cases e
/-- .. and a cell -/
theorem nm_cap {x y : Str} {i j k : Nat} {m : List V} {φ : List Addr} {m₂ : Str → Option Value} {c : Addr} {v : V} {rv : Value} (hxy : y ≠ x) (hij : j ≠ i) (h : m₂ x = some rv) (r : RV φ v rv) (hj : m[j]? = some (.r k)) (hk : φ[k]? = some c) : NmOk [(x, false, i), (y, true, j)] m₂ (fun z => [(y, c)].lookup z) (setL m i v) φ := by
  intro x' i' v' hv
  have key : ∀ z, ([(x, false, i), (y, true, j)] : Nms).lookup x' = some z → (x' = x ∧ z = (false, i)) ∨ (x' = y ∧ z = (true, j)) := fun z hz => by
    simp only [List.lookup_cons, List.lookup_nil] at hz
    by_cases e : x' = x
    · subst e; simp at hz; exact .inl ⟨rfl, hz.symm⟩
    · rw [show (x' == x) = false from beq_eq_false_iff_ne.mpr e] at hz
      by_cases e2 : x' = y
      · subst e2; simp at hz; exact .inr ⟨rfl, hz.symm⟩
      · rw [show (x' == y) = false from beq_eq_false_iff_ne.mpr e2] at hz; cases hz
  refine ⟨fun hz hu => ?_, fun hz k' hk' => ?_⟩
  · rcases key _ hz with ⟨rfl, e⟩ | ⟨_, e⟩ <;> cases e
    rcases setL_get hv with ⟨_, rfl⟩ | ⟨h1, _⟩
    · exact ⟨rv, h, r⟩
    · exact (h1 rfl).elim
  · rcases key _ hz with ⟨_, e⟩ | ⟨rfl, e⟩ <;> cases e
    subst hk'
    rcases setL_get hv with ⟨h1, _⟩ | ⟨_, h2⟩
    · exact (hij h1).elim
    · rw [hj] at h2; cases h2
      exact ⟨c, hk, by simp⟩
open LCg in
/-- a block, item by item -/
theorem comp_core {K : Kx} {n : Nat} {c : Cl} {cs sc : Scope} {nm' : Nms} {clx : List (Str × Addr)} {xn : Str} {elt : Expr} {W : Wd} {m : List V} {i : Nat} {s : Shared} {PX : List Addr → R → Prop} {fin : List V → St → R} {φ₁ : List Addr} {xs : List V} {Sx : List (Addr × Obj) → Prop} {P : Nat → Value → Prop} {Fin : List Value → List (Addr × Obj) → Prop}
    (X : Px PX) (hE : ExpS w mean mg mb zs (.cp cs sc nm') elt W) (hc : CallOk w mean mg mb zs c n) (G : K.Good w mean mg mb n) (hcs : K.cs = cs) (hP : ∀ (i : Nat) x v, xs[i]? = some x → P i v → RV φ₁ x v) (hS : ∀ φ σ led, K.Led zs φ σ led → Sx (K.xl ++ led))
    (hO : ∀ φ' m₂ x rv, φ₁ <+: φ' → m₂ xn = some rv → RV φ' x rv → NmOk nm' m₂ (fun y => clx.lookup y) (setL m i x) φ')
    (hF : ∀ ys ms φ' σ' led', φ₁ <+: φ' → K.Led zs φ' σ' led' → RVs φ' ms ys → ms.length = xs.length → PX φ' (fin ms σ') → Fin ys (K.xl ++ led')) :
    ∀ (l : List V) (j : Nat), xs.drop j = l → ∀ ys ms φ' σ' led', φ₁ <+: φ' → K.Led zs φ' σ' led' → RVs φ' ms ys → ms.length = j → j + l.length = xs.length → PX φ' (lcL i W c m l (fun z s => fin (ms ++ z) s) σ') →
      CompRest PySem.Challenge.rw_xm0013_01.row.prog w K.A K.g K.L K.mm K.en elt xn sc clx s Sx P Fin l.length j ys (K.xl ++ led')
  | [], j, _, ys, ms, φ', σ', led', p, Ld, r, hl, hj, Px' => CompRest.zero (hF ys ms φ' σ' led' p Ld r (by simpa [hl] using hj) (by have : PX φ' (fin (ms ++ []) σ') := Px'; rwa [List.append_nil] at this))
  | x :: l, j, hd, ys, ms, φ', σ', led', p, Ld, r, hl, hj, Px' => by
    refine CompRest.succ fun v I oI C oC D m₂ h tk E' hv hC hx F N off ne => ?_
    have hxj : xs[j]? = some x := by rw [← List.head?_drop, hd]; rfl
    have hd' : xs.drop (j + 1) = l := by rw [← List.tail_drop, hd]; rfl
    let K2 : Kx := { K with xl := (I, oI) :: (C, oC) :: (D, lst ys) :: K.xl, ev := compEnvC sc clx C K.en }
    have offl := fun q hq => Off3.mem off q (List.mem_append_right _ hq)
    have hni : ∀ a, (a = I ∨ a = C ∨ a = D) → a ∉ φ' := fun a ha hm => by
      rw [← Ld.ad] at hm
      obtain ⟨q, hq, e⟩ := List.mem_map.mp hm
      obtain ⟨o1, o2, o3⟩ := offl q hq
      rcases ha with rfl | rfl | rfl
      · exact o1 e
      · exact o2 e
      · exact o3 e
    have Ld2 : K2.Led zs φ' σ' led' := Ld.to (K' := K2) (fun q hq => by
      rcases List.mem_cons.mp hq with rfl | hq
      · exact hni _ (.inl rfl)
      rcases List.mem_cons.mp hq with rfl | hq
      · exact hni _ (.inr (.inl rfl))
      rcases List.mem_cons.mp hq with rfl | hq
      · exact hni _ (.inr (.inr rfl))
      · exact Ld.xl q hq) rfl
    have hrv := (hP j x v hxj hv).mono p
    have hPX : PX φ' (Mine.bndN (W c (setL m i x) σ') fun y s => lcL i W c m l (fun z s => fin (ms ++ y :: z) s) s) := Px'
    refine hE n c hc K2 (setL m i x) φ' σ' { s with heap := h, toks := tk } _ E' ⟨G.B, G.X, G.T, G.k, G.d, G.u⟩ ⟨hcs, clx, C, oC, m₂, rfl, .tail _ (.head _), hC, hO φ' m₂ x v p hx hrv⟩ ⟨F, led', Ld2, N⟩ (X.bndN hPX ?_)
    intro y σ'' φ'' h'' tk'' rv p'' S'' ry PX''
    obtain ⟨F'', led'', Ld'', N''⟩ := S''
    have Ld3 : K.Led zs φ'' σ'' led'' := Ld''.to (K' := K) (fun q hq => Ld''.xl q (.tail _ (.tail _ (.tail _ hq)))) rfl
    have off' : Off3 I C D (K.xl ++ led'') := Off3.of fun q hq => by
      rcases List.mem_append.mp hq with hq | hq
      · exact Off3.mem off q (List.mem_append_left _ hq)
      · have hm : q.1 ∈ φ'' := by rw [← Ld3.ad]; exact List.mem_map_of_mem hq
        refine ⟨fun e => ?_, fun e => ?_, fun e => ?_⟩
        · exact Ld''.xl (I, oI) (.head _) (e ▸ hm)
        · exact Ld''.xl (C, oC) (.tail _ (.head _)) (e ▸ hm)
        · exact Ld''.xl (D, lst ys) (.tail _ (.tail _ (.head _))) (e ▸ hm)
    refine compEnd_keep F'' N'' off' (hS _ _ _ Ld3) ?_
    refine comp_core X hE hc G hcs hP hS hO hF l (j + 1) hd' (ys ++ [rv]) (ms ++ [y]) φ'' σ'' led'' (p.trans p'') Ld3 ((r.mono p'').app (.cons ry .nil)) (by simp [hl]) (by simp only [List.length_cons] at hj; omega) ?_
    have e : (fun z s => fin (ms ++ [y] ++ z) s) = fun z s => fin (ms ++ y :: z) s := by funext z s; simp
    rw [e]; exact PX''
open LCg in
/-- a block with a test, item by item -/
theorem compT_core {K : Kx} {n : Nat} {c : Cl} {cs sc : Scope} {nm' : Nms} {clx : List (Str × Addr)} {xn : Str} {ct elt : Expr} {T W : Wd} {m : List V} {i : Nat} {s : Shared} {PX : List Addr → R → Prop} {fin : List V → St → R} {φ₁ : List Addr} {xs : List V} {Sx : List (Addr × Obj) → Prop} {P : Nat → Value → Prop} {Fin : List Value → List (Addr × Obj) → Prop}
    (X : Px PX) (hT : TstS w mean mg mb zs (.cp cs sc nm') ct T) (hE : ExpS w mean mg mb zs (.cp cs sc nm') elt W) (hc : CallOk w mean mg mb zs c n) (G : K.Good w mean mg mb n) (hcs : K.cs = cs) (hP : ∀ (i : Nat) x v, xs[i]? = some x → P i v → RV φ₁ x v) (hS : ∀ φ σ led, K.Led zs φ σ led → Sx (K.xl ++ led))
    (hO : ∀ φ' m₂ x rv, φ₁ <+: φ' → m₂ xn = some rv → RV φ' x rv → NmOk nm' m₂ (fun y => clx.lookup y) (setL m i x) φ')
    (hF : ∀ ys ms φ' σ' led', φ₁ <+: φ' → K.Led zs φ' σ' led' → RVs φ' ms ys → ms.length ≤ xs.length → PX φ' (fin ms σ') → Fin ys (K.xl ++ led')) :
    ∀ (l : List V) (j : Nat), xs.drop j = l → ∀ ys ms φ' σ' led', φ₁ <+: φ' → K.Led zs φ' σ' led' → RVs φ' ms ys → ms.length ≤ j → j + l.length = xs.length → PX φ' (lcfL i T W c m l (fun z s => fin (ms ++ z) s) σ') →
      LCt.CompRestT PySem.Challenge.rw_xm0013_01.row.prog w K.A K.g K.L K.mm K.en ct elt xn sc clx s Sx P Fin l.length j ys (K.xl ++ led')
  | [], j, _, ys, ms, φ', σ', led', p, Ld, r, hl, hj, Px' => LCt.CompRestT.zero (hF ys ms φ' σ' led' p Ld r (by simp at hj; omega) (by have : PX φ' (fin (ms ++ []) σ') := Px'; rwa [List.append_nil] at this))
  | x :: l, j, hd, ys, ms, φ', σ', led', p, Ld, r, hl, hj, Px' => by
    refine LCt.CompRestT.succ fun v I oI C oC D m₂ h tk E' hv hC hx F N off ne => ?_
    have hxj : xs[j]? = some x := by rw [← List.head?_drop, hd]; rfl
    have hd' : xs.drop (j + 1) = l := by rw [← List.tail_drop, hd]; rfl
    let K2 : Kx := { K with xl := (I, oI) :: (C, oC) :: (D, lst ys) :: K.xl, ev := compEnvC sc clx C K.en }
    have offl := fun q hq => Off3.mem off q (List.mem_append_right _ hq)
    have hni : ∀ a, (a = I ∨ a = C ∨ a = D) → a ∉ φ' := fun a ha hm => by
      rw [← Ld.ad] at hm
      obtain ⟨q, hq, e⟩ := List.mem_map.mp hm
      obtain ⟨o1, o2, o3⟩ := offl q hq
      rcases ha with rfl | rfl | rfl
      · exact o1 e
      · exact o2 e
      · exact o3 e
    have Ld2 : K2.Led zs φ' σ' led' := Ld.to (K' := K2) (fun q hq => by
      rcases List.mem_cons.mp hq with rfl | hq
      · exact hni _ (.inl rfl)
      rcases List.mem_cons.mp hq with rfl | hq
      · exact hni _ (.inr (.inl rfl))
      rcases List.mem_cons.mp hq with rfl | hq
      · exact hni _ (.inr (.inr rfl))
      · exact Ld.xl q hq) rfl
    have hrv := (hP j x v hxj hv).mono p
    have hend : ∀ (φ'' : List Addr) (σ'' : St) (led'' : List (Addr × Obj)) (h'' : Heap) (tk'' : Nat) (y : Value) (ms2 : List V) (ys2 : List Value), φ' <+: φ'' → Fr K.g K.L h'' K.mm → K2.Led zs φ'' σ'' led'' → News K.g K.L h'' (K2.xl ++ led'') → RVs φ'' ms2 ys2 → ms2.length ≤ j + 1 → PX φ'' (lcfL i T W c m l (fun z s => fin (ms2 ++ z) s) σ'') →
        ∀ g : Value → List (Addr × Obj) → Prop, (∀ nw, LCt.CompRestT PySem.Challenge.rw_xm0013_01.row.prog w K.A K.g K.L K.mm K.en ct elt xn sc clx s Sx P Fin l.length (j + 1) ys2 nw → g y nw) → CompEnd K.g K.L K.mm { s with heap := h, toks := tk } I oI C oC D (lst ys) Sx g y { s with heap := h'', toks := tk'' } := by
      intro φ'' σ'' led'' h'' tk'' y ms2 ys2 p'' F'' Ld'' N'' r2 l2 PX'' g hg
      have Ld3 : K.Led zs φ'' σ'' led'' := Ld''.to (K' := K) (fun q hq => Ld''.xl q (.tail _ (.tail _ (.tail _ hq)))) rfl
      have off' : Off3 I C D (K.xl ++ led'') := Off3.of fun q hq => by
        rcases List.mem_append.mp hq with hq | hq
        · exact Off3.mem off q (List.mem_append_left _ hq)
        · have hm : q.1 ∈ φ'' := by rw [← Ld3.ad]; exact List.mem_map_of_mem hq
          refine ⟨fun e => ?_, fun e => ?_, fun e => ?_⟩
          · exact Ld''.xl (I, oI) (.head _) (e ▸ hm)
          · exact Ld''.xl (C, oC) (.tail _ (.head _)) (e ▸ hm)
          · exact Ld''.xl (D, lst ys) (.tail _ (.tail _ (.head _))) (e ▸ hm)
      exact compEnd_keep F'' N'' off' (hS _ _ _ Ld3) (hg _ (compT_core X hT hE hc G hcs hP hS hO hF l (j + 1) hd' ys2 ms2 φ'' σ'' led'' (p.trans p'') Ld3 r2 l2 (by simp only [List.length_cons] at hj; omega) PX''))
    have hPX : PX φ' (Mine.bndN (T c (setL m i x) σ') fun b s => isB b fun b => ifB b (Mine.bndN (W c (setL m i x) s) fun y s => lcfL i T W c m l (fun z s => fin (ms ++ y :: z) s) s) (lcfL i T W c m l (fun z s => fin (ms ++ z) s) s)) := Px'
    refine hT n c hc K2 (setL m i x) φ' σ' { s with heap := h, toks := tk } _ E' ⟨G.B, G.X, G.T, G.k, G.d, G.u⟩ ⟨hcs, clx, C, oC, m₂, rfl, .tail _ (.head _), hC, hO φ' m₂ x v p hx hrv⟩ ⟨F, led', Ld2, N⟩ (X.bndN hPX ?_)
    intro b σ'' φ'' h'' tk'' rv p'' S'' rb PX''
    obtain ⟨b, rfl, PX''⟩ : ∃ bb, b = .b bb ∧ PX φ'' (ifB bb (Mine.bndN (W c (setL m i x) σ'') fun y s => lcfL i T W c m l (fun z s => fin (ms ++ y :: z) s) s) (lcfL i T W c m l (fun z s => fin (ms ++ z) s) σ'')) := by
      cases b <;> first | exact ⟨_, rfl, PX''⟩ | exact (X.nb _ PX'').elim
    cases rb
    obtain ⟨F'', led'', Ld'', N''⟩ := S''
    cases b with
    | false =>
      show if false = true then _ else _
      rw [if_neg Bool.false_ne_true]
      exact hend φ'' σ'' led'' h'' tk'' .none ms ys p'' F'' Ld'' N'' (r.mono p'') (by omega) PX'' _ fun _ h => h
    | true =>
      show if true = true then _ else _
      rw [if_pos rfl]
      refine hE n c hc K2 (setL m i x) φ'' σ'' { s with heap := h'', toks := tk'' } _ E' ⟨G.B, G.X, G.T, G.k, G.d, G.u⟩ ⟨hcs, clx, C, oC, m₂, rfl, .tail _ (.head _), hC, hO φ'' m₂ x v (p.trans p'') hx (hrv.mono p'')⟩ ⟨F'', led'', Ld'', N''⟩ (X.bndN (s := { s with heap := h'', toks := tk'' }) PX'' ?_)
      intro y σ3 φ3 h3 tk3 rv p3 S3 ry PX3
      obtain ⟨F3, led3, Ld3, N3⟩ := S3
      refine hend φ3 σ3 led3 h3 tk3 rv (ms ++ [y]) (ys ++ [rv]) (p''.trans p3) F3 Ld3 N3 ((r.mono (p''.trans p3)).app (.cons ry .nil)) (by simp; omega) ?_ _ fun _ h => h
      have e : (fun z s => fin (ms ++ [y] ++ z) s) = fun z s => fin (ms ++ y :: z) s := by funext z s; simp
      rw [e]; exact PX3
end
end
section
noncomputable section
noncomputable def cmpW (cap : List V → R → R) (i : Nat) (A W : Wd) : Wd := fun c m s => cap m (bndN (A c m s) fun x s => lstOf s x fun a l => pinS s a fun s => lcL i W c m l (fun z s => unpS s fun s => newS s (.lst z)) s)
noncomputable def cmtW (cap : List V → R → R) (i : Nat) (A T W : Wd) : Wd := fun c m s => cap m (bndN (A c m s) fun x s => lstOf s x fun a l => pinS s a fun s => lcfL i T W c m l (fun z s => unpS s fun s => newS s (.lst z)) s)
noncomputable def cmtA (y : Nat) (cap : List V → R → R) (i : Nat) (A T W : Wd) : Wd := fun c m s => cap m (bndN (A c m s) fun x s => lstOf s x fun a l => pinS s a fun s => lcfL i T W c m l (fun z s => unpS s fun s => bnd (newS s (.lst z)) fun x s => .nx (setL m y x) s) s)
noncomputable def cmdW (cap : List V → R → R) (A : Wd) : Wd := fun c m s => cap m (bndN (A c m s) fun x s => isRef x fun a => lookS s a fun o => onEd o (newS s (.lst [])))
abbrev Rg := Cl → List V → St → (Nat → Nat → St → R) → R
noncomputable def rg2 (A B : Wd) : Rg := fun c m s k => bndN (A c m s) fun x s => bndN (B c m s) fun y s => isInt x fun a => isInt y fun b => ifB (Nat.ble a 1000) (ifB (Nat.ble b 1000) (k a b s) .bad) .bad
noncomputable def rg1 (B : Wd) : Rg := fun c m s k => bndN (B c m s) fun y s => isInt y fun b => ifB (Nat.ble b 1000) (k 0 b s) .bad
noncomputable def cmrW (cap : List V → R → R) (i : Nat) (G : Rg) (W : Wd) : Wd := fun c m s => cap m (G c m s fun a b s => lcL i W c m (rngV (Nat.sub b a) a) (fun z s => newS s (.lst z)) s)
noncomputable def cmrA (y : Nat) (cap : List V → R → R) (i : Nat) (G : Rg) (W : Wd) : Wd := fun c m s => cap m (G c m s fun a b s => lcL i W c m (rngV (Nat.sub b a) a) (fun z s => bnd (newS s (.lst z)) fun x s => .nx (setL m y x) s) s)
end
theorem nm_mem : ∀ {nm : Nms} {x : Str} {z : Bool × Nat}, nm.lookup x = some z → (x, z) ∈ nm
  | [], _, _, h => by simp at h
  | (y, q) :: nm, x, z, h => by
    simp only [List.lookup_cons] at h
    by_cases e : x = y
    · subst e; simp at h; subst h; exact .head _
    · rw [show (x == y) = false from beq_eq_false_iff_ne.mpr e] at h; exact .tail _ (nm_mem h)
/-- the name y alone has the place iy -/
noncomputable def nmU (nm : Nms) (y : Str) (iy : Nat) : Bool := nm.all fun p => (p.1 == y) == (p.2.2 == iy)
theorem nmU_of {nm : Nms} {y : Str} {iy : Nat} (h : nmU nm y iy = true) {x : Str} {b : Bool} {i : Nat} (hl : nm.lookup x = some (b, i)) : x = y ↔ i = iy := by
  have := List.all_eq_true.mp h _ (nm_mem hl)
  simp only [beq_iff_eq] at this
  constructor
  · intro e; subst e; simp at this; exact this
  · intro e; subst e; simp at this; exact this
/-- a name takes a value -/
theorem nm_set {nm : Nms} {mm : Str → Option Value} {clf : Str → Option Addr} {m : List V} {φ : List Addr} {y : Str} {iy : Nat} {v : V} {rv : Value} (hu : nmU nm y iy = true) (hy : nm.lookup y = some (false, iy)) (N : NmOk nm mm clf m φ) (r : RV φ v rv) : NmOk nm (fun z => if z = y then some rv else mm z) clf (setL m iy v) φ := by
  intro x i v' hv
  refine ⟨fun hz hne => ?_, fun hz k hk => ?_⟩
  · have := nmU_of hu hz
    rcases setL_get hv with ⟨h1, rfl⟩ | ⟨h1, h2⟩
    · exact ⟨rv, if_pos (this.mpr h1), r⟩
    · obtain ⟨rv', h3, h4⟩ := (N x i v' h2).1 hz hne
      exact ⟨rv', (if_neg fun e => h1 (this.mp e)).trans h3, h4⟩
  · have := nmU_of hu hz
    rcases setL_get hv with ⟨h1, h3⟩ | ⟨h1, h2⟩
    · have e := this.mpr h1
      subst e
      rw [hy] at hz; cases hz
    · exact (N x i v' h2).2 hz k hk
section
variable {w : World} {mean : ExcName → Option Value} {mg mb : Str → Option Value} {zs : List Int}
theorem Kx.Sta.newN {K : Kx} {φ : List Addr} {σ : St} {led : List (Addr × Obj)} {o : O} {D : Addr} {ob : Obj} {h' : Heap} (Ld : K.Led zs φ σ led) (F : Fr K.g K.L h' K.mm) (N : News K.g K.L h' ((D, ob) :: (K.xl ++ led))) (hD : ∀ p ∈ K.xl ++ led, p.1 ≠ D) (r : RO zs (φ ++ [D]) o (D, ob)) :
    ∃ t pn, σ = .mk φ.length t pn ∧ K.Sta zs (φ ++ [D]) (.mk (φ.length + 1) (upd t φ.length o) pn) h' ∧ RV (φ ++ [D]) (.r φ.length) (.ref D) := by
  obtain ⟨nx, t, pn⟩ := σ
  have e : nx = φ.length := by obtain ⟨_, _, _, _, t', e, _⟩ := Ld; cases e; rfl
  subst e
  refine ⟨t, pn, rfl, ⟨F, led ++ [(D, ob)], Ld.push hD r, fun p hp => N p ?_⟩, D, by simp, rfl⟩
  rcases List.mem_append.mp hp with hp | hp
  · exact .tail _ (List.mem_append_left _ hp)
  rcases List.mem_append.mp hp with hp | hp
  · exact .tail _ (List.mem_append_right _ hp)
  · rw [List.mem_singleton.mp hp]; exact .head _
/-- what a block captures -/
noncomputable def CapS (cs : Scope) (nm : Nms) (sc : Scope) (x : Str) (i : Nat) (nm' : Nms) (cap : List V → R → R) : Prop := ∀ (PX : List Addr → R → Prop), Px PX → ∀ (K : Kx) m φ k, K.Ok (.fn cs nm) m φ → PX φ (cap m k) → PX φ k ∧ ∃ clx, closureFor sc K.en = pure clx ∧
  ∀ φ' m₂ v rv, φ <+: φ' → m₂ x = some rv → RV φ' v rv → NmOk nm' m₂ (fun y => clx.lookup y) (setL m i v) φ'
theorem CapS.no {cs : Scope} {nm : Nms} {sc : Scope} {x : Str} {i : Nat} (h : ∀ env, closureFor sc env = pure []) : CapS cs nm sc x i [(x, false, i)] (fun _ k => k) :=
  fun _ _ K _ _ _ _ P => ⟨P, [], h _, fun _ _ _ _ _ h1 h2 => nm_own h1 h2⟩
theorem clos_nil {env : Env} : ∀ {l : List (Str × NameKind)} {cs : List (Str × Addr)}, l.filter (fun p => p.2 == .free) = [] → (forIn l cs (fun (p : Str × NameKind) (cs : List (Str × Addr)) => if p.2 == .free then (do let c ← cellOf env p.1; pure (ForInStep.yield ((p.1, c) :: cs))) else pure (ForInStep.yield cs)) : Sem (List (Str × Addr))) = pure cs
  | [], _, _ => rfl
  | p :: l, cs, h => by
    cases hp : p.2 == .free with
    | true => rw [List.filter_cons, if_pos hp] at h; cases h
    | false =>
      rw [List.filter_cons_of_neg (by simp [hp])] at h
      rw [List.forIn_cons, hp]
      simp only [Bool.false_eq_true, if_false, pure_bind]
      exact clos_nil h
theorem clos_go {env : Env} {y : Str} : ∀ {l : List (Str × NameKind)} {cs : List (Str × Addr)}, l.filter (fun p => p.2 == .free) = [(y, .free)] → (forIn l cs (fun (p : Str × NameKind) (cs : List (Str × Addr)) => if p.2 == .free then (do let c ← cellOf env p.1; pure (ForInStep.yield ((p.1, c) :: cs))) else pure (ForInStep.yield cs)) : Sem (List (Str × Addr))) = (do let c ← cellOf env y; pure ((y, c) :: cs))
  | [], _, h => by cases h
  | p :: l, cs, h => by
    cases hp : p.2 == .free with
    | true =>
      rw [List.filter_cons, if_pos hp] at h
      obtain ⟨h1, h2⟩ := List.cons.inj h
      rw [List.forIn_cons, hp]
      subst h1
      simp only [if_true, bind_assoc, pure_bind]
      congr 1
      funext c
      exact clos_nil h2
    | false =>
      rw [List.filter_cons_of_neg (by simp [hp])] at h
      rw [List.forIn_cons, hp]
      simp only [Bool.false_eq_true, if_false, pure_bind]
      exact clos_go h
theorem clos_one {sc : Scope} {y : Str} (h : sc.names.filter (fun p => p.2 == .free) = [(y, .free)]) (env : Env) : closureFor sc env = (do let c ← cellOf env y; pure [(y, c)]) := by
  rw [← clos_go (cs := []) h]
  unfold closureFor
  simp only [bind_pure]
theorem CapS.one {cs : Scope} {nm : Nms} {sc : Scope} {x y : Str} {i j : Nat} (h : sc.names.filter (fun p => p.2 == .free) = [(y, .free)]) (hn : nm.lookup y = some (true, j)) (hxy : y ≠ x) (hij : j ≠ i) : CapS cs nm sc x i [(x, false, i), (y, true, j)] (capW j) := by
  intro PX X K m φ k O P
  obtain ⟨e1, e2, N⟩ := O
  obtain ⟨v, hv, P⟩ := getL_bad (P := PX φ) (X.nb φ) P
  obtain ⟨r, rfl, P⟩ := isRef_bad (P := PX φ) (X.nb φ) P
  obtain ⟨c, hc, hcl⟩ := (N y j _ hv).2 hn r rfl
  refine ⟨P, [(y, c)], ?_, fun φ' m₂ v rv p h1 h2 => nm_cap hxy hij h1 h2 hv (pre_get p hc)⟩
  rw [clos_one h]
  have e : cellOf K.en y = pure c := by
    have hcl' : K.en.cells.lookup y = some c := hcl
    unfold cellOf
    rw [hcl']
  rw [e]
  rfl
theorem LCg_off1 {D : Addr} : ∀ {l : List (Addr × Obj)}, LCg.Off1 D l → ∀ p ∈ l, p.1 ≠ D
  | [], _, _, h => nomatch h
  | q :: r, x, p, h => by
    rcases List.mem_cons.mp h with rfl | h
    · exact x.1
    · exact LCg_off1 x.2 p h
theorem pin_led {K : Kx} {φ : List Addr} {nx : Nat} {t : T} {pn : List Nat} {led : List (Addr × Obj)} {k : Nat} {p : Addr × Obj} (Ld : K.Led zs φ (.mk nx t pn) led) (h : led[k]? = some p) : ({ K with pn := (k, p) :: K.pn } : Kx).Led zs φ (.mk nx t (k :: pn)) led := by
  obtain ⟨ad, nd, xl, pnk, t', e, ob⟩ := Ld
  cases e
  refine ⟨ad, nd, xl, fun q hq => ?_, _, rfl, ob⟩
  rcases List.mem_cons.mp hq with rfl | hq
  · exact h
  · exact pnk q hq
theorem unp_led {K : Kx} {φ : List Addr} {σ : St} {led : List (Addr × Obj)} {q : Nat × Addr × Obj} (Ld : ({ K with pn := q :: K.pn } : Kx).Led zs φ σ led) : led[q.1]? = some q.2 ∧ ∃ t, σ = .mk φ.length t (q.1 :: K.pn.map (·.1)) ∧ K.Led zs φ (.mk φ.length t (K.pn.map (·.1))) led := by
  obtain ⟨ad, nd, xl, pnk, t', e, ob⟩ := Ld
  exact ⟨pnk q (.head _), t', e, ad, nd, xl, fun q hq => pnk q (.tail _ hq), t', rfl, ob⟩
theorem px_lst {PX : List Addr → R → Prop} (X : Px PX) {φ : List Addr} {nx : Nat} {t : T} {pn : List Nat} {v : V} {k : Nat → List V → R} (h : PX φ (lstOf (.mk nx t pn) v k)) : ∃ a l, v = .r a ∧ lookO t a = some (.lst l) ∧ PX φ (k a l) := lstOf_bad (P := PX φ) (X.nb φ) h
theorem rngV_len : ∀ n a, (rngV n a).length = n
  | 0, _ => rfl
  | n + 1, a => congrArg Nat.succ (rngV_len n (a + 1))
theorem rngV_get : ∀ {n a i : Nat} {x : V}, (rngV n a)[i]? = some x → x = .n (a + i)
  | 0, _, _, _, h => by cases h
  | n + 1, a, 0, x, h => by cases h; rfl
  | n + 1, a, i + 1, x, h => by
    have := rngV_get (n := n) (a := a + 1) (i := i) (x := x) h
    rw [this]; congr 1; omega
/-- the source: a list that stands -/
theorem src_list {K : Kx} {cs sc : Scope} {nm nm' : Nms} {iter elt : Expr} {A W : Wd} {n i : Nat} {c : Cl} {xn : Str} {m : List V} {φ : List Addr} {σ : St} {s : Shared} {E : Value → Shared → Prop} {PX : List Addr → R → Prop} {fin : List V → St → R} {Fin : Shared → List Value → List (Addr × Obj) → Prop} {clx : List (Str × Addr)}
    (X : Px PX) (hA : ExpS w mean mg mb zs (.fn cs nm) iter A) (hW : ExpS w mean mg mb zs (.cp cs sc nm') elt W) (hc : CallOk w mean mg mb zs c n) (G : K.Good w mean mg mb n) (O : K.Ok (.fn cs nm) m φ) (S : K.Sta zs φ σ s.heap)
    (P : PX φ (bndN (A c m σ) fun x s => lstOf s x fun a l => pinS s a fun s => lcL i W c m l (fun z s => unpS s fun s => fin z s) s))
    (hO : ∀ φ' m₂ v rv, φ <+: φ' → m₂ xn = some rv → RV φ' v rv → NmOk nm' m₂ (fun y => clx.lookup y) (setL m i v) φ')
    (hF : ∀ s₁ ys ms φ' σ' led', φ <+: φ' → K.Ok (.fn cs nm) m φ' → K.Led zs φ' σ' led' → RVs φ' ms ys → ms.length ≤ 1000 → PX φ' (fin ms σ') → (∃ h tk, s₁ = { s with heap := h, toks := tk }) → Fin s₁ ys (K.xl ++ led')) :
    wpAny (Mdl w) K.A (eval iter K.en) (LCg.CompSrc PySem.Challenge.rw_xm0013_01.row.prog w K.A K.g K.L K.mm K.en elt xn sc clx Fin) E s := by
  refine Eq.mp (congrArg (fun z => wpAny (Mdl w) K.A (eval iter z) _ E s) O.2.1) ?_
  refine hA n c hc K m φ σ s _ E G O S (X.bndN P ?_)
  intro x σ₁ φ₁ h₁ tk₁ rv p₁ S₁ r₁ P₁
  obtain ⟨nx, t, pn⟩ := σ₁
  obtain ⟨k, l, rfl, hl, P₁⟩ := px_lst X P₁
  obtain ⟨ax, hax, rfl⟩ := r₁
  obtain ⟨F, led, Ld, N⟩ := S₁
  obtain ⟨vs, u, k1, k2, k3, k4⟩ := Ld.list hl hax
  refine LCg.CompSrc.ledger rfl F N (List.mem_append_right _ k1) (by rw [List.size_toArray, k2.len, sizeLine_eq]; omega) fun g => ?_
  have key := comp_core (K := { K with pn := (k, ax, PySem.W.listOf (List.toArray vs) u) :: K.pn }) (s := { s with heap := g, toks := tk₁ }) (xs := l) (φ₁ := φ₁) (clx := clx) (i := i) (m := m) (fin := fun z s => unpS s fun s => fin z s) (P := fun i v => vs.toArray[i]? = some v) (Sx := LCg.SrcAt K.g ax vs.toArray) (Fin := Fin { s with heap := g, toks := tk₁ })
    X hW hc ⟨G.B, G.X, G.T, G.k, G.d, G.u⟩ O.1
    (fun i x v hx hv => by obtain ⟨v', h1, h2⟩ := k2.get hx; rw [List.getElem?_toArray, h1] at hv; cases hv; exact h2)
    (fun φ' σ' led' Ld' => .inr ⟨_, List.mem_append_right _ (List.mem_of_getElem? (unp_led Ld').1), rfl, _, rfl⟩) (fun φ' m₂ v rv p => hO φ' m₂ v rv (p₁.trans p))
    (fun ys ms φ' σ' led' p' Ld' r' hl' P' => by
      obtain ⟨_, t', rfl, Ld''⟩ := unp_led Ld'
      exact hF _ ys ms φ' _ led' (p₁.trans p') (O.mono (p₁.trans p')) Ld'' r' (by omega) P' ⟨g, tk₁, rfl⟩)
    l 0 rfl [] [] φ₁ _ led (List.prefix_refl _) (pin_led Ld k4) .nil rfl (by simp) P₁
  have hsz : vs.toArray.size = l.length := by rw [List.size_toArray, k2.len]
  rw [hsz]
  exact key
theorem src_listT {K : Kx} {cs sc : Scope} {nm nm' : Nms} {iter ct elt : Expr} {A T W : Wd} {n i : Nat} {c : Cl} {xn : Str} {m : List V} {φ : List Addr} {σ : St} {s : Shared} {E : Value → Shared → Prop} {PX : List Addr → R → Prop} {fin : List V → St → R} {Fin : Shared → List Value → List (Addr × Obj) → Prop} {clx : List (Str × Addr)}
    (X : Px PX) (hA : ExpS w mean mg mb zs (.fn cs nm) iter A) (hT : TstS w mean mg mb zs (.cp cs sc nm') ct T) (hW : ExpS w mean mg mb zs (.cp cs sc nm') elt W) (hc : CallOk w mean mg mb zs c n) (G : K.Good w mean mg mb n) (O : K.Ok (.fn cs nm) m φ) (S : K.Sta zs φ σ s.heap)
    (P : PX φ (bndN (A c m σ) fun x s => lstOf s x fun a l => pinS s a fun s => lcfL i T W c m l (fun z s => unpS s fun s => fin z s) s))
    (hO : ∀ φ' m₂ v rv, φ <+: φ' → m₂ xn = some rv → RV φ' v rv → NmOk nm' m₂ (fun y => clx.lookup y) (setL m i v) φ')
    (hF : ∀ s₁ ys ms φ' σ' led', φ <+: φ' → K.Ok (.fn cs nm) m φ' → K.Led zs φ' σ' led' → RVs φ' ms ys → ms.length ≤ 1000 → PX φ' (fin ms σ') → (∃ h tk, s₁ = { s with heap := h, toks := tk }) → Fin s₁ ys (K.xl ++ led')) :
    wpAny (Mdl w) K.A (eval iter K.en) (LCt.CompSrcT PySem.Challenge.rw_xm0013_01.row.prog w K.A K.g K.L K.mm K.en ct elt xn sc clx Fin) E s := by
  refine Eq.mp (congrArg (fun z => wpAny (Mdl w) K.A (eval iter z) _ E s) O.2.1) ?_
  refine hA n c hc K m φ σ s _ E G O S (X.bndN P ?_)
  intro x σ₁ φ₁ h₁ tk₁ rv p₁ S₁ r₁ P₁
  obtain ⟨nx, t, pn⟩ := σ₁
  obtain ⟨k, l, rfl, hl, P₁⟩ := px_lst X P₁
  obtain ⟨ax, hax, rfl⟩ := r₁
  obtain ⟨F, led, Ld, N⟩ := S₁
  obtain ⟨vs, u, k1, k2, k3, k4⟩ := Ld.list hl hax
  refine LCt.CompSrcT.ledger rfl F N (List.mem_append_right _ k1) (by rw [List.size_toArray, k2.len, sizeLine_eq]; omega) fun g => ?_
  have key := compT_core (K := { K with pn := (k, ax, PySem.W.listOf (List.toArray vs) u) :: K.pn }) (s := { s with heap := g, toks := tk₁ }) (xs := l) (φ₁ := φ₁) (clx := clx) (i := i) (m := m) (fin := fun z s => unpS s fun s => fin z s) (P := fun i v => vs.toArray[i]? = some v) (Sx := LCg.SrcAt K.g ax vs.toArray) (Fin := Fin { s with heap := g, toks := tk₁ })
    X hT hW hc ⟨G.B, G.X, G.T, G.k, G.d, G.u⟩ O.1
    (fun i x v hx hv => by obtain ⟨v', h1, h2⟩ := k2.get hx; rw [List.getElem?_toArray, h1] at hv; cases hv; exact h2)
    (fun φ' σ' led' Ld' => .inr ⟨_, List.mem_append_right _ (List.mem_of_getElem? (unp_led Ld').1), rfl, _, rfl⟩) (fun φ' m₂ v rv p => hO φ' m₂ v rv (p₁.trans p))
    (fun ys ms φ' σ' led' p' Ld' r' hl' P' => by
      obtain ⟨_, t', rfl, Ld''⟩ := unp_led Ld'
      exact hF _ ys ms φ' _ led' (p₁.trans p') (O.mono (p₁.trans p')) Ld'' r' (by omega) P' ⟨g, tk₁, rfl⟩)
    l 0 rfl [] [] φ₁ _ led (List.prefix_refl _) (pin_led Ld k4) .nil (by simp) (by simp) P₁
  have hsz : vs.toArray.size = l.length := by rw [List.size_toArray, k2.len]
  rw [hsz]
  exact key
/-- a range that is counted -/
noncomputable def RngS (w : World) (mean : ExcName → Option Value) (mg mb : Str → Option Value) (zs : List Int) (κ : Kp) (iter : Expr) (H : Rg) : Prop := ∀ n c, CallOk w mean mg mb zs c n → ∀ (K : Kx) m φ σ s (E : Value → Shared → Prop) (Q : Value → Shared → Prop) (PX : List Addr → R → Prop) (k : Nat → Nat → St → R), Px PX → K.Good w mean mg mb n → K.Ok κ m φ → K.Sta zs φ σ s.heap → PX φ (H c m σ k) →
  (∀ (a b : Nat) σ' φ' h' tk' r t u v, φ <+: φ' → K.Ok κ m φ' → K.Sta zs φ' σ' h' → IsRange h' r (a : Int) (b : Int) 1 t u v → a ≤ 1000 → b ≤ 1000 → PX φ' (k a b σ') → Q (.ref r) { s with heap := h', toks := tk' }) → wpAny (Mdl w) K.A (eval iter K.ev) Q E s
theorem RngS.two {κ : Kp} {x : Str} {xp pos : Pos} {e f : Expr} {A B : Wd} (hx : NamS w mean mg mb zs κ x (.type "range")) (ha : ExpS w mean mg mb zs κ e A) (hb : ExpS w mean mg mb zs κ f B) (he : ∀ rest env, starEach (e :: rest) env = (false, eval e env) :: starEach rest env) (hf : ∀ rest env, starEach (f :: rest) env = (false, eval f env) :: starEach rest env) :
    RngS w mean mg mb zs κ (.Call (.Name x xp) [e, f] [] pos) (rg2 A B) := by
  intro n c hc K m φ σ s E Q PX k X G O S P cont
  refine Call_ (hx n K m φ σ s _ E xp G O S ?_)
  refine Pv.callWith_type1 (args_cons (ha n c hc K m φ σ s _ E G O S (X.bndN P ?_)) (he _ _)) (he _ _) (by rw [hf]; rfl)
  intro y σ₁ φ₁ h₁ tk₁ rv p₁ S₁ r₁ P₁
  refine args_cons (hb n c hc K m φ₁ σ₁ _ _ E G (O.mono p₁) S₁ (X.bndN P₁ ?_)) (hf _ _)
  intro z σ₂ φ₂ h₂ tk₂ rw₂ p₂ S₂ r₂ P₂
  refine args_nil ?_
  replace r₁ := r₁.mono p₂
  replace P₂ := isInt_bad (P := PX φ₂) (X.nb _) P₂; obtain ⟨a, rfl, P₂⟩ := P₂
  replace P₂ := isInt_bad (P := PX φ₂) (X.nb _) P₂; obtain ⟨b, rfl, P₂⟩ := P₂
  replace P₂ := ifB_bad (P := PX φ₂) (X.nb _) P₂; obtain ⟨ha1, P₂⟩ := P₂
  replace P₂ := ifB_bad (P := PX φ₂) (X.nb _) P₂; obtain ⟨hb1, P₂⟩ := P₂
  obtain ⟨t1, rfl⟩ := r₁
  obtain ⟨t2, rfl⟩ := r₂
  obtain ⟨F, led, Ld, N⟩ := S₂
  refine range2_rows (s := { s with heap := h₂, toks := tk₂ }) F N fun h' tk t u v hr F' N' _ => ?_
  exact cont a b σ₂ φ₂ h' tk _ t u v (p₁.trans p₂) (O.mono (p₁.trans p₂)) ⟨F', led, Ld, N'⟩ hr (Nat.le_of_ble_eq_true ha1) (Nat.le_of_ble_eq_true hb1) P₂
theorem RngS.one {κ : Kp} {x : Str} {xp pos : Pos} {f : Expr} {B : Wd} (hx : NamS w mean mg mb zs κ x (.type "range")) (hb : ExpS w mean mg mb zs κ f B) (hf : ∀ rest env, starEach (f :: rest) env = (false, eval f env) :: starEach rest env) :
    RngS w mean mg mb zs κ (.Call (.Name x xp) [f] [] pos) (rg1 B) := by
  intro n c hc K m φ σ s E Q PX k X G O S P cont
  refine Call_ (hx n K m φ σ s _ E xp G O S ?_)
  refine Pv.callWith_type1 (args_cons (hb n c hc K m φ σ s _ E G O S (X.bndN P ?_)) (hf _ _)) (hf _ _) rfl
  intro z σ₂ φ₂ h₂ tk₂ rw₂ p₂ S₂ r₂ P₂
  refine args_nil ?_
  replace P₂ := isInt_bad (P := PX φ₂) (X.nb _) P₂; obtain ⟨b, rfl, P₂⟩ := P₂
  replace P₂ := ifB_bad (P := PX φ₂) (X.nb _) P₂; obtain ⟨hb1, P₂⟩ := P₂
  obtain ⟨t2, rfl⟩ := r₂
  obtain ⟨F, led, Ld, N⟩ := S₂
  refine range1_rows (s := { s with heap := h₂, toks := tk₂ }) F N fun h' tk t u v hr F' N' _ => ?_
  exact cont 0 b σ₂ φ₂ h' tk _ t u v p₂ (O.mono p₂) ⟨F', led, Ld, N'⟩ hr (Nat.zero_le _) (Nat.le_of_ble_eq_true hb1) P₂
theorem src_rng {K : Kx} {cs sc : Scope} {nm nm' : Nms} {iter elt : Expr} {H : Rg} {W : Wd} {n i : Nat} {c : Cl} {xn : Str} {m : List V} {φ : List Addr} {σ : St} {s : Shared} {E : Value → Shared → Prop} {PX : List Addr → R → Prop} {fin : List V → St → R} {Fin : Shared → List Value → List (Addr × Obj) → Prop} {clx : List (Str × Addr)}
    (X : Px PX) (hH : RngS w mean mg mb zs (.fn cs nm) iter H) (hW : ExpS w mean mg mb zs (.cp cs sc nm') elt W) (hc : CallOk w mean mg mb zs c n) (G : K.Good w mean mg mb n) (O : K.Ok (.fn cs nm) m φ) (S : K.Sta zs φ σ s.heap)
    (P : PX φ (H c m σ fun a b s => lcL i W c m (rngV (Nat.sub b a) a) fin s))
    (hO : ∀ φ' m₂ v rv, φ <+: φ' → m₂ xn = some rv → RV φ' v rv → NmOk nm' m₂ (fun y => clx.lookup y) (setL m i v) φ')
    (hF : ∀ s₁ ys ms φ' σ' led', φ <+: φ' → K.Ok (.fn cs nm) m φ' → K.Led zs φ' σ' led' → RVs φ' ms ys → ms.length ≤ 1000 → PX φ' (fin ms σ') → (∃ h tk, s₁ = { s with heap := h, toks := tk }) → Fin s₁ ys (K.xl ++ led')) :
    wpAny (Mdl w) K.A (eval iter K.en) (LCg.CompSrc PySem.Challenge.rw_xm0013_01.row.prog w K.A K.g K.L K.mm K.en elt xn sc clx Fin) E s := by
  refine Eq.mp (congrArg (fun z => wpAny (Mdl w) K.A (eval iter z) _ E s) O.2.1) ?_
  refine hH n c hc K m φ σ s E _ PX _ X G O S P ?_
  intro a b σ₁ φ₁ h₁ tk₁ r t u v p₁ O₁ S₁ hr ha hb P₁
  obtain ⟨F, led, Ld, N⟩ := S₁
  have hn : Builtin.Range.rangeSize (a : Int) (b : Int) 1 = ((b - a : Nat) : Int) := by rw [rangeSize_nat]; omega
  refine LCg.CompSrc.range rfl F N hr (small_one (by omega) (by omega) (by omega) (by omega)) hn (by rw [sizeLine_eq]; omega) fun g => ?_
  have key := comp_core (K := K) (s := { s with heap := g, toks := tk₁ }) (xs := rngV (b - a) a) (φ₁ := φ₁) (clx := clx) (i := i) (m := m) (fin := fin) (P := fun i v => ∃ t, v = .int ((a : Int) + i) t) (Sx := fun _ => True) (Fin := Fin { s with heap := g, toks := tk₁ })
    X hW hc G O.1
    (fun i x v hx hv => by obtain ⟨t', rfl⟩ := hv; rw [rngV_get hx]; exact ⟨t', by rw [Int.natCast_add]⟩)
    (fun _ _ _ _ => trivial) (fun φ' m₂ v rv p => hO φ' m₂ v rv (p₁.trans p))
    (fun ys ms φ' σ' led' p' Ld' r' hl' P' => hF _ ys ms φ' _ led' (p₁.trans p') (O.mono (p₁.trans p')) Ld' r' (by rw [rngV_len] at hl'; omega) P' ⟨g, tk₁, rfl⟩)
    (rngV (b - a) a) 0 rfl [] [] φ₁ _ led (List.prefix_refl _) Ld .nil rfl (by simp) P₁
  rw [rngV_len] at key
  exact key
/-- the end of a block -/
theorem end_new {cs : Scope} {nm : Nms} {K : Kx} {m ms : List V} {φ φ' : List Addr} {σ' : St} {led' : List (Addr × Obj)} {s s₁ : Shared} {Q E : Value → Shared → Prop} {ys : List Value} (p : φ <+: φ') (Ld : K.Led zs φ' σ' led') (r : RVs φ' ms ys) (hz : ms.length ≤ 1000) (P' : PostV zs K φ' s Q E (newS σ' (.lst ms))) (hs : ∃ h tk, s₁ = { s with heap := h, toks := tk }) : LCg.FinE K.g K.L K.mm s₁ Q ys (K.xl ++ led') := by
  obtain ⟨h₀, tk₀, rfl⟩ := hs
  intro D h tk F' N' o1
  obtain ⟨t, pn, rfl, S', rD⟩ := Kx.Sta.newN (o := .lst ms) Ld F' N' (fun q hq => LCg_off1 o1 q hq) ⟨ys, ys.length, rfl, r.mono ⟨_, rfl⟩, hz⟩
  rw [newS_eq] at P'
  exact P' _ h tk _ ⟨_, rfl⟩ S' rD
theorem end_asg {cs : Scope} {nm : Nms} {K : Kx} {m ms : List V} {φ φ' : List Addr} {σ' : St} {led' : List (Addr × Obj)} {s s₁ : Shared} {Q : Flow → Shared → Prop} {E : Value → Shared → Prop} {ys : List Value} {y : Str} {iy : Nat} (hu : nmU nm y iy = true) (hy : nm.lookup y = some (false, iy)) (p : φ <+: φ') (O : K.Ok (.fn cs nm) m φ') (Ld : K.Led zs φ' σ' led') (r : RVs φ' ms ys) (hz : ms.length ≤ 1000)
    (P' : PostS zs (.fn cs nm) K φ' s Q E (bnd (newS σ' (.lst ms)) fun x s => .nx (setL m iy x) s)) (hs : ∃ h tk, s₁ = { s with heap := h, toks := tk }) : LCg.FinA K.g K.L K.mm s₁ y Q ys (K.xl ++ led') := by
  obtain ⟨h₀, tk₀, rfl⟩ := hs
  intro D h tk F' N' o1
  have Ld' : (K.wm fun z => if z = y then some (.ref D) else K.mm z).Led zs φ' σ' led' := ⟨Ld.ad, Ld.nd, Ld.xl, Ld.pn, Ld.ob⟩
  obtain ⟨t, pn, rfl, S', rD⟩ := Kx.Sta.newN (K := K.wm fun z => if z = y then some (.ref D) else K.mm z) (o := .lst ms) Ld' F' N' (fun q hq => LCg_off1 o1 q hq) ⟨ys, ys.length, rfl, r.mono ⟨_, rfl⟩, hz⟩
  rw [newS_eq] at P'
  obtain ⟨e1, e2, N⟩ := O
  exact P' _ h tk (fun z => if z = y then some (.ref D) else K.mm z) ⟨_, rfl⟩ ⟨e1, e2, nm_set hu hy (N.mono ⟨_, rfl⟩) rD⟩ S'
structure ScOk (sc : Scope) (x : Str) : Prop where
  cell : ∀ y ∈ sc.names, y.2 ≠ .cell
  kind : sc.kind = .function
  names : ∀ y ∈ sc.names, y.2 = .local → sc.names.lookup y.1 = some .local
  x : sc.names.lookup x = some .local
theorem ExpS.compL {cs sc : Scope} {nm nm' : Nms} {cap : List V → R → R} {iter elt : Expr} {A W : Wd} {i : Nat} {x : Str} {px pos : Pos} (hcap : CapS cs nm sc x i nm' cap) (hsc : ScOk sc x) (hs : ∀ env x, foldedSetIterable iter env x = pure x) (hA : ExpS w mean mg mb zs (.fn cs nm) iter A) (hW : ExpS w mean mg mb zs (.cp cs sc nm') elt W) : ExpS w mean mg mb zs (.fn cs nm) (.ListComp elt [⟨.Name x px, iter, [], 0⟩] sc pos) (cmpW cap i A W) := by
  intro n c hc K m φ σ s Q E G O S P
  obtain ⟨P, clx, hclx, hO⟩ := hcap _ (Px.v (zs := zs) (K := K) (s := s) (Q := Q) (E := E)) K m φ _ O P
  rw [O.2.1]
  exact LCg.ListComp_U S.1 hclx hsc.cell hsc.kind hsc.names hsc.x (src_list (fin := fun z s => newS s (.lst z)) Px.v hA hW hc G O S P hO fun s₁ ys ms φ' σ' led' p O' Ld r hz P' h => end_new (cs := cs) (nm := nm) (m := m) p Ld r hz P' h) (hs _)
theorem ExpS.compT {cs sc : Scope} {nm nm' : Nms} {cap : List V → R → R} {iter ct elt : Expr} {A T W : Wd} {i : Nat} {x : Str} {px pos : Pos} (hcap : CapS cs nm sc x i nm' cap) (hsc : ScOk sc x) (hs : ∀ env x, foldedSetIterable iter env x = pure x) (hA : ExpS w mean mg mb zs (.fn cs nm) iter A) (hT : TstS w mean mg mb zs (.cp cs sc nm') ct T) (hW : ExpS w mean mg mb zs (.cp cs sc nm') elt W) : ExpS w mean mg mb zs (.fn cs nm) (.ListComp elt [⟨.Name x px, iter, [ct], 0⟩] sc pos) (cmtW cap i A T W) := by
  intro n c hc K m φ σ s Q E G O S P
  obtain ⟨P, clx, hclx, hO⟩ := hcap _ (Px.v (zs := zs) (K := K) (s := s) (Q := Q) (E := E)) K m φ _ O P
  rw [O.2.1]
  exact LCt.ListComp_T S.1 hclx hsc.cell hsc.kind hsc.names hsc.x (src_listT (fin := fun z s => newS s (.lst z)) Px.v hA hT hW hc G O S P hO fun s₁ ys ms φ' σ' led' p O' Ld r hz P' h => end_new (cs := cs) (nm := nm) (m := m) p Ld r hz P' h) (hs _)
theorem ExpS.compR {cs sc : Scope} {nm nm' : Nms} {cap : List V → R → R} {iter elt : Expr} {H : Rg} {W : Wd} {i : Nat} {x : Str} {px pos : Pos} (hcap : CapS cs nm sc x i nm' cap) (hsc : ScOk sc x) (hs : ∀ env x, foldedSetIterable iter env x = pure x) (hH : RngS w mean mg mb zs (.fn cs nm) iter H) (hW : ExpS w mean mg mb zs (.cp cs sc nm') elt W) : ExpS w mean mg mb zs (.fn cs nm) (.ListComp elt [⟨.Name x px, iter, [], 0⟩] sc pos) (cmrW cap i H W) := by
  intro n c hc K m φ σ s Q E G O S P
  obtain ⟨P, clx, hclx, hO⟩ := hcap _ (Px.v (zs := zs) (K := K) (s := s) (Q := Q) (E := E)) K m φ _ O P
  rw [O.2.1]
  exact LCg.ListComp_U S.1 hclx hsc.cell hsc.kind hsc.names hsc.x (src_rng (fin := fun z s => newS s (.lst z)) Px.v hH hW hc G O S P hO fun s₁ ys ms φ' σ' led' p O' Ld r hz P' h => end_new (cs := cs) (nm := nm) (m := m) p Ld r hz P' h) (hs _)
theorem ExpS.compD {cs sc : Scope} {nm nm' : Nms} {cap : List V → R → R} {iter elt : Expr} {A : Wd} {i : Nat} {x : Str} {px pos : Pos} (hcap : CapS cs nm sc x i nm' cap) (hsc : ScOk sc x) (hs : ∀ env x, foldedSetIterable iter env x = pure x) (hA : ExpS w mean mg mb zs (.fn cs nm) iter A) : ExpS w mean mg mb zs (.fn cs nm) (.ListComp elt [⟨.Name x px, iter, [], 0⟩] sc pos) (cmdW cap A) := by
  intro n c hc K m φ σ s Q E G O S P
  obtain ⟨P, clx, hclx, hO⟩ := hcap _ (Px.v (zs := zs) (K := K) (s := s) (Q := Q) (E := E)) K m φ _ O P
  rw [O.2.1]
  refine ListComp_D0 S.1 hclx hsc.cell hsc.kind hsc.names hsc.x ?_ (hs _)
  refine Eq.mp (congrArg (fun z => wpAny (Mdl w) K.A (eval iter z) _ E s) O.2.1) ?_
  refine hA n c hc K m φ σ s _ E G O S (Px.v.bndN P ?_)
  intro y σ₁ φ₁ h₁ tk₁ rv p₁ S₁ r₁ P
  obtain ⟨nx, t, pn⟩ := σ₁
  replace P := PV.ref P; obtain ⟨k, rfl, P⟩ := P
  replace P := PV.look P; obtain ⟨o, hl, P⟩ := P
  replace P := PV.ed P; obtain ⟨rfl, P⟩ := P
  obtain ⟨ax, hax, rfl⟩ := r₁
  obtain ⟨F, led, Ld, N⟩ := S₁
  obtain ⟨a', ob, k1, _, k3, e, lo⟩ := Ld.at hl
  rw [hax] at k1; cases k1
  simp only at e lo
  subst e
  exact ⟨ax, _, rfl, rfl, F, N, List.mem_append_right _ k3, lo, fun s₂ ⟨h₂, e₂⟩ => end_new (cs := cs) (nm := nm) (m := m) p₁ Ld .nil (by simp) P ⟨h₂, tk₁, e₂⟩⟩
theorem ExcS.compT {cs sc : Scope} {nm nm' : Nms} {cap : List V → R → R} {iter ct elt : Expr} {A T W : Wd} {i iy : Nat} {x y : Str} {px py pos spos : Pos} (hcap : CapS cs nm sc x i nm' cap) (hsc : ScOk sc x) (hs : ∀ env x, foldedSetIterable iter env x = pure x) (hu : nmU nm y iy = true) (hy : nm.lookup y = some (false, iy)) (hyk : ∀ cn L a ccd cl, (envX cn cs L a ccd cl).kindOf y = some .local) (hp : cs.kind = .function)
    (hsw : ∀ cn L a ccd cl, swapsWith (.ListComp elt [⟨.Name x px, iter, [ct], 0⟩] sc pos) (some (.Name y py)) spos.line (envX cn cs L a ccd cl) = pure true) (hA : ExpS w mean mg mb zs (.fn cs nm) iter A) (hT : TstS w mean mg mb zs (.cp cs sc nm') ct T) (hW : ExpS w mean mg mb zs (.cp cs sc nm') elt W) : ExcS w mean mg mb zs (.fn cs nm) (.Assign [.Name y py] (.ListComp elt [⟨.Name x px, iter, [ct], 0⟩] sc pos) spos) (cmtA iy cap i A T W) := by
  intro n c hc K m φ σ s Q E G O S P
  obtain ⟨P, clx, hclx, hO⟩ := hcap _ (Px.s (zs := zs) (κ := .fn cs nm) (K := K) (s := s) (Q := Q) (E := E)) K m φ _ O P
  have e1 := O.1
  rw [O.2.1]
  refine LCt.Assign_ListComp_T S.1 rfl (by subst e1; exact hsw ..) hclx hsc.cell hsc.kind hsc.names hsc.x (by subst e1; exact hyk ..) ?_ (src_listT (fin := fun z s => bnd (newS s (.lst z)) fun x s => .nx (setL m iy x) s) Px.s hA hT hW hc G O S P hO fun s₁ ys ms φ' σ' led' p O' Ld r hz P' h => end_asg hu hy p O' Ld r hz P' h) (hs _)
  show (K.cs.kind == .class || (K.cs.kind == .module && _)) = false
  rw [e1, hp]; rfl
theorem ExcS.compR {cs sc : Scope} {nm nm' : Nms} {cap : List V → R → R} {iter elt : Expr} {H : Rg} {W : Wd} {i iy : Nat} {x y : Str} {px py pos spos : Pos} (hcap : CapS cs nm sc x i nm' cap) (hsc : ScOk sc x) (hs : ∀ env x, foldedSetIterable iter env x = pure x) (hu : nmU nm y iy = true) (hy : nm.lookup y = some (false, iy)) (hyk : ∀ cn L a ccd cl, (envX cn cs L a ccd cl).kindOf y = some .local) (hp : cs.kind = .function)
    (hsw : ∀ cn L a ccd cl, swapsWith (.ListComp elt [⟨.Name x px, iter, [], 0⟩] sc pos) (some (.Name y py)) spos.line (envX cn cs L a ccd cl) = pure true) (hH : RngS w mean mg mb zs (.fn cs nm) iter H) (hW : ExpS w mean mg mb zs (.cp cs sc nm') elt W) : ExcS w mean mg mb zs (.fn cs nm) (.Assign [.Name y py] (.ListComp elt [⟨.Name x px, iter, [], 0⟩] sc pos) spos) (cmrA iy cap i H W) := by
  intro n c hc K m φ σ s Q E G O S P
  obtain ⟨P, clx, hclx, hO⟩ := hcap _ (Px.s (zs := zs) (κ := .fn cs nm) (K := K) (s := s) (Q := Q) (E := E)) K m φ _ O P
  have e1 := O.1
  rw [O.2.1]
  refine LCg.Assign_ListComp_U S.1 rfl (by subst e1; exact hsw ..) hclx hsc.cell hsc.kind hsc.names hsc.x (by subst e1; exact hyk ..) ?_ (src_rng (fin := fun z s => bnd (newS s (.lst z)) fun x s => .nx (setL m iy x) s) Px.s hH hW hc G O S P hO fun s₁ ys ms φ' σ' led' p O' Ld r hz P' h => end_asg hu hy p O' Ld r hz P' h) (hs _)
  show (K.cs.kind == .class || (K.cs.kind == .module && _)) = false
  rw [e1, hp]; rfl
end
end
section
noncomputable section
noncomputable def nopW : Wd := fun _ m s => .nx m s
noncomputable def seqW (A B : Wd) : Wd := fun c m s => bnds (A c m s) fun m s => B c m s
noncomputable def expW (A : Wd) : Wd := fun c m s => bnd (A c m s) fun _ s => .nx m s
noncomputable def retW (A : Wd) : Wd := fun c m s => bnd (A c m s) fun x s => .rt x s
noncomputable def rtnW : Wd := fun _ _ s => .rt .o s
abbrev Tg := V → List V → St → R
noncomputable def asgN (i : Nat) : Tg := fun x m s => .nx (setL m i x) s
noncomputable def asgC (i : Nat) : Tg := fun x m s => getL m i fun r => isRef r fun k => lookS s k fun o => onCel o fun _ => notU x (updS s k (.cel x) fun s => .nx m s)
noncomputable def asgL (Ts : List Tg) : List V → List V → St → R := List.rec (motive := fun _ => List V → List V → St → R) (fun l m s => List.rec (motive := fun _ => R) (.nx m s) (fun _ _ _ => .bad) l) (fun A _ ih l m s => List.rec (motive := fun _ => R) .bad (fun x l' _ => bnds (A x m s) fun m s => ih l' m s) l) Ts
noncomputable def asgT (Ts : List Tg) : Tg := fun x m s => isRef x fun a => lookS s a fun o => O.rec (motive := fun _ => R) (fun l => ifB (Nat.beq (lnL l) (lnL Ts)) (asgL Ts l m s) .bad) (fun l => ifB (Nat.beq (lnL l) (lnL Ts)) (asgL Ts l m s) .bad) (fun _ => .bad) (fun _ => .bad) .bad (fun _ => .bad) .bad o
noncomputable def asgW (A : Wd) (t : Tg) : Wd := fun c m s => bnd (A c m s) fun x s => t x m s
noncomputable def sw2W (i j : Nat) (A : Wd) : Wd := fun c m s => bnd (A c m s) fun x s => tupOf s x fun _ l => on2 l fun x y => .nx (setL (setL m j y) i x) s
noncomputable def on3 (l : List V) (k : V → V → V → R) : R := List.rec (motive := fun _ => R) .bad (fun x l' _ => on2 l' fun y z => k x y z) l
noncomputable def sw3W (i j k : Nat) (A : Wd) : Wd := fun c m s => bnd (A c m s) fun x s => tupOf s x fun _ l => on3 l fun x y z => .nx (setL (setL (setL m k z) j y) i x) s
noncomputable def satW (i : Nat) (A B : Wd) : Wd := fun c m s => bnd (A c m s) fun y s => bnd (B c m s) fun x s => dctOf s x fun d l => notU y (frcL (setL l i y) fun l => updS s d (.dct l) fun s => .nx m s)
noncomputable def augW (i : Nat) (op : Nat → Nat → (Nat → R) → R) (B A : Wd) : Wd := fun c m s => bnd (B c m s) fun x s => dctOf s x fun _ l => getL l i fun old => isInt old fun old => bnd (A c m s) fun y s => isInt y fun y => op old y fun z => dctOf s x fun d l => frcL (setL l i (.n z)) fun l => updS s d (.dct l) fun s => .nx m s
noncomputable def addK (a b : Nat) (k : Nat → R) : R := frcN (Nat.add a b) k
noncomputable def subK (a b : Nat) (k : Nat → R) : R := ifB (Nat.ble b a) (frcN (Nat.sub a b) k) .bad
noncomputable def sixW (A B C : Wd) : Wd := fun c m s => bnd (A c m s) fun y s => bnd (B c m s) fun x s => bnd (C c m s) fun j s => isInt j fun j => isRef x fun k => lookS s k fun o => O.rec (motive := fun _ => R) (fun l => getL l j fun _ => frcL (setL l j y) fun l => updS s k (.lst l) fun s => .nx m s) (fun _ => .bad) (fun _ => .bad) (fun _ => .bad) .bad (fun _ => .bad) .bad o
noncomputable def slnW (A B : Wd) : Wd := fun c m s => bnd (A c m s) fun y s => bnd (B c m s) fun x s => lstOf s x fun k l => lstOf s y fun k' l' => on1 l' fun v => ifB (Nat.beq k k') .bad (ifB (Nat.ble 2 (lnL l)) (ifB (Nat.ble (lnL l) 100) (frcL (apl (tke (Nat.sub (lnL l) 2) l) [v]) fun l => updS s k (.lst l) fun s => .nx m s) .bad) .bad)
noncomputable def ifW (T A B : Wd) : Wd := fun c m s => bnd (T c m s) fun x s => isB x fun b => ifB b (A c m s) (B c m s)
end
section
variable {w : World} {mean : ExcName → Option Value} {mg mb : Str → Option Value} {zs : List Int} {κ : Kp}
theorem env_of {P : Env → Prop} {cs : Scope} {nm : Nms} {K : Kx} {m : List V} {φ : List Addr} (h : ∀ cn L a ccd cl, P (envX cn cs L a ccd cl)) (O : K.Ok (.fn cs nm) m φ) : P K.ev := by
  obtain ⟨e1, e2, _⟩ := O
  rw [e2]
  subst e1
  exact h ..
theorem on3_bad {P : R → Prop} (hb : ¬ P .bad) {l : List V} {k : V → V → V → R} (h : P (on3 l k)) : ∃ x y z, l = [x, y, z] ∧ P (k x y z) := by
  rcases l with _ | ⟨x, l⟩
  · exact (hb h).elim
  · obtain ⟨y, z, rfl, h⟩ := on2_bad hb h
    exact ⟨x, y, z, rfl, h⟩
theorem PostS.bnds {κ : Kp} {K : Kx} {φ : List Addr} {s : Shared} {Q Q' : Flow → Shared → Prop} {E : Value → Shared → Prop} {k : List V → St → R} : ∀ {r : R}, PostS zs κ K φ s Q E (Mine.bnds r k) →
    (∀ m' σ' φ' h' tk' mm', φ <+: φ' → (K.wm mm').Ok κ m' φ' → (K.wm mm').Sta zs φ' σ' h' → PostS zs κ (K.wm mm') φ' { s with heap := h', toks := tk' } Q E (k m' σ') → Q' .next { s with heap := h', toks := tk' }) → (∀ v s, Q (.ret v) s → Q' (.ret v) s) → PostS zs κ K φ s Q' E r
  | .nx m' σ', P, f, _ => fun φ' h' tk' mm' p O S => f m' σ' φ' h' tk' mm' p O S (PostS.wm (PostS.later p P))
  | .rt _ _, P, _, g => fun φ' h' tk' mm' rv p S r => g _ _ (P φ' h' tk' mm' rv p S r)
  | .ec _, P, _, _ => P
  | .ch _ _, P, f, g => fun i hi => PostS.bnds (P i hi) f g
  | .v _ _, P, _, _ => P
  | .bad, P, _, _ => P
theorem BdyS.nil : BdyS w mean mg mb zs κ [] nopW := by
  intro n c hc K m φ σ s Q E G O S P
  exact wpAny_execs_nil (PostS.done (tk := s.toks) P O S)
theorem BdyS.cons {st : Stmt} {l : List Stmt} {A B : Wd} (ha : ExcS w mean mg mb zs κ st A) (hb : BdyS w mean mg mb zs κ l B) : BdyS w mean mg mb zs κ (st :: l) (seqW A B) := by
  intro n c hc K m φ σ s Q E G O S P
  refine wpAny_execs_cons (ha n c hc K m φ σ s _ E G O S (PostS.bnds P ?_ fun _ _ h => h))
  intro m' σ' φ' h' tk' mm' p O' S' P'
  exact hb n c hc (K.wm mm') m' φ' σ' _ Q E (G.later mm') O' S' P'
theorem ExcS.expr {cs : Scope} {nm : Nms} {e : Expr} {A : Wd} {pos : Pos} (ha : ExpS w mean mg mb zs (.fn cs nm) e A) (hi : ∀ cn L a ccd cl, interactive (envX cn cs L a ccd cl) = false) (hs : ∀ cn L a ccd cl, swapsWith e none pos.line (envX cn cs L a ccd cl) = pure false) : ExcS w mean mg mb zs (.fn cs nm) (.Expr e pos) (expW A) := by
  intro n c hc K m φ σ s Q E G O S P
  refine wpAny_Expr_any (ha.bndS hc G O S P ?_) (env_of (P := fun env => interactive env = false) hi O) (env_of (P := fun env => swapsWith e none pos.line env = pure false) hs O)
  intro x σ₁ φ₁ h₁ tk₁ rv p₁ O₁ S₁ r₁ P
  exact PostS.done (E := E) (tk := tk₁) P O₁ S₁
theorem ExcS.ret {e : Expr} {A : Wd} {pos : Pos} (ha : ExpS w mean mg mb zs κ e A) : ExcS w mean mg mb zs κ (.Return (some e) pos) (retW A) := by
  intro n c hc K m φ σ s Q E G O S P
  refine wpAny_Return_some (ha.bndS hc G O S P ?_)
  intro x σ₁ φ₁ h₁ tk₁ rv p₁ O₁ S₁ r₁ P
  exact P φ₁ h₁ tk₁ K.mm rv (List.prefix_refl _) S₁ r₁
theorem ExcS.retN {pos : Pos} : ExcS w mean mg mb zs κ (.Return none pos) rtnW := by
  intro n c hc K m φ σ s Q E G O S P
  exact wpAny_Return_none (P φ s.heap s.toks K.mm .none (List.prefix_refl _) S rfl)
/-- a name of the frame takes a value -/
theorem store_loc {cs : Scope} {nm : Nms} {K : Kx} {n : Nat} {y : Str} {iy : Nat} {m : List V} {φ : List Addr} {σ : St} {s : Shared} {x : V} {rv : Value} {Q : Flow → Shared → Prop} {E E' : Value → Shared → Prop} (hu : nmU nm y iy = true) (hy : nm.lookup y = some (false, iy)) (hyk : ∀ cn L a ccd cl, (envX cn cs L a ccd cl).kindOf y = some .local)
    (G : K.Good w mean mg mb n) (O : K.Ok (.fn cs nm) m φ) (S : K.Sta zs φ σ s.heap) (r : RV φ x rv) (P : PostS zs (.fn cs nm) K φ s Q E' (.nx (setL m iy x) σ)) : wpAny (Mdl w) K.A (storeName K.ev y rv) (fun _ => Q .next) E s := by
  obtain ⟨e1, e2, N⟩ := O
  rw [e2]
  obtain ⟨F, led, Ld, NN⟩ := S
  refine storeX_L F NN (fun h' F' N' => ?_) G.k (by subst e1; exact hyk ..)
  exact P φ h' (s.toks + 1) (fun z => if z = y then some rv else K.mm z) (List.prefix_refl _) ⟨e1, e2, nm_set hu hy N r⟩ ⟨F', led, ⟨Ld.ad, Ld.nd, Ld.xl, Ld.pn, Ld.ob⟩, N'⟩
theorem AsgS.name {cs : Scope} {nm : Nms} {y : Str} {py : Pos} {iy : Nat} (hu : nmU nm y iy = true) (hy : nm.lookup y = some (false, iy)) (hyk : ∀ cn L a ccd cl, (envX cn cs L a ccd cl).kindOf y = some .local) : AsgS w mean mg mb zs (.fn cs nm) (.Name y py) (asgN iy) := by
  intro n K G m φ σ s x rv Q E O S r P
  exact assign_Name (store_loc hu hy hyk G O S r P)
theorem ExcS.asg1 {cs : Scope} {nm : Nms} {y : Str} {py pos : Pos} {iy : Nat} {e : Expr} {A : Wd} (hu : nmU nm y iy = true) (hy : nm.lookup y = some (false, iy)) (hyk : ∀ cn L a ccd cl, (envX cn cs L a ccd cl).kindOf y = some .local) (hs : ∀ cn L a ccd cl, swapsWith e (some (.Name y py)) pos.line (envX cn cs L a ccd cl) = pure false) (ha : ExpS w mean mg mb zs (.fn cs nm) e A) :
    ExcS w mean mg mb zs (.fn cs nm) (.Assign [.Name y py] e pos) (asgW A (asgN iy)) := by
  intro n c hc K m φ σ s Q E G O S P
  refine wpAny_Assign_Name (ha.bndS hc G O S P ?_) (env_of (P := fun env => swapsWith e (some (.Name y py)) pos.line env = pure false) hs O)
  intro x σ₁ φ₁ h₁ tk₁ rv p₁ O₁ S₁ r₁ P
  exact store_loc hu hy hyk G O₁ S₁ r₁ P
theorem updF_set {a : Addr} {o : Obj} : ∀ {l : List (Addr × Obj)} {k : Nat}, (l.map (·.1)).Nodup → l[k]? = some (a, o) → UpdF a o l (fun o' => l.set k (a, o'))
  | [], _, _, h => by simp at h
  | p :: l, 0, hn, h => by
    cases h
    refine .head fun q hq e => ?_
    rw [List.map_cons, List.nodup_cons] at hn
    exact hn.1 (List.mem_map.mpr ⟨q, hq, e⟩)
  | p :: l, k + 1, hn, h => by
    rw [List.map_cons, List.nodup_cons] at hn
    exact .tail (fun e => hn.1 (List.mem_map.mpr ⟨_, List.mem_of_getElem? h, e.symm⟩)) (updF_set hn.2 h)
theorem updF_pre {a : Addr} {o : Obj} {l : List (Addr × Obj)} {g : Obj → List (Addr × Obj)} (h : UpdF a o l g) : ∀ {xl : List (Addr × Obj)}, (∀ p ∈ xl, p.1 ≠ a) → UpdF a o (xl ++ l) (fun o' => xl ++ g o')
  | [], _ => h
  | p :: xl, hx => .tail (hx p (.head _)) (updF_pre h fun q hq => hx q (.tail _ hq))
theorem RO.celOf {φ : List Addr} {p : Addr × Obj} {rv : Value} : ∀ {x : V}, RV φ x rv → p.2.data = .cell (some rv) → RO zs φ (.cel x) p
  | .n _, r, e => ⟨rv, e, r⟩
  | .b _, r, e => ⟨rv, e, r⟩
  | .o, r, e => ⟨rv, e, r⟩
  | .s _, r, e => ⟨rv, e, r⟩
  | .r _, r, e => ⟨rv, e, r⟩
theorem RO.celIs {φ : List Addr} {p : Addr × Obj} : ∀ {x : V}, RO zs φ (.cel x) p → ∃ v₀, p.2.data = .cell v₀
  | .u, ⟨x, e⟩ => ⟨x, e⟩
  | .n _, ⟨x, e, _⟩ => ⟨some x, e⟩
  | .b _, ⟨x, e, _⟩ => ⟨some x, e⟩
  | .o, ⟨x, e, _⟩ => ⟨some x, e⟩
  | .s _, ⟨x, e, _⟩ => ⟨some x, e⟩
  | .r _, ⟨x, e, _⟩ => ⟨some x, e⟩
theorem AsgS.cell {cs : Scope} {nm : Nms} {y : Str} {py : Pos} {iy : Nat} (hy : nm.lookup y = some (true, iy)) (hyk : ∀ cn L a ccd cl, (envX cn cs L a ccd cl).kindOf y = some .cell) : AsgS w mean mg mb zs (.fn cs nm) (.Name y py) (asgC iy) := by
  intro n K G m φ σ s x rv Q E O S r P
  refine assign_Name ?_
  obtain ⟨nx, t, pn⟩ := σ
  replace P := PS.get P; obtain ⟨v, hv, P⟩ := P
  replace P := PS.ref P; obtain ⟨k, rfl, P⟩ := P
  replace P := PS.look P; obtain ⟨o, hl, P⟩ := P
  replace P := PS.cel P; obtain ⟨v, rfl, P⟩ := P
  obtain ⟨hne, P⟩ := notU_bad PostS.nb P
  replace P := PS.upd P; obtain ⟨hmem, P⟩ := P
  have O₀ := O
  obtain ⟨e1, e2, N⟩ := O
  obtain ⟨c, hc, hcl⟩ := (N y iy _ hv).2 hy k rfl
  obtain ⟨F, led, Ld, NN⟩ := S
  obtain ⟨a', ob, q1, q2, q3, q4⟩ := Ld.at hl
  rw [hc] at q1; cases q1
  obtain ⟨v₀, hd⟩ := q4.celIs
  rw [e2]
  refine storeX_C (cl := K.cl) F NN hcl (updF_pre (updF_set (Ld.ad ▸ Ld.nd) q2) fun p hp e => Ld.xl p hp (e ▸ List.mem_of_getElem? hc)) hd (fun h' o' F' N' d' => ?_) G.k (by subst e1; exact hyk ..)
  exact P.done (tk := s.toks) O₀ ⟨F', _, Ld.set hc hmem (RO.celOf r d'), N'⟩
/-- targets, one by one -/
inductive TgtS (w : World) (mean : ExcName → Option Value) (mg mb : Str → Option Value) (zs : List Int) (κ : Kp) : List Expr → List Tg → Prop
  | nil : TgtS w mean mg mb zs κ [] []
  | cons {e es A As} (hst : ∀ rest env, assignEach (e :: rest) env = (false, assign e env) :: assignEach rest env) : AsgS w mean mg mb zs κ e A → TgtS w mean mg mb zs κ es As → TgtS w mean mg mb zs κ (e :: es) (A :: As)
theorem TgtS.len {es : List Expr} {As : List Tg} (H : TgtS w mean mg mb zs κ es As) (env : Env) : (assignEach es env).length = As.length ∧ List.findIdx? (fun x => x.1) (assignEach es env) = none := by
  induction H with
  | nil => exact ⟨rfl, rfl⟩
  | cons hst _ _ ih => rw [hst]; exact ⟨congrArg (· + 1) ih.1, by rw [List.findIdx?_cons]; simp [ih.2]⟩
theorem TgtS.run {es : List Expr} {As : List Tg} (H : TgtS w mean mg mb zs κ es As) : ∀ {n : Nat} {K : Kx} {m : List V} {φ : List Addr} {σ : St} {s : Shared} {Q : Flow → Shared → Prop} {E : Value → Shared → Prop} {xs : List V} {vs : List Value} (_ : K.Good w mean mg mb n) (_ : K.Ok κ m φ) (_ : K.Sta zs φ σ s.heap) (_ : RVs φ xs vs) (_ : PostS zs κ K φ s Q E (asgL As xs m σ)),
    wpAny (Mdl w) K.A (assignInOrder ((assignEach es K.ev).map fun x => x.2) vs) (fun _ => Q .next) E s := by
  induction H with
  | nil =>
    intro n K m φ σ s Q E xs vs G O S r P
    cases xs with
    | nil => exact assignInOrder_nil (PostS.done (tk := s.toks) P O S)
    | cons _ _ => exact P.elim
  | @cons e es A As hst ha _ ih =>
    intro n K m φ σ s Q E xs vs G O S r P
    rw [hst]
    cases r with
    | nil => exact P.elim
    | @cons x v xs vs hx hr =>
      replace P : PostS zs κ K φ s Q E (Mine.bnds (A x m σ) fun m s => asgL As xs m s) := P
      refine assignInOrder_cons (ha n K G m φ σ s x v (fun f s₁ => match f with | .next => wpAny (Mdl w) K.A (assignInOrder ((assignEach es K.ev).map fun x => x.2) vs) (fun _ => Q .next) E s₁ | _ => True) E O S hx (PostS.bnds P ?_ fun _ _ _ => trivial))
      intro m' σ' φ' h' tk' mm' p O' S' P'
      exact ih (K := K.wm mm') (G.later mm') O' S' (hr.mono p) P'
theorem AsgS.tup {es : List Expr} {As : List Tg} {kk : Nat} {pos : Pos} (H : TgtS w mean mg mb zs κ es As) : AsgS w mean mg mb zs κ (.Tuple es kk pos) (asgT As) := by
  intro n K G m φ σ s x rv Q E O S r P
  obtain ⟨nx, t, pn⟩ := σ
  replace P := PS.ref P; obtain ⟨k, rfl, P⟩ := P
  replace P := PS.look P; obtain ⟨o, hl, P⟩ := P
  obtain ⟨ax, hax, rfl⟩ := r
  obtain ⟨h1, h2⟩ := H.len K.ev
  have hlen : ∀ l : List V, PostS zs κ K φ s Q E (ifB (Nat.beq (lnL l) (lnL As)) (asgL As l m (.mk nx t pn)) .bad) → l.length = As.length ∧ PostS zs κ K φ s Q E (asgL As l m (.mk nx t pn)) := fun l h => by
    obtain ⟨h1, h2⟩ := PS.if h
    have := Nat.eq_of_beq_eq_true h1
    rw [lnL_eq, lnL_eq] at this
    exact ⟨this, h2⟩
  have S₀ := S
  obtain ⟨F, led, Ld, N⟩ := S
  cases o with
  | lst l =>
    obtain ⟨hll, P⟩ := hlen l P
    obtain ⟨vs, u, k1, k2, k3, _⟩ := Ld.list hl hax
    refine kun_list F N (Ld.isList N k1) rfl (by rw [h1, List.size_toArray, k2.len, hll]) h2 fun h' F' N' => ?_
    exact H.run G O ⟨F', led, Ld, N'⟩ k2 (PostS.later (h := h') (tk := s.toks) (List.prefix_refl _) P)
  | tup l =>
    obtain ⟨hll, P⟩ := hlen l P
    obtain ⟨a', ob, q1, _, q3, vs, e, k2, _⟩ := Ld.at hl
    rw [hax] at q1; cases q1
    cases e
    refine unpackN_ F N ⟨_, (N _ (List.mem_append_right _ q3)).1, rfl, 0, rfl⟩ rfl (by rw [h1, List.size_toArray, k2.len, hll]) h2 fun h' F' N' => ?_
    exact H.run G O ⟨F', led, Ld, N'⟩ k2 (PostS.later (h := h') (tk := s.toks) (List.prefix_refl _) P)
  | _ => exact P.elim
theorem ExcS.asgT {cs : Scope} {nm : Nms} {es : List Expr} {kk : Nat} {tp pos : Pos} {e : Expr} {A : Wd} {T : Tg} (hT : AsgS w mean mg mb zs (.fn cs nm) (.Tuple es kk tp) T) (hs : ∀ cn L a ccd cl, swapsWithSole [.Tuple es kk tp] e pos.line (envX cn cs L a ccd cl) = pure false) (hs2 : ∀ cn L a ccd cl, swappedStores [.Tuple es kk tp] e (envX cn cs L a ccd cl) = pure none)
    (ha : ExpS w mean mg mb zs (.fn cs nm) e A) : ExcS w mean mg mb zs (.fn cs nm) (.Assign [.Tuple es kk tp] e pos) (asgW A T) := by
  intro n c hc K m φ σ s Q E G O S P
  refine PyProof.Rows.Assign_Tuple (ha.bndS hc G O S P ?_) (env_of (P := fun env => swapsWithSole [.Tuple es kk tp] e pos.line env = pure false) hs O) (env_of (P := fun env => swappedStores [.Tuple es kk tp] e env = pure none) hs2 O)
  intro x σ₁ φ₁ h₁ tk₁ rv p₁ O₁ S₁ r₁ P
  exact hT n K G m φ₁ σ₁ _ x rv Q E O₁ S₁ r₁ P
theorem ExcS.swp2 {cs : Scope} {nm : Nms} {a b : Str} {es : List Expr} {kk i j : Nat} {tp pos : Pos} {e : Expr} {A : Wd} (hua : nmU nm a i = true) (hya : nm.lookup a = some (false, i)) (hka : ∀ cn L c ccd cl, (envX cn cs L c ccd cl).kindOf a = some .local) (hub : nmU nm b j = true) (hyb : nm.lookup b = some (false, j)) (hkb : ∀ cn L a ccd cl, (envX cn cs L a ccd cl).kindOf b = some .local)
    (hs : ∀ cn L a ccd cl, swapsWithSole [.Tuple es kk tp] e pos.line (envX cn cs L a ccd cl) = pure false) (hs2 : ∀ cn L c ccd cl, swappedStores [.Tuple es kk tp] e (envX cn cs L c ccd cl) = pure (some [a, b])) (ha : ExpS w mean mg mb zs (.fn cs nm) e A) : ExcS w mean mg mb zs (.fn cs nm) (.Assign [.Tuple es kk tp] e pos) (sw2W i j A) := by
  intro n c hc K m φ σ s Q E G O S P
  refine Assign_Tuple_swapped (names := [a, b]) (ha.bndS hc G O S P ?_) (env_of (P := fun env => swapsWithSole [.Tuple es kk tp] e pos.line env = pure false) hs O) (env_of (P := fun env => swappedStores [.Tuple es kk tp] e env = pure (some [a, b])) hs2 O)
  intro x σ₁ φ₁ h₁ tk₁ rv p₁ O₁ S₁ r₁ P
  obtain ⟨nx, t, pn⟩ := σ₁
  replace P := PS.ref P; obtain ⟨k, rfl, P⟩ := P
  replace P := PS.look P; obtain ⟨o, hl, P⟩ := P
  replace P := PS.tup P; obtain ⟨l, rfl, P⟩ := P
  replace P := PS.on2 P; obtain ⟨x, y, rfl, P⟩ := P
  obtain ⟨ax, hax, rfl⟩ := r₁
  obtain ⟨F, led, Ld, N⟩ := S₁
  obtain ⟨a', ob, q1, _, q3, vs, ee, k2, _⟩ := Ld.at hl
  rw [hax] at q1; cases q1
  cases ee
  obtain ⟨_, _, rfl, rx, ry⟩ := k2.two
  refine unpackItemsN_ (s := { s with heap := h₁, toks := tk₁ }) F N ⟨_, (N _ (List.mem_append_right _ q3)).1, rfl, 0, rfl⟩ rfl rfl fun h' F' N' => ?_
  refine assignInOrder_cons (bindName_ (store_loc (K := K) (E' := E) (Q := fun f s₁ => wpAny (Mdl w) K.A (assignInOrder [bindName K.ev a] _) (fun _ => Q .next) E s₁) hub hyb hkb G O₁ ⟨F', led, Ld, N'⟩ ry ?_))
  intro φ2 h2 tk2 mm2 p2 O2 S2
  refine assignInOrder_cons (bindName_ (store_loc (K := K.wm mm2) (E' := E) (Q := fun f s₁ => wpAny (Mdl w) K.A (assignInOrder [] _) (fun _ => Q .next) E s₁) hua hya hka (G.later mm2) O2 S2 (rx.mono p2) ?_))
  intro φ3 h3 tk3 mm3 p3 O3 S3
  exact assignInOrder_nil (P φ3 h3 tk3 mm3 (p2.trans p3) O3 S3)
theorem ExcS.swp3 {cs : Scope} {nm : Nms} {a b d : Str} {es : List Expr} {kk i j q : Nat} {tp pos : Pos} {e : Expr} {A : Wd} (hua : nmU nm a i = true) (hya : nm.lookup a = some (false, i)) (hka : ∀ cn L c ccd cl, (envX cn cs L c ccd cl).kindOf a = some .local) (hub : nmU nm b j = true) (hyb : nm.lookup b = some (false, j)) (hkb : ∀ cn L a ccd cl, (envX cn cs L a ccd cl).kindOf b = some .local) (hud : nmU nm d q = true) (hyd : nm.lookup d = some (false, q)) (hkd : ∀ cn L a ccd cl, (envX cn cs L a ccd cl).kindOf d = some .local)
    (hs : ∀ cn L a ccd cl, swapsWithSole [.Tuple es kk tp] e pos.line (envX cn cs L a ccd cl) = pure false) (hs2 : ∀ cn L c ccd cl, swappedStores [.Tuple es kk tp] e (envX cn cs L c ccd cl) = pure (some [a, b, d])) (ha : ExpS w mean mg mb zs (.fn cs nm) e A) : ExcS w mean mg mb zs (.fn cs nm) (.Assign [.Tuple es kk tp] e pos) (sw3W i j q A) := by
  intro n c hc K m φ σ s Q E G O S P
  refine Assign_Tuple_swapped (names := [a, b, d]) (ha.bndS hc G O S P ?_) (env_of (P := fun env => swapsWithSole [.Tuple es kk tp] e pos.line env = pure false) hs O) (env_of (P := fun env => swappedStores [.Tuple es kk tp] e env = pure (some [a, b, d])) hs2 O)
  intro x σ₁ φ₁ h₁ tk₁ rv p₁ O₁ S₁ r₁ P
  obtain ⟨nx, t, pn⟩ := σ₁
  replace P := PS.ref P; obtain ⟨k, rfl, P⟩ := P
  replace P := PS.look P; obtain ⟨o, hl, P⟩ := P
  replace P := PS.tup P; obtain ⟨l, rfl, P⟩ := P
  obtain ⟨x, y, z, rfl, P⟩ := on3_bad (P := PostS zs (.fn cs nm) K φ₁ { s with heap := h₁, toks := tk₁ } Q E) PostS.nb P
  obtain ⟨ax, hax, rfl⟩ := r₁
  obtain ⟨F, led, Ld, N⟩ := S₁
  obtain ⟨a', ob, q1, _, q3, vs, ee, k2, _⟩ := Ld.at hl
  rw [hax] at q1; cases q1
  cases ee
  obtain ⟨_, _, _, rfl, rx, ry, rz⟩ := k2.three
  refine unpackItemsN_ (s := { s with heap := h₁, toks := tk₁ }) F N ⟨_, (N _ (List.mem_append_right _ q3)).1, rfl, 0, rfl⟩ rfl rfl fun h' F' N' => ?_
  refine assignInOrder_cons (bindName_ (store_loc (K := K) (E' := E) (Q := fun f s₁ => wpAny (Mdl w) K.A (assignInOrder [bindName K.ev b, bindName K.ev a] _) (fun _ => Q .next) E s₁) hud hyd hkd G O₁ ⟨F', led, Ld, N'⟩ rz ?_))
  intro φ1 h1 tk1 mm1 p1 O1 S1
  refine assignInOrder_cons (bindName_ (store_loc (K := K.wm mm1) (E' := E) (Q := fun f s₁ => wpAny (Mdl w) K.A (assignInOrder [bindName K.ev a] _) (fun _ => Q .next) E s₁) hub hyb hkb (G.later mm1) O1 S1 (ry.mono p1) ?_))
  intro φ2 h2 tk2 mm2 p2 O2 S2
  refine assignInOrder_cons (bindName_ (store_loc (K := K.wm mm2) (E' := E) (Q := fun f s₁ => wpAny (Mdl w) K.A (assignInOrder [] _) (fun _ => Q .next) E s₁) hua hya hka (G.later mm2) O2 S2 (rx.mono (p1.trans p2)) ?_))
  intro φ3 h3 tk3 mm3 p3 O3 S3
  exact assignInOrder_nil (P φ3 h3 tk3 mm3 ((p1.trans p2).trans p3) O3 S3)
theorem ExcS.if {t : Expr} {a b : List Stmt} {T A B : Wd} {pos : Pos} (ht : TstS w mean mg mb zs κ t T) (ha : BdyS w mean mg mb zs κ a A) (hb : BdyS w mean mg mb zs κ b B) : ExcS w mean mg mb zs κ (.If t a b pos) (ifW T A B) := by
  intro n c hc K m φ σ s Q E G O S P
  refine wpAny_If (ht.bndS (k := fun b s => ifB b (A c m s) (B c m s)) hc G O S P ?_)
  intro b σ₁ φ₁ h₁ tk₁ p₁ O₁ S₁ P
  cases b with
  | true => exact ha n c hc K m φ₁ σ₁ _ Q E G O₁ S₁ P
  | false => exact hb n c hc K m φ₁ σ₁ _ Q E G O₁ S₁ P
end
end
section
section
variable {w : World} {mean : ExcName → Option Value} {mg mb : Str → Option Value} {zs : List Int} {κ : Kp}
/-- what an attribute of a space asks of the written part -/
structure AtOk (w : World) (attr : Str) (i : Nat) : Prop where
  pl : plainGet (Mine.hd.heap_39 w.params) 54 attr = true
  hd : hasDictIn (Mine.hd.heap_39 w.params) 54 = true
  fi : findIn (Mine.hd.heap_39 w.params) (.ref 54) attr = some none
  get : ∀ H v0 v1 v2 v3 v4 v5 v6 v7 v, [v0, v1, v2, v3, v4, v5, v6, v7][i]? = some v → PySem.W.getL attr (spV H v0 v1 v2 v3 v4 v5 v6 v7) = some (some v)
structure StOk (w : World) (attr : Str) (i : Nat) : Prop where
  sa : findIn (Mine.hd.heap_39 w.params) (.ref 54) (Str.ofString "__setattr__") = some (some (.builtin "object.__setattr__"))
  po : plainOver (Mine.hd.heap_39 w.params) 54 = true
  tk : takerIn (Mine.hd.heap_39 w.params) 54 attr = some none
  put : ∀ H h key v v0 v1 v2 v3 v4 v5 v6 v7 w0 w1 w2 w3 w4 w5 w6 w7, [v0, v1, v2, v3, v4, v5, v6, v7].set i v = [w0, w1, w2, w3, w4, w5, w6, w7] → (putL attr h key v (spV H v0 v1 v2 v3 v4 v5 v6 v7), putN attr (spV H v0 v1 v2 v3 v4 v5 v6 v7) 8) = (spV H w0 w1 w2 w3 w4 w5 w6 w7, 8)
  lt : i < 8
theorem eight {l : List Value} (h : l.length = 8) : ∃ w0 w1 w2 w3 w4 w5 w6 w7, l = [w0, w1, w2, w3, w4, w5, w6, w7] := by
  rcases l with _ | ⟨w0, _ | ⟨w1, _ | ⟨w2, _ | ⟨w3, _ | ⟨w4, _ | ⟨w5, _ | ⟨w6, _ | ⟨w7, _ | ⟨w8, l⟩⟩⟩⟩⟩⟩⟩⟩⟩ <;> simp at h
  exact ⟨_, _, _, _, _, _, _, _, rfl⟩
theorem get_at {K : Kx} {n : Nat} {φ : List Addr} {nx : Nat} {t : T} {pn : List Nat} {s : Shared} {attr : Str} {i k d : Nat} {l : List V} {y : V} {ax : Addr} {expr : Bool} {Q E : Value → Shared → Prop} (A : AtOk w attr i) (G : K.Good w mean mg mb n) (S : K.Sta zs φ (.mk nx t pn) s.heap) (hax : φ[k]? = some ax) (hl : lookO t k = some (.ins d)) (hl2 : lookO t d = some (.dct l)) (hy : l[i]? = some y)
    (cont : ∀ v, RV φ y v → Q v { s with toks := s.toks + 1 }) : wpAny (Mdl w) K.A (getAttr (.ref ax) attr expr) Q E s := by
  obtain ⟨F, led, Ld, N⟩ := S
  obtain ⟨a', ob, k1, _, k3, dx, hdx, e⟩ := Ld.at hl
  rw [hax] at k1; cases k1; cases e
  obtain ⟨a', ob, k1, _, k4, H, v0, v1, v2, v3, v4, v5, v6, v7, e, r⟩ := Ld.at hl2
  rw [hdx] at k1; cases k1; cases e
  obtain ⟨v, hv, rv⟩ := r.get hy
  exact get_own F G.X (InstAt.of_news N (List.mem_append_right _ k3) (List.mem_append_right _ k4)) A.pl A.hd A.fi rfl (A.get _ _ _ _ _ _ _ _ _ _ hv) rv.handed (cont v rv)
theorem set_at {K : Kx} {n : Nat} {φ : List Addr} {nx : Nat} {t : T} {pn : List Nat} {s : Shared} {attr : Str} {i k d : Nat} {l : List V} {y : V} {v : Value} {ax : Addr} {Q : Unit → Shared → Prop} {E : Value → Shared → Prop} (A : AtOk w attr i) (B : StOk w attr i) (G : K.Good w mean mg mb n) (S : K.Sta zs φ (.mk nx t pn) s.heap) (hax : φ[k]? = some ax) (hl : lookO t k = some (.ins d)) (hl2 : lookO t d = some (.dct l)) (rv : RV φ y v) (hm : memN d pn = false)
    (cont : ∀ h', K.Sta zs φ (.mk nx (upd t d (.dct (l.set i y))) pn) h' → Q () { s with heap := h', toks := s.toks + 2 }) : wpAny (Mdl w) K.A (setAttr (.ref ax) attr v) Q E s := by
  obtain ⟨F, led, Ld, N⟩ := S
  obtain ⟨a', ob, k1, _, k3, dx, hdx, e⟩ := Ld.at hl
  rw [hax] at k1; cases k1; cases e
  obtain ⟨a', ob, k1, k5, k4, H, v0, v1, v2, v3, v4, v5, v6, v7, e, r⟩ := Ld.at hl2
  rw [hdx] at k1; cases k1; cases e
  obtain ⟨w0, w1, w2, w3, w4, w5, w6, w7, hw⟩ := eight (l := [v0, v1, v2, v3, v4, v5, v6, v7].set i v) (by simp)
  obtain ⟨v', hv'⟩ : ∃ v', [v0, v1, v2, v3, v4, v5, v6, v7][i]? = some v' := ⟨_, List.getElem?_eq_getElem (by have := B.lt; simpa using this)⟩
  obtain ⟨U, Ld'⟩ := Ld.turn (o := .dct (l.set i y)) (ob' := dictOf (spV H w0 w1 w2 w3 w4 w5 w6 w7) 8) hdx k5 hm ⟨H, w0, w1, w2, w3, w4, w5, w6, w7, rfl, hw ▸ r.set rv i⟩
  exact set_dict F G.X N (InstAt.of_news N (List.mem_append_right _ k3) (List.mem_append_right _ k4)) rfl B.sa B.po B.tk A.hd (by rw [A.get _ _ _ _ _ _ _ _ _ _ hv']; rfl) (B.put _ _ _ _ _ _ _ _ _ _ _ _ _ _ _ _ _ _ _ _ hw) U (by simp) fun h' F' N' => cont h' ⟨F', _, Ld', N'⟩
theorem ExpS.attr {x attr : Str} {xp pos : Pos} {A : Wd} (i : Nat) (hA : ExpS w mean mg mb zs κ (.Name x xp) A) (H : AtOk w attr i) : ExpS w mean mg mb zs κ (.Attribute (.Name x xp) attr pos) (attW i A) :=
  ExpS.att i hA H.pl H.hd H.fi rfl H.get
theorem PS.dctOf {K : Kx} {φ : List Addr} {s : Shared} {Q : Flow → Shared → Prop} {E : Value → Shared → Prop} {nx : Nat} {t : T} {pn : List Nat} {v : V} {k : Nat → List V → R} (h : PostS zs κ K φ s Q E (Mine.dctOf (.mk nx t pn) v k)) : ∃ a d l, v = .r a ∧ lookO t a = some (.ins d) ∧ lookO t d = some (.dct l) ∧ PostS zs κ K φ s Q E (k d l) := by
  obtain ⟨a, rfl, h⟩ := PS.ref h
  obtain ⟨o, h1, h⟩ := PS.look h
  obtain ⟨d, rfl, h⟩ := PS.ins h
  obtain ⟨o, h2, h⟩ := PS.look h
  obtain ⟨l, rfl, h⟩ := PS.dct h
  exact ⟨a, d, l, rfl, h1, h2, h⟩
theorem ExcS.satt {x attr : Str} {xp ap pos : Pos} {e : Expr} {A B : Wd} {cs : Scope} {nm : Nms} (i : Nat) (H : AtOk w attr i) (H2 : StOk w attr i) (hs : ∀ cn L a ccd cl, swapsWith e (some (.Attribute (.Name x xp) attr ap)) pos.line (envX cn cs L a ccd cl) = pure false) (ha : ExpS w mean mg mb zs (.fn cs nm) e A) (hb : ExpS w mean mg mb zs (.fn cs nm) (.Name x xp) B) :
    ExcS w mean mg mb zs (.fn cs nm) (.Assign [.Attribute (.Name x xp) attr ap] e pos) (satW i A B) := by
  intro n c hc K m φ σ s Q E G O S P
  refine plainObj_wpAny_Assign_Attribute (ha.bndS hc G O S P ?_) (env_of (P := fun env => swapsWith e (some (.Attribute (.Name x xp) attr ap)) pos.line env = pure false) hs O)
  intro y σ₁ φ₁ h₁ tk₁ rv p₁ O₁ S₁ r₁ P
  refine hb.bndS hc G O₁ S₁ P ?_
  intro x σ₂ φ₂ h₂ tk₂ rv₂ p₂ O₂ S₂ r₂ P
  obtain ⟨nx, t, pn⟩ := σ₂
  replace P := PS.dctOf P; obtain ⟨a, d, l, rfl, hl, hl2, P⟩ := P
  obtain ⟨_, P⟩ := notU_bad PostS.nb P
  replace P := PS.frcL P
  rw [setL_eq] at P
  replace P := PS.upd P; obtain ⟨hm, P⟩ := P
  obtain ⟨ax, hax, rfl⟩ := r₂
  exact set_at (s := { s with heap := h₂, toks := tk₂ }) H H2 G S₂ hax hl hl2 (r₁.mono p₂) hm fun h' S' => P.done (tk := tk₂ + 2) O₂ S'
theorem ExcS.aug {x attr : Str} {xp ap pos : Pos} {e : Expr} {A B : Wd} {o : Operator} {op : Nat → Nat → (Nat → R) → R} {cs : Scope} {nm : Nms} (i : Nat) (H : AtOk w attr i) (H2 : StOk w attr i) (ho : ∀ (K : Kx) φ (s : Shared) (Q : Flow → Shared → Prop) (E : Value → Shared → Prop) a b k, PostS zs (.fn cs nm) K φ s Q E (op a b k) → ∃ z : Nat, PostS zs (.fn cs nm) K φ s Q E (k z) ∧ ∀ (s' : Shared) t u (Q' : Value → Shared → Prop) E', Q' (.int (z : Int) s'.toks) { s' with toks := s'.toks + 1 } → wpAny (Mdl w) K.A (inplaceOp o (.int (a : Int) t) (.int (b : Int) u)) Q' E' s')
    (ha : ExpS w mean mg mb zs (.fn cs nm) e A) (hb : ExpS w mean mg mb zs (.fn cs nm) (.Name x xp) B) : ExcS w mean mg mb zs (.fn cs nm) (.AugAssign (.Attribute (.Name x xp) attr ap) o e pos) (augW i op B A) := by
  intro n c hc K m φ σ s Q E G O S P
  refine wpAny_AugAssign_AttributeAny (hb.bndS hc G O S P ?_)
  intro x σ₁ φ₁ h₁ tk₁ rv p₁ O₁ S₁ r₁ P
  obtain ⟨nx, t, pn⟩ := σ₁
  replace P := PS.dctOf P; obtain ⟨a, d, l, rfl, hl, hl2, P⟩ := P
  replace P := PS.get P; obtain ⟨old, hold, P⟩ := P
  replace P := PS.int P; obtain ⟨old, rfl, P⟩ := P
  obtain ⟨ax, hax, rfl⟩ := r₁
  refine get_at (s := { s with heap := h₁, toks := tk₁ }) H G S₁ hax hl hl2 hold fun v hv => ?_
  obtain ⟨tv, rfl⟩ := hv
  refine ha.bndS (s := { s with heap := h₁, toks := tk₁ + 1 }) hc G O₁ S₁ (PostS.later (s := { s with heap := h₁, toks := tk₁ }) (h := h₁) (tk := tk₁ + 1) (List.prefix_refl _) P) ?_
  intro y σ₂ φ₂ h₂ tk₂ rv₂ p₂ O₂ S₂ r₂ P
  replace P := PS.int P; obtain ⟨y, rfl, P⟩ := P
  obtain ⟨ty, rfl⟩ := r₂
  obtain ⟨z, P, hz⟩ := ho _ _ _ _ _ _ _ _ P
  refine hz _ _ _ _ _ ?_
  obtain ⟨nx, t, pn⟩ := σ₂
  replace P := PS.dctOf P; obtain ⟨a', d, l, e, hl, hl2, P⟩ := P
  cases e
  replace P := PS.frcL P
  rw [setL_eq] at P
  replace P := PS.upd P; obtain ⟨hm, P⟩ := P
  exact set_at (s := { s with heap := h₂, toks := tk₂ + 1 }) (y := .n z) H H2 G S₂ (pre_get p₂ hax) hl hl2 ⟨_, rfl⟩ hm fun h' S' => P.done (tk := tk₂ + 1 + 2) O₂ S'
theorem aug_add {cs : Scope} {nm : Nms} (K : Kx) (φ : List Addr) (s : Shared) (Q : Flow → Shared → Prop) (E : Value → Shared → Prop) (a b : Nat) (k : Nat → R) (P : PostS zs (.fn cs nm) K φ s Q E (addK a b k)) : ∃ z : Nat, PostS zs (.fn cs nm) K φ s Q E (k z) ∧ ∀ (s' : Shared) t u (Q' : Value → Shared → Prop) E', Q' (.int (z : Int) s'.toks) { s' with toks := s'.toks + 1 } → wpAny (Mdl w) K.A (inplaceOp .Add (.int (a : Int) t) (.int (b : Int) u)) Q' E' s' :=
  ⟨_, PS.frcN P, fun s' t u Q' E' h => iadd_int (by rw [← Int.natCast_add]; exact h)⟩
theorem aug_sub {cs : Scope} {nm : Nms} (K : Kx) (φ : List Addr) (s : Shared) (Q : Flow → Shared → Prop) (E : Value → Shared → Prop) (a b : Nat) (k : Nat → R) (P : PostS zs (.fn cs nm) K φ s Q E (subK a b k)) : ∃ z : Nat, PostS zs (.fn cs nm) K φ s Q E (k z) ∧ ∀ (s' : Shared) t u (Q' : Value → Shared → Prop) E', Q' (.int (z : Int) s'.toks) { s' with toks := s'.toks + 1 } → wpAny (Mdl w) K.A (inplaceOp .Sub (.int (a : Int) t) (.int (b : Int) u)) Q' E' s' := by
  obtain ⟨h1, P⟩ := PS.if P
  exact ⟨_, PS.frcN P, fun s' t u Q' E' h => isub_int (by rw [← Int.ofNat_sub (Nat.le_of_ble_eq_true h1)]; exact h)⟩
theorem list_put {prog : Program} {A : Around} {s : Shared} {h₀ : Heap} {L D : Addr} {m : Str → Option Value} {news news' : List (Addr × Obj)} {vs : List Value} {n j : Nat} {t : Tok} {v : Value} {Q : Unit → Shared → Prop} {E : Value → Shared → Prop} (F : Fr h₀ L s.heap m) (N : News h₀ L s.heap news) (U : Upd D (W.listOf vs.toArray n) (W.listOf (vs.set j v).toArray n) news news') (h1 : j < vs.length) (h2 : j < 2 ^ 63)
    (h : ∀ h', Fr h₀ L h' m → News h₀ L h' news' → Q () { s with heap := h' }) : wpAny (model prog w) A (setItem (.ref D) (.int (j : Int) t) v) Q E s := by
  obtain ⟨pre, post, rfl, rfl, a, b⟩ := U.split
  have z := N (D, W.listOf vs.toArray n) (List.mem_append.mpr (.inr (.head _)))
  refine ki_setAt z.1 (by omega) (by omega) (by rw [List.size_toArray]; omega) (h _ (F.change (Heap.SameBut.update ..) z.2.1 z.2.2) (ki_turn _ N a b ?_ ?_))
  · show vs.toArray.setIfInBounds (j : Int).toNat v = (vs.set j v).toArray
    apply Array.toList_inj.mp
    simp
  · simp
theorem ExcS.sidx {cs : Scope} {nm : Nms} {e o i : Expr} {A B C : Wd} {ip pos : Pos} (hs : ∀ cn L a ccd cl, swapsWith e (some (.Subscript o i ip)) pos.line (envX cn cs L a ccd cl) = pure false) (ha : ExpS w mean mg mb zs (.fn cs nm) e A) (hb : ExpS w mean mg mb zs (.fn cs nm) o B) (hi : ExpS w mean mg mb zs (.fn cs nm) i C) :
    ExcS w mean mg mb zs (.fn cs nm) (.Assign [.Subscript o i ip] e pos) (sixW A B C) := by
  intro n c hc K m φ σ s Q E G O S P
  refine wpAny_Assign_Subscript (ha.bndS hc G O S P ?_) (env_of (P := fun env => swapsWith e (some (.Subscript o i ip)) pos.line env = pure false) hs O)
  intro y σ₁ φ₁ h₁ tk₁ rv p₁ O₁ S₁ r₁ P₁
  refine hb.bndS hc G O₁ S₁ P₁ ?_
  intro x σ₂ φ₂ h₂ tk₂ rv₂ p₂ O₂ S₂ r₂ P₂
  refine hi.bndS hc G O₂ S₂ P₂ ?_
  intro j σ₃ φ₃ h₃ tk₃ rv₃ p₃ O₃ S₃ r₃ P
  obtain ⟨nx, t, pn⟩ := σ₃
  replace P := PS.int P; obtain ⟨j, rfl, P⟩ := P
  replace P := PS.ref P; obtain ⟨k, rfl, P⟩ := P
  replace P := PS.look P; obtain ⟨o, hl, P⟩ := P
  replace r₁ := r₁.mono (p₂.trans p₃)
  obtain ⟨ax, hax, rfl⟩ := r₂
  obtain ⟨t3, rfl⟩ := r₃
  replace hax := pre_get p₃ hax
  obtain ⟨l, o', ho, hj, hm, ho', P⟩ : ∃ l o', SeqO o l ∧ j < l.length ∧ memN k pn = false ∧ (∀ p, RO zs φ₃ (.lst (l.set j y)) p → RO zs φ₃ o' p) ∧ PostS zs (.fn cs nm) K φ₃ { s with heap := h₃, toks := tk₃ } Q E (.nx m (.mk nx (upd t k o') pn)) := by
    cases o with
    | lst l =>
      replace P := PS.get P; obtain ⟨old, hold, P⟩ := P
      replace P := PS.frcL P
      replace P := PS.upd P; obtain ⟨hm, P⟩ := P
      rw [setL_eq] at P
      exact ⟨l, _, rfl, (List.getElem?_eq_some_iff.mp hold).1, hm, fun _ h => h, P⟩
    | _ => exact P.elim
  obtain ⟨F, led, Ld, N⟩ := S₃
  obtain ⟨vs, u, k1, k2, k3, k4⟩ := Ld.seq hl ho hax
  have hlen := k2.len
  obtain ⟨U, Ld'⟩ := Ld.turn (o := o') (ob' := W.listOf (List.toArray (vs.set j rv)) u) hax k4 hm (ho' _ ⟨_, u, rfl, k2.set r₁ j, by simp; omega⟩)
  refine list_put (s := { s with heap := h₃, toks := tk₃ }) (vs := vs) F N U (by omega) (by omega) fun h' F' N' => ?_
  exact P.done (tk := tk₃) O₃ ⟨F', _, Ld', N'⟩
theorem rest_set {a : Addr} {o : Obj} : ∀ {l : List (Addr × Obj)} {k : Nat}, (l.map (·.1)).Nodup → l[k]? = some (a, o) → ∃ r, Rest [(a, o)] l r ∧ ∀ o', ∀ p ∈ l.set k (a, o'), p = (a, o') ∨ p ∈ r
  | [], _, _, h => by simp at h
  | p :: l, 0, hn, h => by
    cases h
    rw [List.map_cons, List.nodup_cons] at hn
    refine ⟨l, .drop (.head _) (.tail fun q hq p hp e => hn.1 ?_), fun o' p hp => List.mem_cons.mp hp⟩
    rw [List.mem_singleton.mp hp] at e
    exact List.mem_map.mpr ⟨q, hq, e.symm⟩
  | p :: l, k + 1, hn, h => by
    rw [List.map_cons, List.nodup_cons] at hn
    obtain ⟨r, h1, h2⟩ := rest_set hn.2 h
    refine ⟨p :: r, .keep (fun q hq e => hn.1 ?_) h1, fun o' q hq => ?_⟩
    · rw [List.mem_singleton.mp hq] at e
      exact List.mem_map.mpr ⟨_, List.mem_of_getElem? h, e⟩
    · rcases List.mem_cons.mp hq with rfl | hq
      · exact .inr (.head _)
      · exact (h2 o' q hq).imp id (.tail _)
theorem rest_pre {a : Addr} {o : Obj} {l r : List (Addr × Obj)} (h : Rest [(a, o)] l r) : ∀ {xl : List (Addr × Obj)}, (∀ p ∈ xl, p.1 ≠ a) → Rest [(a, o)] (xl ++ l) (xl ++ r)
  | [], _ => h
  | p :: xl, hx => .keep (fun q hq e => hx p (.head _) (by rw [List.mem_singleton.mp hq] at e; exact e.symm)) (rest_pre h fun q hq => hx q (.tail _ hq))
theorem ExcS.sneg {cs : Scope} {nm : Nms} {e o : Expr} {A B : Wd} {kk : Nat} {cp up sp ip pos : Pos} (hs : ∀ cn L a ccd cl, swapsWith e (some (.Subscript o (.Slice (some (.UnaryOp .USub (.Constant (.int 2) kk cp) up)) none none sp) ip)) pos.line (envX cn cs L a ccd cl) = pure false) (ha : ExpS w mean mg mb zs (.fn cs nm) e A) (hb : ExpS w mean mg mb zs (.fn cs nm) o B) :
    ExcS w mean mg mb zs (.fn cs nm) (.Assign [.Subscript o (.Slice (some (.UnaryOp .USub (.Constant (.int 2) kk cp) up)) none none sp) ip] e pos) (slnW A B) := by
  intro n c hc K m φ σ s Q E G O S P
  refine wpAny_Assign_Subscript (ha.bndS hc G O S P ?_) (env_of (P := fun env => swapsWith e (some (.Subscript o (.Slice (some (.UnaryOp .USub (.Constant (.int 2) kk cp) up)) none none sp) ip)) pos.line env = pure false) hs O)
  intro y σ₁ φ₁ h₁ tk₁ rv p₁ O₁ S₁ r₁ P
  refine hb.bndS hc G O₁ S₁ P ?_
  intro x σ₂ φ₂ h₂ tk₂ rv₂ p₂ O₂ S₂ r₂ P
  refine wpAny_Slice (evalPart_some_step (UnaryOp_ (wpAny_Constant_int (neg_int (evalPart_none_step (evalPart_none_step ?_))))))
  obtain ⟨nx, t, pn⟩ := σ₂
  replace P := PS.list P; obtain ⟨k, l, rfl, hl, P⟩ := P
  replace P := PS.list P; obtain ⟨k', l', rfl, hl', P⟩ := P
  replace P := PS.on1 P; obtain ⟨v, rfl, P⟩ := P
  replace P := PS.ifn P; obtain ⟨hkk, P⟩ := P
  replace P := PS.if P; obtain ⟨hle, P⟩ := P
  replace P := PS.if P; obtain ⟨hle2, P⟩ := P
  replace P := PS.frcL P
  replace P := PS.upd P; obtain ⟨hm, P⟩ := P
  rw [lnL_eq] at hle hle2
  have hle := Nat.le_of_ble_eq_true hle
  have hle2 := Nat.le_of_ble_eq_true hle2
  replace r₁ := r₁.mono p₂
  obtain ⟨ay, hay, rfl⟩ := r₁
  obtain ⟨ax, hax, rfl⟩ := r₂
  obtain ⟨F, led, Ld, N⟩ := S₂
  have hne := Ld.ne hax hay (Nat.ne_of_beq_eq_false hkk)
  obtain ⟨vs, u, k1, k2, k3, k4⟩ := Ld.list hl hax
  obtain ⟨ws, u2, j1, j2, j3, _⟩ := Ld.list hl' hay
  obtain ⟨_, rfl, rv⟩ := j2.one
  obtain ⟨pre, v1, v2, rfl⟩ : ∃ pre v1 v2, vs = pre ++ [v1, v2] := by
    have hlen := k2.len
    obtain ⟨v1, v2, e⟩ : ∃ v1 v2, vs.drop (vs.length - 2) = [v1, v2] := by
      have hl2 : (vs.drop (vs.length - 2)).length = 2 := by simp; omega
      rcases hq : vs.drop (vs.length - 2) with _ | ⟨a, _ | ⟨b, _ | ⟨c, r⟩⟩⟩ <;> rw [hq] at hl2 <;> simp at hl2
      exact ⟨a, b, rfl⟩
    exact ⟨vs.take (vs.length - 2), v1, v2, by rw [← e, List.take_append_drop]⟩
  have hlen := k2.len
  simp only [List.length_append, List.length_cons, List.length_nil] at hlen
  obtain ⟨r, h1, h2⟩ := rest_set (Ld.ad ▸ Ld.nd) k4
  refine setItem_neg2 (hh := h₂) (g := s.gens) (d := s.drawn) (os := s.os) F N (List.mem_append_right _ k1) (List.mem_append_right _ j1) (beq_eq_false_iff_ne.mpr hne) (by omega) (rest_pre h1 fun p hp e => Ld.xl p hp (e ▸ List.mem_of_getElem? hax)) fun h' u' F' N' => ?_
  have ht2 : (pre ++ [v1, v2]).take (l.length - 2) = pre := by rw [List.take_append_of_le_length (by omega), List.take_of_length_le (by omega)]
  have ht := k2.take (l.length - 2)
  rw [ht2] at ht
  have hr2 := ht.app (RVs.cons rv .nil)
  refine P.done (tk := tk₂ + 1 + 1) O₂ ⟨F', _, Ld.set hax hm ⟨_, u', rfl, by rw [apl_eq, tke_eq, lnL_eq]; exact hr2, ?_⟩, fun p hp => ?_⟩
  · rw [apl_eq, tke_eq]; simp; omega
  · rcases List.mem_append.mp hp with hp | hp
    · exact N' p (.tail _ (List.mem_append_left _ hp))
    · rcases h2 _ p hp with rfl | hp
      · exact N' _ (.head _)
      · exact N' p (.tail _ (List.mem_append_right _ hp))
end
end
section
noncomputable section
/-- a step of a loop: it may neither raise nor return -/
noncomputable def bndsN (r : R) (k : List V → St → R) : R := R.rec (motive := fun _ => R) (fun _ _ => .bad) (fun m s => k m s) (fun _ _ => .bad) (fun _ => .bad) (fun n _ ih => .ch n ih) .bad r
abbrev Ti := Nat → Tg
noncomputable def forL (t : Ti) (B : Wd) (c : Cl) (k : List V → St → R) (l : List V) : Nat → List V → St → R :=
  List.rec (motive := fun _ => Nat → List V → St → R) (fun _ m s => k m s) (fun x _ ih i m s => bndsN (t i x m s) fun m s => bndsN (B c m s) fun m s => ih (Nat.succ i) m s) l
noncomputable def forW (t : Tg) (A B : Wd) : Wd := fun c m s => bndN (A c m s) fun x s => lstOf s x fun a l => pinS s a fun s => forL (fun _ => t) B c (fun m s => unpS s fun s => .nx m s) l 0 m s
noncomputable def enuW (t u : Tg) (A B : Wd) : Wd := fun c m s => bndN (A c m s) fun x s => lstOf s x fun a l => pinS s a fun s => forL (fun i => fun x m s => bnds (t (.n i) m s) fun m s => u x m s) B c (fun m s => unpS s fun s => .nx m s) l 0 m s
noncomputable def frgW (i : Nat) (H : Rg) (B : Wd) : Wd := fun c m s => H c m s fun a b s => forL (fun _ x m s => .nx (setL m i x) s) B c (fun m s => .nx m s) (rngV (Nat.sub b a) a) 0 m s
noncomputable def whlW (N : Nat) (T B : Wd) : Wd := fun c m s => Nat.rec (motive := fun _ => List V → St → R) (fun _ _ => .bad) (fun _ ih m s => bndN (T c m s) fun x s => isB x fun b => ifB b (bndsN (B c m s) ih) (.nx m s)) N m s
end
section
variable {w : World} {mean : ExcName → Option Value} {mg mb : Str → Option Value} {zs : List Int}
theorem Px.bndsN {PX : List Addr → R → Prop} (X : Px PX) {κ : Kp} {K : Kx} {φ : List Addr} {s : Shared} {Q : Flow → Shared → Prop} {E : Value → Shared → Prop} {k : List V → St → R} : ∀ {r : R}, PX φ (Mine.bndsN r k) →
    (∀ m' σ' φ' h' tk' mm', φ <+: φ' → (K.wm mm').Ok κ m' φ' → (K.wm mm').Sta zs φ' σ' h' → PX φ' (k m' σ') → Q .next { s with heap := h', toks := tk' }) → PostS zs κ K φ s Q E r
  | .nx m' σ', P, f => fun φ' h' tk' mm' p O S => f m' σ' φ' h' tk' mm' p O S (X.later _ _ _ p P)
  | .rt _ _, P, _ => (X.nb _ P).elim
  | .ec _, P, _ => (X.nb _ P).elim
  | .ch _ _, P, f => fun i hi => X.bndsN (X.ch _ _ _ P i hi) f
  | .v _ _, P, _ => (X.nb _ P).elim
  | .bad, P, _ => (X.nb _ P).elim
theorem AllObj.gen : ∀ {ws : List (Addr × String)} {k : List (Addr × Obj) → Prop}, (∀ its, its.map (·.1) = ws.map (·.1) → k its) → AllObj ws k
  | [], _, h => h [] rfl
  | w :: ws, k, h => fun o _ => AllObj.gen fun its e => h ((w.1, o) :: its) (by simp [e])
/-- a loop, turn by turn -/
theorem for_core {K : Kx} {n : Nat} {c : Cl} {cs : Scope} {nm : Nms} {target : Expr} {body : List Stmt} {t : Ti} {B : Wd} {s : Shared} {PX : List Addr → R → Prop} {kf : List V → St → R} {φ₁ : List Addr} {m₁ : List V} {σ₁ : St} {led₁ : List (Addr × Obj)} {mm₁ : Str → Option Value} {xs : List Itm} {ys : List V} {ws : List (Addr × String)} {keep : List (Addr × Obj)} {Q : Flow → Shared → Prop} {E : Value → Shared → Prop}
    (X : Px PX) (hB : BdyS w mean mg mb zs (.fn cs nm) body B) (hc : CallOk w mean mg mb zs c n) (G : K.Good w mean mg mb n) (hev : K.ev = K.en) (hlen : xs.length = ys.length) (hkeep : ∀ φ σ led, K.Led zs φ σ led → SubL keep (K.xl ++ led)) (hws : ∀ u ∈ ws, u.1 ∉ φ₁ ∧ ∀ p ∈ K.xl, p.1 ≠ u.1)
    (hT : ∀ i a y, xs[i]? = some a → ys[i]? = some y → ∀ (K2 : Kx) m φ' σ' (s' : Shared) rv Q' E', a.Is rv s'.heap → φ₁ <+: φ' → K2.Good w mean mg mb n → K2.Ok (.fn cs nm) m φ' → K2.Sta zs φ' σ' s'.heap → PostS zs (.fn cs nm) K2 φ' s' Q' E' (t i y m σ') → wpAny (Mdl w) K2.A (assign target K2.ev rv) (fun _ => Q' .next) E' s')
    (O : (K.wm mm₁).Ok (.fn cs nm) m₁ φ₁) (Ld : K.Led zs φ₁ σ₁ led₁) (P : PX φ₁ (forL t B c kf ys 0 m₁ σ₁))
    (hF : ∀ m' φ' σ' led' h' tk' mm', φ₁ <+: φ' → (K.wm mm').Ok (.fn cs nm) m' φ' → K.Led zs φ' σ' led' → Fr K.g K.L h' mm' → News K.g K.L h' (K.xl ++ led') → PX φ' (kf m' σ') → Q .next { s with heap := h', toks := tk' }) :
    ItemsRest PySem.Challenge.rw_xm0013_01.row.prog w K.A E K.g K.en target body Q s ws keep xs mm₁ (K.xl ++ led₁) := by
  refine items_ind0 (fun i mm news => ∃ φ' σ' led m, φ₁ <+: φ' ∧ news = K.xl ++ led ∧ K.Led zs φ' σ' led ∧ (K.wm mm).Ok (.fn cs nm) m φ' ∧ (∀ u ∈ ws, u.1 ∉ φ') ∧ PX φ' (forL t B c kf (ys.drop i) i m σ')) ⟨φ₁, σ₁, led₁, m₁, List.prefix_refl _, rfl, Ld, O, fun u hu => (hws u hu).1, P⟩ ?_ ?_
  · rintro i a mm _ ha ⟨φ', σ', led, m, p, rfl, Ld', O', hw', P'⟩ v h tk hv F
    refine AllObj.gen fun its hits N => ?_
    obtain ⟨y, hy⟩ : ∃ y, ys[i]? = some y := ⟨_, List.getElem?_eq_getElem (by have := (List.getElem?_eq_some_iff.mp ha).1; omega)⟩
    have hd : ys.drop i = y :: ys.drop (i + 1) := by
      obtain ⟨h1, h2⟩ := List.getElem?_eq_some_iff.mp hy
      rw [List.drop_eq_getElem_cons h1, h2]
    rw [hd] at P'
    replace P' : PX φ' (Mine.bndsN (t i y m σ') fun m s => Mine.bndsN (B c m s) fun m s => forL t B c kf (ys.drop (i + 1)) (i + 1) m s) := P'
    let K2 : Kx := { K.wm mm with xl := its ++ K.xl }
    have hmem : ∀ q ∈ its, ∃ u ∈ ws, u.1 = q.1 := fun q hq => by
      have : q.1 ∈ ws.map (·.1) := hits ▸ List.mem_map_of_mem hq
      obtain ⟨u, hu, e⟩ := List.mem_map.mp this
      exact ⟨u, hu, e⟩
    have Ld2 : K2.Led zs φ' σ' led := Kx.Led.to (K := K) (K' := K2) Ld' (fun q hq => by
      rcases List.mem_append.mp hq with hq | hq
      · obtain ⟨u, hu, e⟩ := hmem q hq
        exact e ▸ hw' u hu
      · exact Ld'.xl q hq) rfl
    have G2 : K2.Good w mean mg mb n := ⟨G.B, G.X, G.T, G.k, G.d, G.u⟩
    have hQ := hT i a y ha hy K2 m φ' σ' { s with heap := h, toks := tk } v
      (fun f s₂ => wpAny (Mdl w) K.A (execs body K.en) (UnrPostW K.g K.L { s with heap := h, toks := tk } its (fun m' n' => SubL keep n' ∧ ∃ φ' σ' led m, φ₁ <+: φ' ∧ n' = K.xl ++ led ∧ K.Led zs φ' σ' led ∧ (K.wm m').Ok (.fn cs nm) m φ' ∧ (∀ u ∈ ws, u.1 ∉ φ') ∧ PX φ' (forL t B c kf (ys.drop (i + 1)) (i + 1) m σ')) Q) E s₂) E hv p G2 O' ⟨F, led, Ld2, by rw [List.append_assoc]; exact N⟩ (X.bndsN P' ?_)
    · have e2 : K2.ev = K.en := hev
      rw [e2] at hQ
      exact hQ
    intro m2 σ2 φ2 h2 tk2 mm2 p2 O2 S2 P2
    have hbody := hB n c hc (K2.wm mm2) m2 φ2 σ2 { s with heap := h2, toks := tk2 } (UnrPostW K.g K.L { s with heap := h, toks := tk } its (fun m' n' => SubL keep n' ∧ ∃ φ' σ' led m, φ₁ <+: φ' ∧ n' = K.xl ++ led ∧ K.Led zs φ' σ' led ∧ (K.wm m').Ok (.fn cs nm) m φ' ∧ (∀ u ∈ ws, u.1 ∉ φ') ∧ PX φ' (forL t B c kf (ys.drop (i + 1)) (i + 1) m σ')) Q) E (G2.later mm2) O2 S2 (X.bndsN P2 ?_)
    · have e2 : (K2.wm mm2).ev = K.en := hev
      rw [e2] at hbody
      exact hbody
    intro m3 σ3 φ3 h3 tk3 mm3 p3 O3 S3 P3
    obtain ⟨F3, led3, Ld3, N3⟩ := S3
    have Ld4 : K.Led zs φ3 σ3 led3 := Kx.Led.to (K' := K) Ld3 (fun q hq => Ld3.xl q (List.mem_append_right _ hq)) rfl
    refine ⟨h3, tk3, mm3, K.xl ++ led3, rfl, F3, by rw [← List.append_assoc]; exact N3, fun q hq q' hq' e => ?_, hkeep _ _ _ Ld4, φ3, σ3, led3, m3, (p.trans p2).trans p3, rfl, Ld4, O3, fun u hu hm => ?_, P3⟩
    · rcases List.mem_append.mp hq with hq | hq
      · obtain ⟨u, hu, e'⟩ := hmem q' hq'
        exact (hws u hu).2 q hq (e.trans e'.symm)
      · exact Ld3.xl q' (List.mem_append_left _ hq') (e ▸ (by rw [← Ld4.ad]; exact List.mem_map_of_mem hq))
    · have : u.1 ∈ its.map (·.1) := hits ▸ List.mem_map_of_mem hu
      obtain ⟨q', hq', e'⟩ := List.mem_map.mp this
      exact Ld3.xl q' (List.mem_append_left _ hq') (e' ▸ hm)
  · rintro mm _ ⟨φ', σ', led, m, p, rfl, Ld', O', _, P'⟩ h tk F N
    rw [hlen, List.drop_length] at P'
    exact hF m φ' σ' led h tk mm p O' Ld' F N P'
theorem post_nx2 {κ : Kp} {K : Kx} {φ : List Addr} {s : Shared} {Q : Flow → Shared → Prop} {E : Value → Shared → Prop} : ∀ {r : R}, PostS zs κ K φ s Q E r → PostS zs κ K φ s Q E (bnds r fun m s => .nx m s)
  | .nx _ _, P => P
  | .rt _ _, P => P
  | .ec _, P => P
  | .ch _ _, P => fun i hi => post_nx2 (P i hi)
  | .v _ _, P => P
  | .bad, P => P
theorem post_nx {κ : Kp} {K : Kx} {φ : List Addr} {s : Shared} {Q : Flow → Shared → Prop} {E : Value → Shared → Prop} {k : List V → St → R} : ∀ {r : R}, PostS zs κ K φ s Q E (bnds r k) → PostS zs κ K φ s Q E (bnds r fun m s => bnds (k m s) fun m s => .nx m s)
  | .nx _ _, P => post_nx2 P
  | .rt _ _, P => P
  | .ec _, P => P
  | .ch _ _, P => fun i hi => post_nx (P i hi)
  | .v _ _, P => P
  | .bad, P => P
theorem low_of {K : Kx} {φ : List Addr} {σ : St} {led : List (Addr × Obj)} {I : Addr} (Ld : K.Led zs φ σ led) (l1 : ∀ p ∈ K.xl ++ led, p.1 < I) {J : Addr} (h : I ≤ J) : J ∉ φ ∧ ∀ p ∈ K.xl, p.1 ≠ J := by
  refine ⟨fun hm => ?_, fun p hp => Nat.ne_of_lt (Nat.lt_of_lt_of_le (l1 p (List.mem_append_left _ hp)) h)⟩
  rw [← Ld.ad] at hm
  obtain ⟨p, hp, e⟩ := List.mem_map.mp hm
  exact absurd (Nat.lt_of_lt_of_le (l1 p (List.mem_append_right _ hp)) h) (by rw [e]; exact Nat.lt_irrefl _)
theorem ExcS.for {cs : Scope} {nm : Nms} {target iter : Expr} {body : List Stmt} {pos : Pos} {t : Tg} {A B : Wd} (hs : ∀ env x, foldedSetIterable iter env x = pure x) (hT : AsgS w mean mg mb zs (.fn cs nm) target t) (hA : ExpS w mean mg mb zs (.fn cs nm) iter A) (hB : BdyS w mean mg mb zs (.fn cs nm) body B) : ExcS w mean mg mb zs (.fn cs nm) (.For target iter body [] pos) (forW t A B) := by
  intro n c hc K m φ σ s Q E G O S P
  refine wpAny_noRaise ?_
  have hev := O.2.1
  refine Eq.mpr (congrArg (fun z => wpAny (Mdl w) K.A (exec (.For target iter body [] pos) z) Q (fun _ _ => False) s) hev) ?_
  refine For_turns S.1 ?_ (hs _) PassesOwn.never
  refine Eq.mp (congrArg (fun z => wpAny (Mdl w) K.A (eval iter z) _ _ s) hev) ?_
  refine hA n c hc K m φ σ s _ _ G O S ((Px.s (zs := zs) (κ := .fn cs nm) (K := K) (s := s) (Q := Q) (E := E)).bndN P ?_)
  intro x σ₁ φ₁ h₁ tk₁ rv p₁ S₁ r₁ P
  obtain ⟨nx, t', pn⟩ := σ₁
  replace P := PS.list P; obtain ⟨k, l, rfl, hl, P⟩ := P
  obtain ⟨ax, hax, rfl⟩ := r₁
  obtain ⟨F, led, Ld, N⟩ := S₁
  obtain ⟨vs, u, k1, k2, k3, k4⟩ := Ld.list hl hax
  refine iter_listTurns (s := { s with heap := h₁, toks := tk₁ }) rfl F N (List.mem_append_right _ k1) rfl rfl fun I l1 => ?_
  refine for_core (K := { K with pn := (k, ax, W.listOf (List.toArray vs) u) :: K.pn }) (s := { s with heap := h₁, toks := tk₁ }) (ys := l) (t := fun _ => t) (m₁ := m) (mm₁ := K.mm)
    (Px.s (zs := zs) (κ := .fn cs nm) (K := K) (s := s) (Q := Q) (E := E)) hB hc ⟨G.B, G.X, G.T, G.k, G.d, G.u⟩ hev (by simp [k2.len]) (fun φ' σ' led' Ld' => ⟨List.mem_append_right _ (List.mem_of_getElem? (unp_led Ld').1), trivial⟩)
    (fun q hq => by rw [List.mem_singleton.mp hq]; exact low_of Ld l1 (Nat.le_refl _))
    (fun i a y ha hy K2 m2 φ' σ' s' rv Q' E' hv p' G2 O2 S2 P2 => ?_) (O.mono p₁) (pin_led Ld k4) P (fun m' φ' σ' led' h' tk' mm' p' O' Ld' F' N' P' => ?_)
  · rw [List.getElem?_map] at ha
    obtain ⟨v', hv', rfl⟩ := Option.map_eq_some_iff.mp ha
    obtain ⟨v2, h1, h2⟩ := k2.get hy
    rw [hv'] at h1; cases h1
    obtain rfl : rv = v' := hv
    exact hT n K2 G2 m2 φ' σ' s' y rv Q' E' O2 S2 (h2.mono p') P2
  · obtain ⟨_, t2, rfl, Ld2⟩ := unp_led Ld'
    exact P' φ' h' tk' mm' (List.prefix_refl _) O' ⟨F', led', ⟨Ld2.ad, Ld2.nd, Ld2.xl, Ld2.pn, Ld2.ob⟩, N'⟩
theorem ExcS.enum {cs : Scope} {nm : Nms} {x : Str} {e1 e2 iter : Expr} {body : List Stmt} {kk : Nat} {tp xp cp pos : Pos} {t u : Tg} {A B : Wd} (hx : NamS w mean mg mb zs (.fn cs nm) x (.type "enumerate")) (he : ∀ rest env, starEach (iter :: rest) env = (false, eval iter env) :: starEach rest env) (hs : ∀ env y, foldedSetIterable (.Call (.Name x xp) [iter] [] cp) env y = pure y)
    (hT : TgtS w mean mg mb zs (.fn cs nm) [e1, e2] [t, u]) (hA : ExpS w mean mg mb zs (.fn cs nm) iter A) (hB : BdyS w mean mg mb zs (.fn cs nm) body B) : ExcS w mean mg mb zs (.fn cs nm) (.For (.Tuple [e1, e2] kk tp) (.Call (.Name x xp) [iter] [] cp) body [] pos) (enuW t u A B) := by
  intro n c hc K m φ σ s Q E G O S P
  refine wpAny_noRaise ?_
  have hev := O.2.1
  refine Eq.mpr (congrArg (fun z => wpAny (Mdl w) K.A (exec (.For (.Tuple [e1, e2] kk tp) (.Call (.Name x xp) [iter] [] cp) body [] pos) z) Q (fun _ _ => False) s) hev) ?_
  refine For_turns S.1 ?_ (hs _) PassesOwn.never
  refine Eq.mp (congrArg (fun z => wpAny (Mdl w) K.A (eval (.Call (.Name x xp) [iter] [] cp) z) _ _ s) hev) ?_
  refine Call_ (hx n K m φ σ s _ _ xp G O S ?_)
  refine Pv.callWith_type1 (args_cons (hA n c hc K m φ σ s _ _ G O S ((Px.s (zs := zs) (κ := .fn cs nm) (K := K) (s := s) (Q := Q) (E := E)).bndN P ?_)) (he _ _)) (he _ _) rfl
  intro x σ₁ φ₁ h₁ tk₁ rv p₁ S₁ r₁ P
  refine args_nil ?_
  obtain ⟨nx, t', pn⟩ := σ₁
  replace P := PS.list P; obtain ⟨k, l, rfl, hl, P⟩ := P
  obtain ⟨ax, hax, rfl⟩ := r₁
  obtain ⟨F, led, Ld, N⟩ := S₁
  obtain ⟨vs, v, k1, k2, k3, k4⟩ := Ld.list hl hax
  refine ktu_enum (s := { s with heap := h₁, toks := tk₁ }) rfl F N (List.mem_append_right _ k1) rfl rfl rfl fun I l1 => ?_
  refine for_core (K := { K with pn := (k, ax, W.listOf (List.toArray vs) v) :: K.pn }) (s := { s with heap := h₁, toks := tk₁ }) (ys := l) (t := fun i => fun x m s => bnds (t (.n i) m s) fun m s => u x m s) (m₁ := m) (mm₁ := K.mm)
    (Px.s (zs := zs) (κ := .fn cs nm) (K := K) (s := s) (Q := Q) (E := E)) hB hc ⟨G.B, G.X, G.T, G.k, G.d, G.u⟩ hev (by rw [enumItems_length, k2.len]) (fun φ' σ' led' Ld' => ⟨List.mem_append_right _ (List.mem_of_getElem? (unp_led Ld').1), trivial⟩)
    (fun q hq => by
      rcases List.mem_cons.mp hq with rfl | hq
      · exact low_of Ld l1 (Nat.le_succ _)
      · rw [List.mem_singleton.mp hq]; exact low_of Ld l1 (Nat.le_refl _))
    (fun i a y ha hy K2 m2 φ' σ' s' rv Q' E' hv p' G2 O2 S2 P2 => ?_) (O.mono p₁) (pin_led Ld k4) P (fun m' φ' σ' led' h' tk' mm' p' O' Ld' F' N' P' => ?_)
  · obtain ⟨v2, h1, h2⟩ := k2.get hy
    have hg := enumItems_get vs 0 i h1
    rw [ha] at hg
    obtain rfl : a = .pair (fun t => .int ((0 + i : Nat) : Int) t) v2 := Option.some.inj hg
    obtain ⟨Tt, tk, rfl, hTt⟩ := hv
    obtain ⟨F2, led2, Ld2, N2⟩ := S2
    obtain ⟨q1, q2⟩ := hT.len K2.ev
    refine unpackN_ F2 N2 hTt rfl (by rw [q1]; rfl) q2 fun h' F' N' => ?_
    exact hT.run G2 O2 ⟨F', led2, Ld2, N'⟩ (.cons (x := .n i) ⟨tk, by rw [Nat.zero_add]⟩ (.cons (h2.mono p') .nil)) (PostS.later (h := h') (tk := s'.toks) (List.prefix_refl _) (by
      show PostS zs (.fn cs nm) K2 φ' s' Q' E' (Mine.bnds (t (.n i) m2 σ') fun m s => Mine.bnds (u y m s) fun m s => .nx m s)
      exact post_nx P2))
  · obtain ⟨_, t2, rfl, Ld2⟩ := unp_led Ld'
    exact P' φ' h' tk' mm' (List.prefix_refl _) O' ⟨F', led', ⟨Ld2.ad, Ld2.nd, Ld2.xl, Ld2.pn, Ld2.ob⟩, N'⟩
end
end
section
section
variable {w : World} {mean : ExcName → Option Value} {mg mb : Str → Option Value} {zs : List Int}
theorem rng_core {K : Kx} {n : Nat} {c : Cl} {cs : Scope} {nm : Nms} {x : Str} {ix : Nat} {body : List Stmt} {B : Wd} {s : Shared} {PX : List Addr → R → Prop} {kf : List V → St → R} {φ₁ : List Addr} {I : Addr} {a nn : Nat} {Q : Flow → Shared → Prop} {E : Value → Shared → Prop}
    (X : Px PX) (hB : BdyS w mean mg mb zs (.fn cs nm) body B) (hc : CallOk w mean mg mb zs c n) (G : K.Good w mean mg mb n) (hev : K.ev = K.en) (hu : nmU nm x ix = true) (hy : nm.lookup x = some (false, ix)) (hI : ∀ p ∈ K.xl, p.1 ≠ I)
    (hF : ∀ m' φ' σ' led' h' tk' mm', φ₁ <+: φ' → (K.wm mm').Ok (.fn cs nm) m' φ' → K.Led zs φ' σ' led' → Fr K.g K.L h' mm' → News K.g K.L h' (K.xl ++ led') → PX φ' (kf m' σ') → Q .next { s with heap := h', toks := tk' }) :
    ∀ (k i : Nat) (mm : Str → Option Value) m φ' σ' led', φ₁ <+: φ' → (K.wm mm).Ok (.fn cs nm) m φ' → K.Led zs φ' σ' led' → I ∉ φ' → PX φ' (forL (fun _ x m s => .nx (setL m ix x) s) B c kf (rngV k (a + i)) i m σ') →
      RangeRest PySem.Challenge.rw_xm0013_01.row.prog w K.A E K.g K.en x body Q s I (a : Int) nn k i mm (K.xl ++ led')
  | 0, i, mm, m, φ', σ', led', p, O, Ld, hIφ, P => RangeRest.zero fun h tk F N => hF m φ' σ' led' h tk mm p O Ld F N P
  | k + 1, i, mm, m, φ', σ', led', p, O, Ld, hIφ, P => by
    refine RangeRest.succ fun t h tk F N => ?_
    replace P : PX φ' (Mine.bndsN (B c (setL m ix (.n (a + i))) σ') fun m s => forL (fun _ x m s => .nx (setL m ix x) s) B c kf (rngV k (a + (i + 1))) (i + 1) m s) := P
    obtain ⟨e1, e2, Nm⟩ := O
    let K2 : Kx := { K.wm (fun y => if y = x then some (.int ((a : Int) + (i : Int)) t) else mm y) with xl := (I, itR ((a : Int) + ((i + 1 : Nat) : Int)) ((nn : Int) - ((i + 1 : Nat) : Int))) :: K.xl }
    have Ld2 : K2.Led zs φ' σ' led' := Kx.Led.to (K := K) (K' := K2) Ld (fun q hq => by
      rcases List.mem_cons.mp hq with rfl | hq
      · exact hIφ
      · exact Ld.xl q hq) rfl
    have hbody := hB n c hc K2 (setL m ix (.n (a + i))) φ' σ' { s with heap := h, toks := tk } (UnrPost K.g K.L { s with heap := h, toks := tk } I (itR ((a : Int) + ((i + 1 : Nat) : Int)) ((nn : Int) - ((i + 1 : Nat) : Int))) (RangeRest PySem.Challenge.rw_xm0013_01.row.prog w K.A E K.g K.en x body Q s I (a : Int) nn k (i + 1)) Q) E ⟨G.B, G.X, G.T, G.k, G.d, G.u⟩
      ⟨e1, e2, nm_set hu hy Nm ⟨t, by rw [Int.natCast_add]⟩⟩ ⟨F, led', Ld2, N⟩ (X.bndsN P ?_)
    · have e3 : K2.ev = K.en := hev
      rw [e3] at hbody
      exact hbody
    intro m3 σ3 φ3 h3 tk3 mm3 p3 O3 S3 P3
    obtain ⟨F3, led3, Ld3, N3⟩ := S3
    have Ld4 : K.Led zs φ3 σ3 led3 := Kx.Led.to (K' := K) Ld3 (fun q hq => Ld3.xl q (.tail _ hq)) rfl
    have hI3 : I ∉ φ3 := Ld3.xl (I, itR ((a : Int) + ((i + 1 : Nat) : Int)) ((nn : Int) - ((i + 1 : Nat) : Int))) (.head _)
    refine ⟨h3, tk3, mm3, K.xl ++ led3, rfl, F3, N3, fun q hq e => ?_, rng_core X hB hc G hev hu hy hI hF k (i + 1) mm3 m3 φ3 σ3 led3 (p.trans p3) O3 Ld4 hI3 P3⟩
    rcases List.mem_append.mp hq with hq | hq
    · exact hI q hq e
    · exact hI3 (e ▸ (by rw [← Ld4.ad]; exact List.mem_map_of_mem hq))
theorem ExcS.frng {cs : Scope} {nm : Nms} {x : Str} {px pos : Pos} {ix : Nat} {iter : Expr} {body : List Stmt} {H : Rg} {B : Wd} (hs : ∀ env x, foldedSetIterable iter env x = pure x) (hu : nmU nm x ix = true) (hy : nm.lookup x = some (false, ix)) (hyk : ∀ cn L a ccd cl, (envX cn cs L a ccd cl).kindOf x = some .local) (hp : cs.kind = .function)
    (hH : RngS w mean mg mb zs (.fn cs nm) iter H) (hB : BdyS w mean mg mb zs (.fn cs nm) body B) : ExcS w mean mg mb zs (.fn cs nm) (.For (.Name x px) iter body [] pos) (frgW ix H B) := by
  intro n c hc K m φ σ s Q E G O S P
  refine wpAny_noRaise ?_
  have hev := O.2.1
  have e1 := O.1
  refine Eq.mpr (congrArg (fun z => wpAny (Mdl w) K.A (exec (.For (.Name x px) iter body [] pos) z) Q (fun _ _ => False) s) hev) ?_
  refine For_invVF S.1 (by subst e1; exact hyk ..) (by show (K.cs.kind == .class || (K.cs.kind == .module && _)) = false; rw [e1, hp]; rfl) ?_ (hs _) PassesOwn.never
  refine Eq.mp (congrArg (fun z => wpAny (Mdl w) K.A (eval iter z) _ _ s) hev) ?_
  refine hH n c hc K m φ σ s _ _ _ _ (Px.s (zs := zs) (κ := .fn cs nm) (K := K) (s := s) (Q := Q) (E := E)) G O S P ?_
  intro a b σ₁ φ₁ h₁ tk₁ r t u v p₁ O₁ S₁ hr ha hb P₁
  obtain ⟨F, led, Ld, N⟩ := S₁
  have hn : Builtin.Range.rangeSize (a : Int) (b : Int) 1 = ((b - a : Nat) : Int) := by rw [rangeSize_nat]; omega
  refine iter_rangeUnr (s := { s with heap := h₁, toks := tk₁ }) rfl hr (small_one (by omega) (by omega) (by omega) (by omega)) hn F N fun I l1 => ?_
  obtain ⟨hI1, hI2⟩ := low_of Ld l1 (Nat.le_refl _)
  exact rng_core (s := { s with heap := h₁, toks := tk₁ }) (φ₁ := φ₁) (kf := fun m s => .nx m s) (Px.s (zs := zs) (κ := .fn cs nm) (K := K) (s := s) (Q := Q) (E := E)) hB hc G hev hu hy hI2
    (fun m' φ' σ' led' h' tk' mm' p' O' Ld' F' N' P' => P' φ' h' tk' mm' (List.prefix_refl _) O' ⟨F', led', ⟨Ld'.ad, Ld'.nd, Ld'.xl, Ld'.pn, Ld'.ob⟩, N'⟩)
    (b - a) 0 K.mm m φ₁ σ₁ led (List.prefix_refl _) O₁ Ld hI1 P₁
theorem whl_core {κ : Kp} {K : Kx} {n : Nat} {c : Cl} {test : Expr} {body : List Stmt} {T B : Wd} {s : Shared} {PX : List Addr → R → Prop} {Q : Flow → Shared → Prop} (X : Px PX) (hT : TstS w mean mg mb zs κ test T) (hB : BdyS w mean mg mb zs κ body B) (hc : CallOk w mean mg mb zs c n) (G : K.Good w mean mg mb n)
    (hF : ∀ m' φ' σ' h' tk' mm', (K.wm mm').Ok κ m' φ' → (K.wm mm').Sta zs φ' σ' h' → PX φ' (.nx m' σ') → Q .next { s with heap := h', toks := tk' }) :
    ∀ (N : Nat) (mm : Str → Option Value) m φ' σ' h tk, (K.wm mm).Ok κ m φ' → (K.wm mm).Sta zs φ' σ' h → PX φ' (whlW N T B c m σ') → WhlRest PySem.Challenge.rw_xm0013_01.row.prog w K.A (fun _ _ => False) K.ev test body [] Q N { s with heap := h, toks := tk }
  | 0, mm, m, φ', σ', h, tk, O, S, P => (X.nb _ P).elim
  | N + 1, mm, m, φ', σ', h, tk, O, S, P => by
    refine whl_turn PassesOwn.never ?_
    replace P : PX φ' (Mine.bndN (T c m σ') fun x s => isB x fun b => ifB b (Mine.bndsN (B c m s) fun m s => whlW N T B c m s) (.nx m s)) := P
    refine hT n c hc (K.wm mm) m φ' σ' { s with heap := h, toks := tk } _ _ (G.later mm) O S (X.bndN P ?_)
    intro x σ2 φ2 h2 tk2 rv p2 S2 r2 P2
    obtain ⟨b, rfl, P2⟩ := isB_bad (P := PX φ2) (X.nb _) P2
    cases r2
    cases b with
    | false => exact WhlIf.no rfl (wpAny_execs_nil (hF m φ2 σ2 h2 tk2 mm (O.mono p2) S2 P2))
    | true =>
      refine WhlIf.yes rfl (hB n c hc (K.wm mm) m φ2 σ2 { s with heap := h2, toks := tk2 } _ _ (G.later mm) (O.mono p2) S2 (X.bndsN P2 ?_))
      intro m3 σ3 φ3 h3 tk3 mm3 p3 O3 S3 P3
      exact whl_core X hT hB hc G hF N mm3 m3 φ3 σ3 h3 tk3 O3 S3 P3
theorem ExcS.while {κ : Kp} {test : Expr} {body : List Stmt} {pos : Pos} {T B : Wd} (N : Nat) (hT : TstS w mean mg mb zs κ test T) (hB : BdyS w mean mg mb zs κ body B) : ExcS w mean mg mb zs κ (.While test body [] pos) (whlW N T B) := by
  intro n c hc K m φ σ s Q E G O S P
  refine wpAny_noRaise (whl_start N ?_)
  exact whl_core (s := s) (Px.s (zs := zs) (κ := κ) (K := K) (s := s) (Q := Q) (E := E)) hT hB hc G (fun m' φ' σ' h' tk' mm' O' S' P' => P' φ' h' tk' mm' (List.prefix_refl _) O' S') N K.mm m φ σ s.heap s.toks O S P
end
end
section
theorem FlyB.sub {B : Heap} {l : List Env} {e dx : Addr} {od : Obj} {as : List Addr} {led led' : List (Addr × Obj)} {h h' : Heap} (Y : FlyB B l e dx od as led h h') (s : ∀ p ∈ led', p ∈ led) : FlyB B l e dx od as led' h h' :=
  ⟨Y.fly, Y.dict, Y.bd, fun q hq => Y.ledB q (s q hq), fun a ha => Y.new a (ha.imp id fun ha => ha.imp id fun ⟨q, hq, e⟩ => ⟨q, s q hq, e⟩), Y.keep, Y.up⟩
noncomputable section
noncomputable def fin (r : R) : R := R.rec (motive := fun _ => R) (fun _ _ => .bad) (fun _ s => .v .o s) (fun x s => .v x s) (fun s => .ec s) (fun n _ ih => .ch n ih) .bad r
noncomputable def fnW (W : Wd) (k : Nat) (pad : List V) : Cl → List V → St → R := fun c args s => ifB (Nat.beq (lnL args) k) (fin (W c (apl args pad) s)) .bad
/-- the one parameter is a cell -/
noncomputable def fnP (W : Wd) (pad : List V) : Cl → List V → St → R := fun c args s => on1 args fun x => notU x (bnd (newS s (.cel x)) fun r s => fin (W c (r :: pad) s))
/-- a cell that is no parameter, behind the parameters -/
noncomputable def fnN (W : Wd) (k : Nat) (pad : List V) : Cl → List V → St → R := fun c args s => ifB (Nat.beq (lnL args) k) (bnd (newS s (.cel .u)) fun r s => fin (W c (apl args (r :: pad)) s)) .bad
end
section
variable {w : World} {mean : ExcName → Option Value} {mg mb : Str → Option Value} {zs : List Int}
noncomputable def FnOk (w : World) (mean : ExcName → Option Value) (mg mb : Str → Option Value) (zs : List Int) (n : Nat) (f : Addr) (g : List V → St → R) : Prop := ∀ args σ (K : Kx) φ vs s Q E, K.Good w mean mg mb n → K.Sta zs φ σ s.heap → RVs φ args vs → PostV zs K φ s Q E (g args σ) → wpAny (Mdl w) K.A (call (.ref f) vs) Q E s
theorem lk_mem {β : Type} : ∀ {l : List (Str × β)} {x : Str} {v : β}, (l.map (·.1)).Nodup → (x, v) ∈ l → l.lookup x = some v
  | [], _, _, _, h => nomatch h
  | (y, q) :: l, x, v, hn, h => by
    rw [List.map_cons, List.nodup_cons] at hn
    rcases List.mem_cons.mp h with e | h
    · cases e; simp
    · have : x ≠ y := fun e => hn.1 (List.mem_map.mpr ⟨_, h, e⟩)
      rw [List.lookup_cons, show (x == y) = false from beq_eq_false_iff_ne.mpr this]
      exact lk_mem hn.2 h
theorem lookup_zip {x : Str} {v : Value} {ps : List Str} {vs : List Value} {i : Nat} (hn : ps.Nodup) (hl : vs.length = ps.length) (h1 : ps[i]? = some x) (h2 : vs[i]? = some v) : (ps.zip vs).reverse.lookup x = some v := by
  refine lk_mem ?_ (List.mem_reverse.mpr (List.mem_of_getElem? (i := i) ?_))
  · rw [List.map_reverse, List.map_fst_zip (by omega)]
    exact List.pairwise_reverse.mpr (hn.imp Ne.symm)
  · rw [List.getElem?_zip_eq_some]
    exact ⟨h1, h2⟩
/-- the parameters' places -/
noncomputable def nmE (nm : Nms) (ps : List Str) : Bool := nm.all fun p => if p.2.2 < ps.length then !p.2.1 && ps[p.2.2]? == some p.1 else true
theorem nm_entry {nm : Nms} {ps : List Str} {args pad : List V} {vs : List Value} {φ : List Addr} {clf : Str → Option Addr} (h : nmE nm ps = true) (hn : ps.Nodup) (hl : vs.length = ps.length) (r : RVs φ args vs)
    (hp : ∀ x i v, pad[i]? = some v → nm.lookup x = some (true, ps.length + i) → ∀ k, v = .r k → ∃ c, φ[k]? = some c ∧ clf x = some c) (hp2 : ∀ x i v, pad[i]? = some v → nm.lookup x = some (false, ps.length + i) → v = .u) : NmOk nm (fun y => (ps.zip vs).reverse.lookup y) clf (args ++ pad) φ := by
  have hla : args.length = ps.length := by rw [← r.len, hl]
  intro x i v hv
  have key : ∀ b, nm.lookup x = some (b, i) → i < ps.length → b = false ∧ ps[i]? = some x := fun b hb hi => by
    have := List.all_eq_true.mp h _ (nm_mem hb)
    simp only [if_pos hi, Bool.and_eq_true, Bool.not_eq_true', beq_iff_eq] at this
    exact this
  by_cases hi : i < ps.length
  · rw [List.getElem?_append_left (by omega)] at hv
    obtain ⟨rv, h1, h2⟩ := r.get hv
    exact ⟨fun hz _ => ⟨rv, lookup_zip hn hl (key _ hz hi).2 h1, h2⟩, fun hz => by have := (key _ hz hi).1; cases this⟩
  · rw [List.getElem?_append_right (by omega)] at hv
    have e : ps.length + (i - args.length) = i := by omega
    exact ⟨fun hz hu => (hu (hp2 x (i - args.length) v hv (by rw [e]; exact hz))).elim, fun hz k hk => hp x (i - args.length) v hv (by rw [e]; exact hz) k hk⟩
theorem fin_post {κ : Kp} {K K' : Kx} {φ : List Addr} {s : Shared} {h₁ : Heap} {tk₀ : Nat} {Q E : Value → Shared → Prop} {Qf : Flow → Shared → Prop} {Ef : Value → Shared → Prop} (hxl : K'.xl = K.xl) (hpn : K'.pn = K.pn)
    (h1 : ∀ fl v led' h' tk' mm', (fl = .next ∧ v = .none) ∨ fl = .ret v → Fr K'.g K'.L h' mm' → News K'.g K'.L h' (K.xl ++ led') → (Fr K.g K.L h' K.mm → News K.g K.L h' (K.xl ++ led') → Q v { s with heap := h', toks := tk' }) → Qf fl { s with heap := h', toks := tk' })
    (h2 : ∀ e φ' σ' h' tk' mm', (K'.wm mm').Fly zs φ' σ' e h' ∨ (K'.wm mm').Rsd zs φ' σ' e h' → (∀ h'' tk'', K.Fly zs φ' σ' e h'' → E (.ref e) { s with heap := h'', toks := tk'' }) → Ef (.ref e) { s with heap := h', toks := tk' }) :
    ∀ {r : R}, PostV zs K φ s Q E (fin r) → PostS zs κ K' φ { s with heap := h₁, toks := tk₀ } Qf Ef r
  | .nx m' σ', P => fun φ' h' tk' mm' p _ S => by
    obtain ⟨F, led', Ld, N⟩ := S
    have Ld' : K.Led zs φ' σ' led' := ⟨Ld.ad, Ld.nd, hxl ▸ Ld.xl, hpn ▸ Ld.pn, hpn ▸ Ld.ob⟩
    exact h1 .next .none led' h' tk' mm' (.inl ⟨rfl, rfl⟩) F (hxl ▸ N) fun F2 N2 => P φ' h' tk' .none p ⟨F2, led', Ld', N2⟩ rfl
  | .rt x σ', P => fun φ' h' tk' mm' rv p S r => by
    obtain ⟨F, led', Ld, N⟩ := S
    have Ld' : K.Led zs φ' σ' led' := ⟨Ld.ad, Ld.nd, hxl ▸ Ld.xl, hpn ▸ Ld.pn, hpn ▸ Ld.ob⟩
    exact h1 (.ret rv) rv led' h' tk' mm' (.inr rfl) F (hxl ▸ N) fun F2 N2 => P φ' h' tk' rv p ⟨F2, led', Ld', N2⟩ r
  | .ec σ', P => fun φ' h' tk' e mm' p Y => h2 e φ' σ' h' tk' mm' Y fun h'' tk'' Y' => P φ' h'' tk'' e p Y'
  | .ch _ _, P => fun i hi => fin_post hxl hpn h1 h2 (P i hi)
  | .v _ _, P => P
  | .bad, P => P
/-- the body of a def, entered -/
theorem run_body {K : Kx} {n : Nat} {c : Cl} {scope : Scope} {nm : Nms} {body : List Stmt} {W : Wd} {qual : Str} {f : Addr} {cdv : Value} {cl : List (Str × Addr)} {g h₁ : Heap} {L' : Addr} {mm₀ : Str → Option Value} {tk₀ : Nat} {φ₁ : List Addr} {σ₁ : St} {m₁ : List V} {s : Shared} {Q E : Value → Shared → Prop} {led led₁ : List (Addr × Obj)} {R : Result → Shared → Prop}
    (hW : BdyS w mean mg mb zs (.fn scope nm) body W) (hc : CallOk w mean mg mb zs c n) (G : K.Good w mean mg mb (n + 1)) (hk : scope.kind = .function) (F : Fr K.g K.L s.heap K.mm) (N : News K.g K.L s.heap (K.xl ++ led)) (kb : KeepBut ((K.xl ++ led).map (·.1)) s.heap g) (B' : Below K.A K.base (K.en :: K.outer) g) (X' : (Mine.hd.heap_39 w.params).In g) (T' : Top Mine.hd.view_39 (looseW Mine.hd.view_39 [Str.ofString "BasicError"]) mean mg mb g)
    (F' : Fr g L' h₁ mm₀) (N' : News g L' h₁ (K.xl ++ led₁)) (Ld' : K.Led zs φ₁ σ₁ led₁) (O' : NmOk nm mm₀ (fun x => cl.lookup x) m₁ φ₁) (P : PostV zs K φ₁ s Q E (fin (W c m₁ σ₁))) (hR : ∀ v s', Q v s' → R (.ok (.ret v)) s') (hRe : ∀ e s', E e s' → R (.error e) s') :
    wpAny (Mdl w) (K.A.deeper (envX qual scope L' f cdv cl)) (execs body (envX qual scope L' f cdv cl)) (fun fl s' => LeaveK K.g K.L K.mm g R (match fl with | .ret v => v | _ => .none) s')
      (fun e s' => wpAny (Mdl w) (K.A.deeper (envX qual scope L' f cdv cl)) (leaving (envX qual scope L' f cdv cl) e) (fun _ s'' => R (.error e) s'') (fun e' s'' => R (.error e') s'') s') { s with heap := h₁, toks := tk₀ } := by
  let K' : Kx := { dp := K.dp + 1, un := K.un + 3, gd := K.gd, cn := qual, cs := scope, a := f, ccd := cdv, cl := cl, outer := K.en :: K.outer, A₀ := K.A, base := K.base, g := g, L := L', mm := mm₀, xl := K.xl, pn := K.pn, ev := envX qual scope L' f cdv cl }
  have G' : K'.Good w mean mg mb n := ⟨B', X', T', hk, by have := G.d; show K.dp + 1 + n + 8 < _; omega, by have := G.u; show K.un + 3 + 8 * n + 64 < _; omega⟩
  refine hW n c hc K' m₁ φ₁ σ₁ { s with heap := h₁, toks := tk₀ } _ _ G' ⟨rfl, rfl, O'⟩ ⟨F', led₁, ⟨Ld'.ad, Ld'.nd, Ld'.xl, Ld'.pn, Ld'.ob⟩, N'⟩ (fin_post (K := K) (K' := K') rfl rfl ?_ ?_ P)
  · intro fl v led' h' tk' mm' hfl F2 N2 k
    rcases hfl with ⟨rfl, rfl⟩ | rfl
    · exact leaveK_ F2 N2 fun F3 N3 => hR _ _ (k F3 N3)
    · exact leaveK_ F2 N2 fun F3 N3 => hR _ _ (k F3 N3)
  · intro e φ' σ' h' tk' mm' Y k
    rcases Y with ⟨h2, led2, Bx, dx, od, led', Y, F2, N2, Ld2, sh⟩ | ⟨dx, t, od, led', F2, Ld2, N2, ne1, ne2, sh⟩
    · refine fly_on (rest := []) rfl rfl B' F2 N2 (fun a ha => by obtain ⟨p, hp, e⟩ := List.mem_map.mp ha; exact ⟨p, hp, e⟩) (fun _ h => nomatch h) Y kb fun h'' Y' => hRe _ _ (k h'' tk' ⟨s.heap, led, Bx, dx, od, led', Y'.sub fun p hp => List.mem_append_left _ hp, F, N, ⟨Ld2.ad, Ld2.nd, Ld2.xl, Ld2.pn, Ld2.ob⟩, sh⟩)
    · refine fly_first rfl rfl (by rw [show (envX qual scope L' f cdv cl).scope.kind = scope.kind from rfl, hk]; exact fun q => by cases q) B' F2 N2 ne1 ne2 kb fun Bx h'' Y' => hRe _ _ (k h'' tk' ⟨s.heap, led, Bx, dx, od, led', Y', F, N, ⟨Ld2.ad, Ld2.nd, Ld2.xl, Ld2.pn, Ld2.ob⟩, sh⟩)
/-- all are unset -/
noncomputable def allU (l : List V) : Prop := ∀ (i : Nat) v, l[i]? = some v → v = .u
theorem allU_nil : allU [] := fun _ _ h => by simp at h
theorem allU_cons {l : List V} (h : allU l) : allU (.u :: l)
  | 0, _, e => (Option.some.inj e).symm
  | i + 1, v, e => h i v e
theorem FnOk.plain {f : Addr} {name qual : Str} {params : Arguments} {body : List Stmt} {scope : Scope} {dV kV doc pm cdv ct oc : Value} {an od : Option Addr} {osl : Array (Option Value)} {nm : Nms} {ps : List Str} {pad : List V} {W : Wd} {n : Nat} {c : Cl}
    (ho : (Mine.hd.heap_39 w.params).lookup f = some ⟨oc, od, .func (fnOf name qual params body scope dV kV doc pm an cdv ct), osl⟩) (hcd : codeIn (Mine.hd.heap_39 w.params) cdv qual = true) (hbind : ∀ vs : List Value, vs.length = ps.length → bindArgs (fnOf name qual params body scope dV kV doc pm an cdv ct) ⟨vs, []⟩ = pure (ps.zip vs)) (hps : ∀ x ∈ ps, scope.names.lookup x = some .local) (hnd : ps.Nodup) (hnm : nmE nm ps = true) (hpad : allU pad)
    (hco : scope.isCoroutine = false) (hgen : scope.isGenerator = false) (hk : scope.kind = .function) (hcell : ∀ x ∈ scope.names, x.2 ≠ .cell) (hW : BdyS w mean mg mb zs (.fn scope nm) body W) (hc : CallOk w mean mg mb zs c n) : FnOk w mean mg mb zs (n + 1) f (fnW W ps.length pad c) := by
  intro args σ K φ vs s Q E G S r P
  replace P := PV.if P; obtain ⟨hlen, P⟩ := P
  have hlen := Nat.eq_of_beq_eq_true hlen
  rw [lnL_eq] at hlen
  have hvl : vs.length = ps.length := by rw [r.len, hlen]
  obtain ⟨F, led, Ld, N⟩ := S
  refine wpAny_call (enter_def (binds := ps.zip vs) G.B F G.X N G.T rfl rfl G.k ho hcd (by have := G.d; show K.dp < _; omega) (BindsTo.of_eq (hbind vs hvl)) (fun y hy => hps _ (List.of_mem_zip hy).1) ?_ hco hgen hk hcell)
  intro g L' h₁ hL' kb lt' F' N' B' X' T'
  refine run_body (scope := scope) (nm := nm) (cl := []) hW hc G hk F N kb B' X' T' F' N' Ld ?_ P (fun _ _ h => h) (fun _ _ h => h)
  rw [apl_eq]
  exact nm_entry hnm hnd hvl r (fun x i v hv _ k hk' => by rw [hpad i v hv] at hk'; cases hk') (fun x i v hv _ => hpad i v hv)
theorem cell_new {K : Kx} {φ : List Addr} {σ : St} {led : List (Addr × Obj)} {s : Shared} {Q E : Value → Shared → Prop} {x : V} {k : V → St → R} {g h₁ : Heap} {L' D : Addr} {o : Obj} (Ld : K.Led zs φ σ led) (P : PostV zs K φ s Q E (bnd (newS σ (.cel x)) k)) (N : News g L' h₁ ((D, o) :: (K.xl ++ led))) (hD : ∀ p ∈ K.xl ++ led, p.1 ≠ D) (hr : RO zs (φ ++ [D]) (.cel x) (D, o)) :
    ∃ σ', PostV zs K (φ ++ [D]) s Q E (k (.r φ.length) σ') ∧ K.Led zs (φ ++ [D]) σ' (led ++ [(D, o)]) ∧ News g L' h₁ (K.xl ++ (led ++ [(D, o)])) ∧ (φ ++ [D])[φ.length]? = some D := by
  obtain ⟨nx, t, pn⟩ := σ
  have e : nx = φ.length := by obtain ⟨_, _, _, _, t', e, _⟩ := Ld; cases e; rfl
  subst e
  rw [newS_eq] at P
  refine ⟨_, PostV.later (h := s.heap) (tk := s.toks) ⟨_, rfl⟩ P, Ld.push hD hr, fun p hp => N p ?_, by simp⟩
  rcases List.mem_append.mp hp with hp | hp
  · exact .tail _ (List.mem_append_left _ hp)
  rcases List.mem_append.mp hp with hp | hp
  · exact .tail _ (List.mem_append_right _ hp)
  · rw [List.mem_singleton.mp hp]; exact .head _
theorem allLt_mem {n : Nat} : ∀ {l : List (Addr × Obj)}, AllLt n l → ∀ p ∈ l, p.1 < n
  | [], _, _, h => nomatch h
  | _ :: _, x, p, h => by
    rcases List.mem_cons.mp h with rfl | h
    · exact x.1
    · exact allLt_mem x.2 p h
theorem FnOk.cellP {f : Addr} {name qual : Str} {params : Arguments} {body : List Stmt} {scope : Scope} {dV kV doc pm cdv ct oc : Value} {an od : Option Addr} {osl : Array (Option Value)} {nm : Nms} {y : Str} {pad : List V} {W : Wd} {n : Nat} {c : Cl}
    (ho : (Mine.hd.heap_39 w.params).lookup f = some ⟨oc, od, .func (fnOf name qual params body scope dV kV doc pm an cdv ct), osl⟩) (hcd : codeIn (Mine.hd.heap_39 w.params) cdv qual = true) (hbind : ∀ v : Value, bindArgs (fnOf name qual params body scope dV kV doc pm an cdv ct) ⟨[v], []⟩ = pure [(y, v)]) (hy : ∀ L, (envOfC qual scope L f cdv).kindOf y = some .cell) (hy2 : scope.names.lookup y = some .cell) (hcs : ∀ L, cellsFrom L scope.names [] = [(y, L)])
    (hnm : nm.all (fun p => (p.2.2 == 0) == (p.1 == y) && p.2.1 == (p.1 == y)) = true) (hpad : allU pad) (hco : scope.isCoroutine = false) (hgen : scope.isGenerator = false) (hk : scope.kind = .function) (hW : BdyS w mean mg mb zs (.fn scope nm) body W) (hc : CallOk w mean mg mb zs c n) : FnOk w mean mg mb zs (n + 1) f (fnP W pad c) := by
  intro args σ K φ vs s Q E G S r P
  replace P := PV.on1 P; obtain ⟨x, rfl, P⟩ := P
  obtain ⟨hne, P⟩ := notU_bad PostV.nb P
  obtain ⟨_, rfl, rx⟩ := r.one
  rename Value => v
  obtain ⟨F, led, Ld, N⟩ := S
  refine wpAny_call (enter_defC (binds := [(y, v)]) G.B F G.X N G.T rfl rfl G.k ho hcd (by have := G.d; show K.dp < _; omega) (BindsTo.of_eq (hbind v)) (by simp [hy2]) (by rw [hcs]; simp) ?_ hco hgen hk)
  intro g L' h₁ tk cells hL' kb lt' F' N' Y B' X' T'
  rw [hcs] at Y
  obtain ⟨o, rfl, hd⟩ := Y.one
  have hd2 : o.data = .cell (some v) := by
    rw [hd]
    simp [bindC, hy]
  have hl := allLt_mem lt'
  obtain ⟨σ', P, Ld', N2, hφ⟩ := cell_new Ld P N' (fun p hp => Nat.ne_of_lt (Nat.lt_of_lt_of_le (hl p hp) (Nat.le_succ_of_le hL'))) (RO.celOf (rx.mono ⟨_, rfl⟩) hd2)
  have e : envOfC qual scope L' f cdv = envX qual scope L' f cdv [(y, L' + 1)] := by show envX qual scope L' f cdv (cellsFrom (L' + 1) scope.names []) = _; rw [hcs]
  rw [e]
  refine run_body (scope := scope) (nm := nm) (cl := [(y, L' + 1)]) hW hc G hk F N kb B' X' T' F' N2 Ld' ?_ P (fun _ _ h => h) (fun _ _ h => h)
  intro z i v' hv'
  have key : ∀ b, nm.lookup z = some (b, i) → (i = 0 ↔ z = y) ∧ (b = true ↔ z = y) := fun b hb => by
    have := List.all_eq_true.mp hnm _ (nm_mem hb)
    simp only [Bool.and_eq_true, beq_iff_eq] at this
    refine ⟨?_, ?_⟩
    · constructor
      · intro e; rw [e] at this; have := this.1; simp at this; exact this
      · intro e; rw [e] at this; have := this.1; simp at this; exact this
    · constructor
      · intro e; rw [e] at this; have := this.2; simp at this; exact this
      · intro e; rw [e] at this; have := this.2; simpa using this
  refine ⟨fun hz hu => ?_, fun hz k hk' => ?_⟩
  · have h2 := key _ hz
    rcases i with _ | i
    · have := h2.2.mpr (h2.1.mp rfl); cases this
    · exact (hu (hpad i v' hv')).elim
  · have h2 := key _ hz
    obtain rfl := h2.2.mp rfl
    obtain rfl := h2.1.mpr rfl
    cases hv'
    cases hk'
    exact ⟨L' + 1, hφ, by simp⟩
theorem FnOk.cellN {f : Addr} {name qual : Str} {params : Arguments} {body : List Stmt} {scope : Scope} {dV kV doc pm cdv ct oc : Value} {an od : Option Addr} {osl : Array (Option Value)} {nm : Nms} {ps : List Str} {y : Str} {pad : List V} {W : Wd} {n : Nat} {c : Cl}
    (ho : (Mine.hd.heap_39 w.params).lookup f = some ⟨oc, od, .func (fnOf name qual params body scope dV kV doc pm an cdv ct), osl⟩) (hcd : codeIn (Mine.hd.heap_39 w.params) cdv qual = true) (hbind : ∀ vs : List Value, vs.length = ps.length → bindArgs (fnOf name qual params body scope dV kV doc pm an cdv ct) ⟨vs, []⟩ = pure (ps.zip vs)) (hps : ∀ x ∈ ps, scope.names.lookup x = some .local) (hnd : ps.Nodup) (hnm : nmE nm ps = true) (hcs : ∀ L, cellsFrom L scope.names [] = [(y, L)])
    (hnm2 : nm.all (fun p => if ps.length ≤ p.2.2 then (p.2.2 == ps.length) == (p.1 == y) && p.2.1 == (p.1 == y) else true) = true) (hpad : allU pad) (hko : ∀ L, ps.map (envOfC qual scope L f cdv).kindOf = ps.map fun _ => some .local) (hyp : y ∉ ps) (hco : scope.isCoroutine = false) (hgen : scope.isGenerator = false) (hk : scope.kind = .function) (hW : BdyS w mean mg mb zs (.fn scope nm) body W) (hc : CallOk w mean mg mb zs c n) : FnOk w mean mg mb zs (n + 1) f (fnN W ps.length pad c) := by
  intro args σ K φ vs s Q E G S r P
  replace P := PV.if P; obtain ⟨hlen, P⟩ := P
  have hlen := Nat.eq_of_beq_eq_true hlen
  rw [lnL_eq] at hlen
  have hvl : vs.length = ps.length := by rw [r.len, hlen]
  obtain ⟨F, led, Ld, N⟩ := S
  refine wpAny_call (enter_defC (binds := ps.zip vs) G.B F G.X N G.T rfl rfl G.k ho hcd (by have := G.d; show K.dp < _; omega) (BindsTo.of_eq (hbind vs hvl)) ?_ (by rw [hcs]; simp) ?_ hco hgen hk)
  · rw [List.all_eq_true]
    intro p hp
    rw [hps _ (List.of_mem_zip hp).1]; rfl
  intro g L' h₁ tk cells hL' kb lt' F' N' Y B' X' T'
  have hall : ∀ (l : List (Str × Value)) (mm : Str → Option Value), (∀ p ∈ l, p.1 ∈ ps) → bindL (envOfC qual scope L' f cdv).kindOf l mm = (fun z => (l.reverse.lookup z).or (mm z)) ∧ bindC (envOfC qual scope L' f cdv).kindOf l mm = mm := by
    intro l
    induction l with
    | nil => exact fun mm _ => ⟨rfl, rfl⟩
    | cons p l ih =>
      obtain ⟨pa, pb⟩ := p
      intro mm hp
      have hk1 := List.map_inj_left.mp (hko L') _ (hp (pa, pb) (.head _))
      have ih1 := ih (fun z => if z = pa then some pb else mm z) fun q hq => hp q (.tail _ hq)
      have ih2 := ih mm fun q hq => hp q (.tail _ hq)
      refine ⟨?_, ?_⟩
      · show bindL _ l (if _ then _ else _) = _
        rw [if_pos hk1, ih1.1]
        funext z
        rw [List.reverse_cons, List.lookup_append, Option.or_assoc]
        congr 1
        by_cases e : z = pa
        · subst e; simp
        · simp [List.lookup_cons, show (z == pa) = false from beq_eq_false_iff_ne.mpr e, e]
      · show bindC _ l (if _ then _ else _) = _
        rw [if_pos hk1]
        exact ih2.2
  obtain ⟨hb1, hb2⟩ := hall (ps.zip vs) (fun _ => none) fun p hp => (List.of_mem_zip hp).1
  rw [hcs, hb2] at Y
  obtain ⟨o, rfl, hd⟩ := Y.one
  rw [hb1] at F'
  replace F' : Fr g L' h₁ (fun z => (ps.zip vs).reverse.lookup z) := by
    have e : (fun z => ((ps.zip vs).reverse.lookup z).or none) = fun z => (ps.zip vs).reverse.lookup z := by funext z; simp
    rw [e] at F'; exact F'
  have hl := allLt_mem lt'
  obtain ⟨σ', P, Ld', N2, hφ⟩ := cell_new (x := .u) Ld P N' (fun p hp => Nat.ne_of_lt (Nat.lt_of_lt_of_le (hl p hp) (Nat.le_succ_of_le hL'))) ⟨_, hd⟩
  have e : envOfC qual scope L' f cdv = envX qual scope L' f cdv [(y, L' + 1)] := by show envX qual scope L' f cdv (cellsFrom (L' + 1) scope.names []) = _; rw [hcs]
  rw [e]
  refine run_body (scope := scope) (nm := nm) (cl := [(y, L' + 1)]) hW hc G hk F N kb B' X' T' F' N2 Ld' ?_ P (fun _ _ h => h) (fun _ _ h => h)
  rw [apl_eq]
  have key : ∀ {z : Str} {i : Nat} {b : Bool}, nm.lookup z = some (b, ps.length + i) → (i = 0 ↔ z = y) ∧ (b = true ↔ z = y) := fun {z i b} hb => by
    have := List.all_eq_true.mp hnm2 _ (nm_mem hb)
    simp only [Nat.le_add_right, if_true, Bool.and_eq_true, beq_iff_eq] at this
    refine ⟨?_, ?_⟩
    · constructor
      · intro e; rw [e] at this; have := this.1; simp at this; exact this
      · intro e; rw [e] at this; have := this.1; simp at this; exact this
    · constructor
      · intro e; rw [e] at this; have := this.2; simp at this; exact this
      · intro e; rw [e] at this; have := this.2; simpa using this
  refine nm_entry hnm hnd hvl (r.mono ⟨_, rfl⟩) (fun z i v hv hz k hk' => ?_) (fun z i v hv hz => ?_)
  · have h2 := key hz
    obtain rfl := h2.2.mp rfl
    obtain rfl := h2.1.mpr rfl
    cases hv
    cases hk'
    exact ⟨L' + 1, hφ, by simp⟩
  · have h2 := key hz
    rcases i with _ | i
    · have := h2.2.mpr (h2.1.mp rfl); cases this
    · exact hpad i v hv
end
end
section
noncomputable section
noncomputable def raiW (A : Wd) : Wd := fun c m s => bnd (A c m s) fun y s => isInt y fun _ => .ec s
noncomputable def badW : Wd := fun _ _ _ => .bad
end
section
variable {w : World} {mean : ExcName → Option Value} {mg mb : Str → Option Value} {zs : List Int} {κ : Kp}
theorem ExcS.never {st : Stmt} : ExcS w mean mg mb zs κ st badW := fun _ _ _ _ _ _ _ _ _ _ _ _ _ P => P.elim
theorem ExcS.raise {x : Str} {xp cp pos rp : Pos} {kk : Nat} {e : Expr} {A : Wd} (hx : NamS w mean mg mb zs κ x (.ref 34)) (hk : keepIn (Mine.hd.heap_39 w.params) (.ref 34) = true) (he : ExpS w mean mg mb zs κ e A) (hst : ∀ rest env, starEach (e :: rest) env = (false, eval e env) :: starEach rest env) :
    ExcS w mean mg mb zs κ (.Raise (some (.Call (.Name x xp) [.Constant (.str "OS") kk cp, e] [] pos)) none rp) (raiW A) := by
  intro n c hc K m φ σ s Q E G O S P
  refine Raise_own rfl (Call_ (hx n K m φ σ s _ E xp G O S ?_))
  refine callWith_K G.X hk (args_cons (Calls.Constant_str (args_cons (he.bndS (s := { s with toks := s.toks + 1 }) hc G O S (PostS.later (s := s) (h := s.heap) (tk := s.toks + 1) (List.prefix_refl _) P) ?_) (hst _ _)))) rfl (by rw [hst]; rfl)
  intro y σ₁ φ₁ h₁ tk₁ rv p₁ O₁ S₁ r₁ P
  refine args_nil ?_
  replace P := PS.int P; obtain ⟨i, rfl, P⟩ := P
  obtain ⟨ti, rfl⟩ := r₁
  obtain ⟨F, led, Ld, N⟩ := S₁
  refine ⟨G.X.keeps F.keep, ?_⟩
  refine make_exc w mean mg mb (s := { s with heap := h₁, toks := tk₁ }) G.B F G.X N G.T G.k (by have := G.d; omega) (by have := G.u; omega) fun e dx t h1 h2 k1 k2 h' tk' F' N' le lt1 lt2 => ?_
  refine ⟨e, dx, t, _, _, _, _, _, _, _, _, _, _, _, _, _, _, _, _, rfl, (N' _ (.head _)).1, (G.X.keeps F'.keep) 34 _ rfl, ?_⟩
  refine P φ₁ h' tk' e K.mm (List.prefix_refl _) (.inr ⟨dx, t, excD h1 h2 k1 k2 (.str (Str.ofString "OS") s.toks) (.int (i : Int) ti), led, F', ⟨Ld.ad, Ld.nd, Ld.xl, Ld.pn, Ld.ob⟩, fun p hp => ?_, Nat.ne_of_lt (Nat.lt_trans lt1 lt2), fun q hq => Nat.ne_of_lt (le q hq), _, _, _, _, _, _, rfl⟩)
  rcases List.mem_cons.mp hp with rfl | hp
  · exact N' _ (.head _)
  rcases List.mem_cons.mp hp with rfl | hp
  · exact N' _ (.tail _ (.head _))
  · exact N' _ (.tail _ (.tail _ (.tail _ hp)))
end
end
section
noncomputable section
noncomputable def ordF (l : List V) (s : St) : R := on1 l fun x => isS x fun y => List.rec (motive := fun _ => R) .bad (fun a t _ => List.rec (motive := fun _ => R) (.v (.n a) s) (fun _ _ _ => .bad) t) y
noncomputable def chrF (l : List V) (s : St) : R := on1 l fun x => isInt x fun i => ifB (Nat.blt i 128) (.v (.s [i]) s) .bad
noncomputable def sgnV (l : List Nat) : List V := List.rec (motive := fun _ => List V) [] (fun x _ ih => .s [x] :: ih) l
noncomputable def cmsW (i : Nat) (A W : Wd) : Wd := fun c m s => bndN (A c m s) fun x s => isS x fun l => lcL i W c m (sgnV l) (fun z s => newS s (.lst z)) s
end
section
variable {w : World} {mean : ExcName → Option Value} {mg mb : Str → Option Value} {zs : List Int} {κ : Kp}
theorem sgnV_eq (l : List Nat) : sgnV l = l.map fun x => V.s [x] := by
  induction l with
  | nil => rfl
  | cons x l ih => exact congrArg (V.s [x] :: ·) ih
theorem FunS.ord : FunS w mean mg mb zs "ord" ordF := by
  intro n K G φ σ s xs vs Q E S r P
  replace P := PV.on1 P; obtain ⟨x, rfl, P⟩ := P
  obtain ⟨_, rfl, rx⟩ := r.one
  replace P := PV.str P; obtain ⟨l, rfl, P⟩ := P
  obtain ⟨h1, h2, t, rfl⟩ := rx
  match l, P with
  | [], P => exact P.elim
  | a :: b :: l, P => exact P.elim
  | [a], P =>
    refine PySem.P.ord_of_char (c := a) ?_
    exact PostV.now (tk := s.toks + 1) P S ⟨_, rfl⟩
theorem FunS.chr : FunS w mean mg mb zs "chr" chrF := by
  intro n K G φ σ s xs vs Q E S r P
  replace P := PV.on1 P; obtain ⟨x, rfl, P⟩ := P
  obtain ⟨_, rfl, rx⟩ := r.one
  replace P := PV.int P; obtain ⟨i, rfl, P⟩ := P
  obtain ⟨t, rfl⟩ := rx
  replace P := PV.if P; obtain ⟨hi, P⟩ := P
  have hi := Nat.le_of_ble_eq_true hi
  refine chr_of_range (by omega) (by omega) ?_
  exact PostV.now (tk := s.toks + 1) P S ⟨fun x hx => by rw [List.mem_singleton.mp hx]; omega, by simp, _, rfl⟩
theorem ExpS.compS {cs sc : Scope} {nm : Nms} {iter elt : Expr} {A W : Wd} {i : Nat} {x : Str} {px pos : Pos} (hcap : CapS cs nm sc x i [(x, false, i)] (fun _ k => k)) (hsc : ScOk sc x) (hs : ∀ env x, foldedSetIterable iter env x = pure x) (hA : ExpS w mean mg mb zs (.fn cs nm) iter A) (hW : ExpS w mean mg mb zs (.cp cs sc [(x, false, i)]) elt W) : ExpS w mean mg mb zs (.fn cs nm) (.ListComp elt [⟨.Name x px, iter, [], 0⟩] sc pos) (cmsW i A W) := by
  intro n c hc K m φ σ s Q E G O S P
  obtain ⟨P, clx, hclx, hO⟩ := hcap _ (Px.v (zs := zs) (K := K) (s := s) (Q := Q) (E := E)) K m φ _ O P
  rw [O.2.1]
  refine ListComp_S S.1 hclx hsc.cell hsc.kind hsc.names hsc.x ?_ (hs _)
  refine Eq.mp (congrArg (fun z => wpAny (Mdl w) K.A (eval iter z) _ E s) O.2.1) ?_
  refine hA n c hc K m φ σ s _ E G O S (Px.v.bndN P ?_)
  intro x σ₁ φ₁ h₁ tk₁ rv p₁ S₁ r₁ P₁
  replace P₁ := PV.str P₁; obtain ⟨l, rfl, P₁⟩ := P₁
  obtain ⟨k1, k2, t, rfl⟩ := r₁
  obtain ⟨F, led, Ld, N⟩ := S₁
  have hsz : (txN l).cps.size = (sgnV l).length := by rw [sgnV_eq, List.length_map]; rfl
  refine ⟨txN l, t, K.xl ++ led, rfl, rfl, F, N, ?_, by rw [hsz, sgnV_eq, List.length_map, sizeLine_eq]; omega, ?_⟩
  · show (List.toArray l).all _ = true
    rw [List.all_toArray]
    exact List.all_eq_true.mpr fun x hx => decide_eq_true (k1 x hx)
  rintro s₂ ⟨g, rfl⟩
  have key := comp_core (K := K) (s := { s with heap := g, toks := tk₁ }) (xs := sgnV l) (φ₁ := φ₁) (clx := clx) (i := i) (m := m) (fin := fun z s => newS s (.lst z)) (P := SignAt (txN l)) (Sx := fun _ => True) (Fin := LCg.FinE K.g K.L K.mm { s with heap := g, toks := tk₁ } Q)
    Px.v hW hc G O.1
    (fun i x v hx hv => by
      obtain ⟨c, t', hc, rfl⟩ := hv
      rw [sgnV_eq, List.getElem?_map] at hx
      replace hc : l[i]? = some c := by rw [← List.getElem?_toArray]; exact hc
      rw [hc] at hx
      cases hx
      exact ⟨fun x hx => by rw [List.mem_singleton.mp hx]; exact k1 _ (List.mem_of_getElem? hc), by simp, t', rfl⟩)
    (fun _ _ _ _ => trivial) (fun φ' m₂ v rv p => hO φ' m₂ v rv (p₁.trans p))
    (fun ys ms φ' σ' led' p' Ld' r' hl' P' => end_new (cs := cs) (nm := nm) (m := m) p' Ld' r' (by rw [hl', sgnV_eq, List.length_map]; omega) P' ⟨g, tk₁, rfl⟩)
    (sgnV l) 0 rfl [] [] φ₁ _ led (List.prefix_refl _) Ld .nil rfl (by simp) P₁
  rw [hsz]
  exact key
end
end
section
section
variable {prog : Program} {w : World} {A : Around} {E : Value → Shared → Prop} {s : Shared} {h₀ : Heap} {L : Addr} {m : Str → Option Value} {news : List (Addr × Obj)}
theorem Dict_new {env : Env} {pos : Pos} {Q : Value → Shared → Prop} (F : Fr h₀ L s.heap m) (N : News h₀ L s.heap news) (hbig : h₀.NoLimit)
    (k : ∀ d h', Fr h₀ L h' m → News h₀ L h' ((d, dictOf [] 0) :: news) → (∀ p ∈ news, p.1 < d) → (d == sysModules) = false → Q (.ref d) { s with heap := h' }) : wpAny (model prog w) A (eval (.Dict [] [] pos) env) Q E s :=
  wpAny_Dict_empty (k _ _ (F.push _) (News.push F N _) (fun p hp => Heap.lt_size (N p hp).1) (F.notModules (modules_low hbig)))
theorem make_at {K : Frag} {C : Addr} {fI : Addr} {pos : List Value} {Q : Value → Shared → Prop} (F : Fr h₀ L s.heap m) (X : K.In h₀) (N : News h₀ L s.heap news) (hm : makesIn K C = true) (hi : findIn K (.ref C) "__init__" = some (some (.ref fI))) (hf : isFn K (.ref fI) = true)
    (h : ∀ x dx h', s.heap.objs.size ≤ dx → (∀ b o, s.heap.get? b = some o → h'.get? b = some o) → Fr h₀ L h' m → News h₀ L h' ((x, instObj C dx) :: (dx, dictOf [] 0) :: news) → dx < x →
      codeAny (model prog w) (A.under (.builtin "type.__call__" ⟨.ref C :: pos, []⟩)) (.call (.ref fI) ⟨.ref x :: pos, []⟩) (InitBack x fun r s' => match r with | .ok (.ret v) => Q v s' | .ok _ => False | .error e => E e s') { s with heap := h' }) :
    wpAny (model prog w) A (call (.ref C) pos) Q E s := by
  obtain ⟨hh, g, d, t, os⟩ := s
  have X' := X.keeps F.keep
  refine wpAny_call (make_core (makes_of X' hm) (looks_findIn X' hi) (fun self => bind_fn X' self (beq_iff_eq.mp hf)) (.inl rfl) (h _ hh.objs.size _ (Nat.le_refl _) (fun b o e => Heap.get?_push_of_some _ (Heap.get?_push_of_some _ e)) ((F.push _).push _) ?_ (Nat.lt_succ_self _)))
  have := (N.push F emptyDict).push (F.push _) (instObj C hh.objs.size)
  rwa [Heap.size_push] at this
end
local macro_rules | `(tactic| walk_at "eval Dict nil nil") => `(tactic| (k_here; k_dflt (refine' Dict_new ?k1 ?k2 (TopRead.nolimit (by k_asm)) ?_; (case k1 => k_asm); (case k2 => k_asm); k_whole); intro d' h' F' N' l1 lo'; (try k_lt l1); (try k_sweep)))
section
variable (w : World) (mean : ExcName → Option Value) (mg mb : Str → Option Value)
theorem ints_zero {t : Tok} (k : Nat) : IntsAre (List.replicate k [Value.int 0 t]).flatten (List.replicate k (0 : Int)) := by
  have h := KM.ints_rep (vs := [Value.int 0 t]) (ns := [0]) (IntsAre.cons _ _ IntsAre.nil) k
  have e : ∀ k : Nat, (List.replicate k [(0 : Int)]).flatten = List.replicate k 0 := by
    intro k
    induction k with
    | zero => rfl
    | succ k ih => rw [List.replicate_succ, List.flatten_cons, ih]; rfl
  rwa [e] at h
inductive SpaceOut (n : Int) (hp : Heap) : Value → List (Addr × Obj) → Prop
  | mk {sp dx oc hd wt : Addr} {H : Hk} {t1 t2 t3 t4 t5 : Tok} {vs : List Value} {u u' : Nat} (hz : IntsAre vs (List.replicate n.toNat 0)) (l1 : @LT.lt Nat _ dx sp) (l2 : @LT.lt Nat _ sp oc) (l3 : @LT.lt Nat _ oc hd) (l4 : @LT.lt Nat _ hd wt) (lo : (hd == sysModules) = false) (ls : hp.objs.size ≤ dx) :
    SpaceOut n hp (.ref sp) (spL sp dx oc hd wt H n n 0 t1 t2 t3 t4 t5 (List.toArray vs) u #[] u')
theorem sub_c {α : Type} {a : α} {l big : List α} (h : a ∈ big) (k : ∀ p ∈ l, p ∈ big) : ∀ p ∈ a :: l, p ∈ big := List.forall_mem_cons.mpr ⟨h, k⟩
theorem sub_n {α : Type} {big : List α} : ∀ p ∈ ([] : List α), p ∈ big := fun _ h => nomatch h
theorem space_n {n : Int} {ta tb : Tok} (h0 : 1 ≤ n) (h1 : n ≤ 100) :
    Ctr w mean mg mb 3 54 [.int n ta, .int 4 tb] [] (SpaceOut n) := by
  unfold Ctr
  k_fill
  intro dp un gd cn cs a' ccd cl outer A₀ base h₀ L m s Q E B F X N T hk hd' hu hret
  k_dflt (refine' make_at ?k1 ?k2 ?k3 ?k4 ?k5 ?k6 ?_; (case k1 => k_asm); (case k2 => k_asm); (case k3 => k_asm); (case k4 => k_is); (case k5 => k_is); (case k6 => k_is); k_whole; intro x' d' h' l9 kp F' N' l2)
  k_dflt (refine' enter_def (binds := [(Str.ofString "self", Value.ref x'), (Str.ofString "size", Value.int n ta), (Str.ofString "most_waiting", Value.int 4 tb)]) ?k1 ?k2 ?k3 ?k4 ?k5 ?kA ?kF ?kK ?k6 ?k7 ?k8 ?k9 ?kB ?_ ?c2 ?c3 ?c4 ?c5; (case kA => exact rfl); (case kF => exact rfl); (case kK => assumption); (case k1 => k_asm); (case k2 => k_asm); (case k3 => k_asm); (case k4 => k_asm); (case k5 => k_asm); (case k6 => k_is); (case k7 => k_is); (case k8 => ktr_room); (case k9 => exact BindsTo.of_eq rfl); (case c5 => decide); (case kB => exact locs rfl); (case c2 => exact rfl); (case c3 => exact rfl); (case c4 => exact rfl); k_whole; intro g' L' h' hL' kb' lt' F' N' B' X' T'; (try simp only [AllLt, and_true] at lt'); (try dsimp only); (try k_fold))
  k_steps
  rename (_ == sysModules) = false => lo9
  rename (_ ∧ _ ∧ _ ∧ @LT.lt Nat _ x' _ ∧ @LT.lt Nat _ d' _) => lw
  rename (_ ∧ _ ∧ @LT.lt Nat _ x' _ ∧ @LT.lt Nat _ d' _) => lh
  rename (_ ∧ @LT.lt Nat _ x' _ ∧ @LT.lt Nat _ d' _) => lo
  refine' hret _ _ _ _ ?cF (news_sub ?cN ?cS) ?cK (SpaceOut.mk (H := ⟨_, _, _, _, _, _, _, _, _, _, _, _, _, _, _, _⟩) (vs := (List.replicate n.toNat [Value.int 0 _]).flatten) (ints_zero _) l2 ?_ ?_ ?_ lo9 l9)
  case cF => k_asm
  case cN => assumption
  case cS => ((try dsimp only [spL, List.cons_append, List.nil_append]); (repeat (refine sub_c (by repeat (first | exact .head _ | refine .tail _ ?_)) ?_)); exact sub_n)
  case cK => exact fun b o e hn => KeepBut.fr kb' (by k_asm) b o (kp b o e) (by
    have h7 : @LT.lt Nat _ b s.heap.objs.size := Heap.lt_size e
    have h8 : @LT.lt Nat _ d' x' := l2
    simp only [List.map_cons, List.map_nil, List.mem_cons, List.not_mem_nil, or_false, not_or]
    exact ⟨Nat.ne_of_lt (Nat.lt_trans (Nat.lt_of_lt_of_le h7 l9) h8), Nat.ne_of_lt (Nat.lt_of_lt_of_le h7 l9)⟩)
  · exact lo.2.1
  · exact lh.1
  · exact lw.1
end
end
section
noncomputable section
noncomputable def repV (n : Nat) : List V := Nat.rec (motive := fun _ => List V) [] (fun _ ih => .n 0 :: ih) n
noncomputable def spcF (l : List V) (s : St) : R := on2 l fun x y => isInt x fun n => isInt y fun m => ifB (Nat.ble 1 n) (ifB (Nat.ble n 100) (ifB (Nat.beq m 4) (segS s fun s => bnd (newS s (.lst (repV n))) fun oc s => bnd (newS s .ed) fun hd s => bnd (newS s (.lst [])) fun wt s => bnd (newS s (.dct [.n n, oc, .n 0, .n n, hd, wt, .n 4, .n 0])) fun d s => isRef d fun d => newS s (.ins d)) .bad) .bad) .bad
end
section
variable {w : World} {mean : ExcName → Option Value} {mg mb : Str → Option Value} {zs : List Int}
theorem Kx.Led.seg {K : Kx} {φ : List Addr} {nx : Nat} {t : T} {pn : List Nat} {led : List (Addr × Obj)} (Ld : K.Led zs φ (.mk nx t pn) led) : K.Led zs φ (.mk nx (.sg nx .lf t) pn) led := by
  obtain ⟨ad, nd, xl, pnk, t', e, ob⟩ := Ld
  cases e
  refine ⟨ad, nd, xl, pnk, _, rfl, fun k o h => ob k o ?_⟩
  rw [lookO_sg] at h
  cases hb : Nat.ble φ.length k with
  | true => rw [hb] at h; exact nomatch (show (none : Option O) = some o from h)
  | false => rw [hb] at h; exact h
theorem repV_eq : ∀ k, repV k = List.replicate k (V.n 0)
  | 0 => rfl
  | k + 1 => congrArg (V.n 0 :: ·) (repV_eq k)
theorem zeros_rv {φ : List Addr} : ∀ {k : Nat} {vs : List Value}, IntsAre vs (List.replicate k 0) → RVs φ (List.replicate k (V.n 0)) vs
  | 0, _, h => by cases h; exact .nil
  | k + 1, _, h => by
    rw [List.replicate_succ] at h
    cases h with
    | cons n t h => exact .cons ⟨t, rfl⟩ (zeros_rv h)
theorem ap_get {φ φ' l : List Addr} {i j : Nat} {a : Addr} (e : φ' = φ ++ l) (hj : j = φ.length + i) (h : l[i]? = some a) : φ'[j]? = some a := by
  subst e hj; rw [List.getElem?_append_right (by omega), Nat.add_sub_cancel_left]; exact h
theorem all_x {α : Type} {P : α → Prop} {X l : List α} {a : α} (h : ∀ p ∈ X ++ l, P p) (ha : P a) : ∀ p ∈ X ++ (l ++ [a]), P p := fun p hp =>
  (List.mem_append.mp (List.append_assoc X l [a] ▸ hp)).elim (h p) fun e => List.mem_singleton.mp e ▸ ha
theorem space_f (n : Nat) : FnOk w mean mg mb zs n 54 spcF := by
  intro args σ K φ vs s Q E G S r P
  replace P := PV.on2 P; obtain ⟨x, y, rfl, P⟩ := P
  replace P := PV.int P; obtain ⟨k, rfl, P⟩ := P
  replace P := PV.int P; obtain ⟨m, rfl, P⟩ := P
  replace P := PV.if P; obtain ⟨h1, P⟩ := P
  replace P := PV.if P; obtain ⟨h2, P⟩ := P
  replace P := PV.if P; obtain ⟨h3, P⟩ := P
  have h1 := Nat.le_of_ble_eq_true h1
  have h2 := Nat.le_of_ble_eq_true h2
  obtain rfl := Nat.eq_of_beq_eq_true h3
  obtain ⟨_, _, rfl, ⟨ta, rfl⟩, ⟨tb, rfl⟩⟩ := r.two
  obtain ⟨nx, t, pn⟩ := σ
  obtain ⟨F, led, Ld, N⟩ := S
  refine use (space_n w mean mg mb (n := (k : Int)) (ta := ta) (tb := tb) (by omega) (by omega)) G.B F G.X N G.T G.k (by have := G.d; omega) (by have := G.u; omega) (fun _ h => nomatch h) (Rest.tail fun _ _ _ h => nomatch h) ?_
  intro r' led' h' tk' F' N' P' N0
  obtain @⟨sp, dx, oc, hd, wt, H, t1, t2, t3, t4, t5, vs, u, u', hz, l1, l2, l3, l4, lo, ls⟩ := P'
  rw [Int.toNat_natCast] at hz
  have hb : ∀ p ∈ K.xl ++ led, @LT.lt Nat _ p.1 dx := fun p hp => Nat.lt_of_lt_of_le (Heap.lt_size (N0 p hp).1) ls
  have of0 : ∀ D, @LE.le Nat _ dx D → ∀ p ∈ K.xl ++ led, p.1 ≠ D := fun D hD p hp => Nat.ne_of_lt (Nat.lt_of_lt_of_le (hb p hp) hD)
  have g1 : @LT.lt Nat _ dx oc := Nat.lt_trans l1 l2
  have g2 : @LT.lt Nat _ dx hd := Nat.lt_trans g1 l3
  have g3 : @LT.lt Nat _ dx wt := Nat.lt_trans g2 l4
  have g4 : @LT.lt Nat _ sp hd := Nat.lt_trans l2 l3
  have e : nx = φ.length := by obtain ⟨_, _, _, _, t', e, _⟩ := Ld; cases e; rfl
  subst e
  have L1 := Ld.seg.push (D := oc) (ob := W.listOf (List.toArray vs) u) (o := .lst (repV k)) (of0 _ (Nat.le_of_lt g1)) ⟨vs, u, rfl, by rw [repV_eq]; exact zeros_rv hz, by rw [repV_eq, List.length_replicate]; exact Nat.le_trans h2 (by decide)⟩
  have L2 := L1.push (D := hd) (ob := dictOf [] 0) (o := .ed) (all_x (of0 _ (Nat.le_of_lt g2)) (Nat.ne_of_lt l3)) ⟨rfl, lo⟩
  have L3 := L2.push (D := wt) (ob := W.listOf #[] u') (o := .lst []) (all_x (all_x (of0 _ (Nat.le_of_lt g3)) (Nat.ne_of_lt (Nat.lt_trans l3 l4))) (Nat.ne_of_lt l4)) ⟨[], u', rfl, .nil, Nat.zero_le _⟩
  have L4 := L3.push (D := dx) (ob := dictOf (spE H oc hd wt k k 0 t1 t2 t3 t4 t5) 8) (o := .dct [.n k, .r φ.length, .n 0, .n k, .r (φ.length + 1), .r (φ.length + 1 + 1), .n 4, .n 0]) (all_x (all_x (all_x (of0 _ (Nat.le_refl _)) (Nat.ne_of_gt g1)) (Nat.ne_of_gt g2)) (Nat.ne_of_gt g3))
    ⟨H, _, _, _, _, _, _, _, _, rfl, .cons ⟨t1, rfl⟩ (.cons ⟨oc, ap_get (φ := φ) (l := [oc, hd, wt, dx]) (i := 0) (by simp) rfl rfl, rfl⟩ (.cons ⟨t2, rfl⟩ (.cons ⟨t3, rfl⟩ (.cons ⟨hd, ap_get (φ := φ) (l := [oc, hd, wt, dx]) (i := 1) (by simp) rfl rfl, rfl⟩ (.cons ⟨wt, ap_get (φ := φ) (l := [oc, hd, wt, dx]) (i := 2) (by simp) rfl rfl, rfl⟩ (.cons ⟨t4, rfl⟩ (.cons ⟨t5, rfl⟩ .nil)))))))⟩
  have L5 := L4.push (D := sp) (ob := instObj 54 dx) (o := .ins (φ.length + 1 + 1 + 1)) (all_x (all_x (all_x (all_x (of0 _ (Nat.le_of_lt l1)) (Nat.ne_of_gt l2)) (Nat.ne_of_gt g4)) (Nat.ne_of_gt (Nat.lt_trans g4 l4))) (Nat.ne_of_lt l1)) ⟨dx, ap_get (φ := φ) (l := [oc, hd, wt, dx, sp]) (i := 3) (by simp) rfl rfl, rfl⟩
  replace P : PostV zs K φ s Q E (bnd (newS (.mk φ.length (.sg φ.length .lf t) pn) (.lst (repV k))) fun oc s => bnd (newS s .ed) fun hd s => bnd (newS s (.lst [])) fun wt s => bnd (newS s (.dct [.n k, oc, .n 0, .n k, hd, wt, .n 4, .n 0])) fun d s => isRef d fun d => newS s (.ins d)) := P
  rw [newS_eq] at P
  replace P : PostV zs K φ s Q E (bnd (newS (.mk (φ.length + 1) (upd (.sg φ.length .lf t) φ.length (.lst (repV k))) pn) .ed) fun hd s => bnd (newS s (.lst [])) fun wt s => bnd (newS s (.dct [.n k, .r φ.length, .n 0, .n k, hd, wt, .n 4, .n 0])) fun d s => isRef d fun d => newS s (.ins d)) := P
  rw [newS_eq] at P
  replace P := show PostV zs K φ s Q E (bnd (newS (.mk (φ.length + 1 + 1) _ pn) (.lst [])) fun wt s => bnd (newS s (.dct [.n k, .r φ.length, .n 0, .n k, .r (φ.length + 1), wt, .n 4, .n 0])) fun d s => isRef d fun d => newS s (.ins d)) from P
  rw [newS_eq] at P
  replace P := show PostV zs K φ s Q E (bnd (newS (.mk (φ.length + 1 + 1 + 1) _ pn) (.dct [.n k, .r φ.length, .n 0, .n k, .r (φ.length + 1), .r (φ.length + 1 + 1), .n 4, .n 0])) fun d s => isRef d fun d => newS s (.ins d)) from P
  rw [newS_eq] at P
  replace P := show PostV zs K φ s Q E (newS (.mk (φ.length + 1 + 1 + 1 + 1) _ pn) (.ins (φ.length + 1 + 1 + 1))) from P
  rw [newS_eq] at P
  exact P _ h' tk' _ ⟨[oc] ++ [hd] ++ [wt] ++ [dx] ++ [sp], by simp⟩ ⟨F', _, L5, all_x (all_x (all_x (all_x (all_x (fun p hp => N' p (List.mem_append_right _ hp)) (N' _ (.tail _ (.tail _ (.head _))))) (N' _ (.tail _ (.tail _ (.tail _ (.head _)))))) (N' _ (.tail _ (.tail _ (.tail _ (.tail _ (.head _))))))) (N' _ (.tail _ (.head _)))) (N' _ (.head _))⟩ ⟨sp, ap_get (φ := φ) (l := [oc, hd, wt, dx, sp]) (i := 4) (by simp) rfl rfl, rfl⟩
end
end
section
theorem fmod_nn (a : Int) {n : Int} (h : 0 < n) : 0 ≤ a.fmod n := by rw [Int.fmod_eq_emod_of_nonneg _ (by omega)]; exact Int.emod_nonneg _ (by omega)
theorem fmod_lt (a : Int) {n : Int} (h : 0 < n) : a.fmod n < n := by rw [Int.fmod_eq_emod_of_nonneg _ (by omega)]; exact Int.emod_lt_of_pos _ h
section
variable (w : World) (mean : ExcName → Option Value) (mg mb : Str → Option Value)
theorem drawn_c {bag ls : Addr} {spot : Int} {ts tb : Tok} {ub ul : Nat} {vs : List Value} {ns : List Int} {n : Int} (hi : IntsAre vs ns) (hz : ns.length ≤ 100) (h0 : 0 ≤ spot) (h1 : spot ≤ 1000) (hn : 0 < n) (hn2 : n ≤ 100) (hb : @Ne Nat bag ls) :
    Ctr w mean mg mb 3 139 [.ref bag, .int n tb] [(bag, W.listOf #[.ref ls, .int spot ts] ub), (ls, W.listOf vs.toArray ul)]
      (fun hp r led' => ∃ x t2 t3, r = .int x t3 ∧ 0 ≤ x ∧ x < n ∧ led' = [(bag, W.listOf #[.ref ls, .int (spot + 1) t2] ub), (ls, W.listOf vs.toArray ul)]) := by
  unfold Ctr
  k_fill
  intro dp un gd cn cs a' ccd cl outer A₀ base h₀ L m s Q E B F X N T hk hd' hu hret
  (refine wpAny_call ?_; k_dflt (refine' enter_def (binds := [(Str.ofString "bag", Value.ref bag), (Str.ofString "below", Value.int n tb)]) ?k1 ?k2 ?k3 ?k4 ?k5 ?kA ?kF ?kK ?k6 ?k7 ?k8 ?k9 ?kB ?_ ?c2 ?c3 ?c4 ?c5; (case kA => exact rfl); (case kF => exact rfl); (case kK => assumption); (case k1 => k_asm); (case k2 => k_asm); (case k3 => k_asm); (case k4 => k_asm); (case k5 => k_asm); (case k6 => k_is); (case k7 => k_is); (case k8 => ktr_room); (case k9 => exact BindsTo.of_eq rfl); (case c5 => decide); (case kB => exact locs rfl); (case c2 => exact rfl); (case c3 => exact rfl); (case c4 => exact rfl); k_whole; intro g' L' h' hL' kb' lt' F' N' B' X' T'; (try simp only [AllLt, and_true] at lt'); (try dsimp only); (try k_fold)))
  k_steps
  all_goals exact hret _ _ _ _ (by k_asm) (by k_asm) (KeepBut.fr kb' (by k_asm)) ⟨_, _, _, rfl, fmod_nn _ hn, fmod_lt _ hn, rfl⟩
end
noncomputable section
noncomputable def drwF (l : List V) (s : St) : R := on2 l fun x y => isRef x fun a => lookS s a fun o => onLst o fun l => on2 l fun p q => isRef p fun r => lookS s r fun o2 => onRaw o2 (isInt q fun spot => isInt y fun b => ifB (Nat.ble spot 1000) (ifB (Nat.ble b 100) (ifB (Nat.blt 0 b) (frcN (spot+1) fun z => updS s a (.lst [p, .n z]) fun s => .ch b fun i => .v (.n i) s) .bad) .bad) .bad)
end
section
variable {w : World} {mean : ExcName → Option Value} {mg mb : Str → Option Value} {zs : List Int}
theorem drawn_f (hz : zs.length ≤ 100) (n : Nat) : FnOk w mean mg mb zs n 139 drwF := by
  intro args σ K φ vs s Q E G S r P
  replace P := PV.on2 P; obtain ⟨x, y, rfl, P⟩ := P
  replace P := PV.ref P; obtain ⟨a, rfl, P⟩ := P
  obtain ⟨nx, t, pn⟩ := σ
  replace P := PV.look P; obtain ⟨o, ha, P⟩ := P
  replace P := PV.lst P; obtain ⟨l, rfl, P⟩ := P
  replace P := PV.on2 P; obtain ⟨p, q, rfl, P⟩ := P
  replace P := PV.ref P; obtain ⟨c, rfl, P⟩ := P
  replace P := PV.look P; obtain ⟨o, hc, P⟩ := P
  replace P := PV.raw P; obtain ⟨rfl, P⟩ := P
  replace P := PV.int P; obtain ⟨spot, rfl, P⟩ := P
  replace P := PV.int P; obtain ⟨b, rfl, P⟩ := P
  replace P := PV.if P; obtain ⟨h1, P⟩ := P
  replace P := PV.if P; obtain ⟨h2, P⟩ := P
  replace P := PV.if P; obtain ⟨h3, P⟩ := P
  replace P := PV.frcN P
  replace P := PV.upd P; obtain ⟨hm, P⟩ := P
  have h1 := Nat.le_of_ble_eq_true h1
  have h2 := Nat.le_of_ble_eq_true h2
  have h3 : 0 < b := Nat.le_of_ble_eq_true h3
  obtain ⟨_, _, rfl, ⟨bag, hbag, rfl⟩, ⟨tb, rfl⟩⟩ := r.two
  obtain ⟨F, led, Ld, N⟩ := S
  obtain ⟨ws, ub, k1, k2, k3, k4⟩ := Ld.list ha hbag
  obtain ⟨_, _, rfl, ⟨ls, hls, rfl⟩, ⟨ts, rfl⟩⟩ := k2.two
  obtain ⟨ls', ob, j1, j2, j3, vs, ul, rfl, hi⟩ := Ld.at hc
  rw [hls] at j1; cases j1
  have hne := Ld.ne hbag hls fun e => by rw [e, hc] at ha; cases ha
  obtain ⟨rest, q1, q2⟩ := rest_set (Ld.ad ▸ Ld.nd) k4
  refine drawn_c w mean mg mb (spot := (spot : Int)) (n := (b : Int)) (ts := ts) (tb := tb) (ub := ub) (ul := ul) hi hz (by omega) (by omega) (by omega) (by omega) hne K.dp K.un K.gd K.cn K.cs K.a K.ccd K.cl K.outer K.A₀ K.base K.g K.L K.mm s Q E G.B F G.X (news_sub N fun p hp => List.mem_append_right _ ?_) G.T G.k (by have := G.d; omega) (by have := G.u; omega) ?_
  · rcases List.mem_cons.mp hp with rfl | hp
    · exact k1
    · rw [List.mem_singleton.mp hp]; exact j3
  intro r led' h' tk' F' N' kb P'
  obtain ⟨x, t2, t3, rfl, x0, x1, rfl⟩ := P'
  obtain ⟨i, rfl⟩ := Int.eq_ofNat_of_zero_le x0
  have keep : ∀ p ∈ K.xl ++ led, p.1 ≠ bag → h'.get? p.1 = some p.2 := fun p hp hb => by
    by_cases e : p.1 = ls
    · have e1 := (N p hp).1
      rw [e, (N _ (List.mem_append_right _ j3)).1] at e1
      rw [e, ← Option.some.inj e1]
      exact (N' _ (.tail _ (.head _))).1
    · exact kb p.1 p.2 (N p hp).1 (by simp; exact ⟨hb, e⟩)
  refine P i (by omega) φ h' tk' _ (List.prefix_refl _) ⟨F', _, Ld.set hbag hm ⟨_, ub, rfl, .cons ⟨ls, hls, rfl⟩ (.cons ⟨t2, rfl⟩ .nil), by simp⟩, fun p hp => ?_⟩ ⟨t3, rfl⟩
  rcases List.mem_append.mp hp with hp | hp
  · exact ⟨keep p (List.mem_append_left _ hp) fun e => Ld.xl p hp (e ▸ List.mem_of_getElem? hbag), (N p (List.mem_append_left _ hp)).2⟩
  · rcases q2 _ p hp with rfl | hp
    · exact N' _ (.head _)
    · obtain ⟨z1, z2⟩ := q1.mem p hp
      exact ⟨keep p (List.mem_append_right _ z1) fun e => z2 _ (.head _) e.symm, (N p (List.mem_append_right _ z1)).2⟩
end
end
section

section
theorem fill_now (w : World) : Mine.hd.heap_39 w.params = Mine.hd.heap_39 w.params ∧ PySem.Challenge.rw_xm0013_01 = PySem.Challenge.rw_xm0013_01 := by
  k_fill
  exact ⟨rfl, rfl⟩
noncomputable section
noncomputable def octetsB : Wd := seqW (retW (cmsW 1 (varW 0) (funW ordF [varW 1]))) nopW
noncomputable def textB : Wd := seqW (retW (joiW (cmpW (fun x k => k) 2 (slcW (attW 1 (varW 0)) (binW itmV (varW 1) (cstW (V.n 0))) (binW addV (binW itmV (varW 1) (cstW (V.n 0))) (binW itmV (varW 1) (cstW (V.n 1))))) (funW chrF [varW 2])))) nopW
noncomputable def writeB : Wd := seqW (enuW (asgN 3) (asgN 4) (varW 2) (seqW (sixW (varW 4) (attW 1 (varW 0)) (binW addV (varW 1) (varW 3))) nopW)) nopW
noncomputable def freeB : Wd := seqW (retW (binW subV (attW 3 (varW 0)) (attW 2 (varW 0)))) nopW
noncomputable def highestB : Wd := seqW (asgW (cstW V.o) (asgN 2)) (seqW (forW (asgN 3) (varW 0) (seqW (ifW (andW (binW (cmpV Nat.blt) (binW itmV (varW 3) (cstW (V.n 0))) (varW 1)) (andW (orW (binW isV (varW 2) (cstW V.o)) (orW (binW (cmpV fun i j => j.blt i) (binW itmV (varW 3) (cstW (V.n 0))) (binW itmV (varW 2) (cstW (V.n 0)))) (cstW (V.b false)))) (cstW (V.b true)))) (seqW (asgW (varW 3) (asgN 2)) nopW) nopW) nopW)) (seqW (retW (varW 2)) nopW))
noncomputable def placesB : Wd := seqW (asgW (binW addV (cmdW (capW 0) (attW 4 (celW 0))) (attW 5 (celW 0))) (asgN 1)) (seqW (retW (cmtW (fun x k => k) 2 (varW 1) (binW (cmpV fun i j => j.blt i) (binW itmV (varW 2) (cstW (V.n 1))) (cstW (V.n 0))) (varW 2))) nopW)
noncomputable def collectB : Wd := seqW (asgW (tupW [attW 3 (varW 0), attW 0 (varW 0), attW 0 (varW 0)]) (asgT [asgN 2, asgN 3, asgC 1])) (seqW (asgW (calW 80 [varW 0]) (asgN 4)) (seqW (asgW (calW 94 [varW 4, celW 1]) (asgN 5)) (seqW (whlW 9 (binW isnV (varW 5) (cstW V.o)) (seqW (asgW (varW 5) (asgT [asgN 6, asgN 7])) (seqW (asgW (tupW [varW 6, binW subV (varW 3) (varW 7)]) (asgT [asgC 1, asgN 3])) (seqW (expW (calW 75 [varW 0, varW 3, slcW (attW 1 (varW 0)) (varW 6) (binW addV (varW 6) (varW 7))])) (seqW (sixW (varW 3) (varW 5) (cstW (V.n 0))) (seqW (cmtA 4 (capW 1) 8 (varW 4) (binW (cmpV Nat.blt) (binW itmV (varW 8) (cstW (V.n 0))) (celW 1)) (varW 8)) (seqW (asgW (calW 94 [varW 4, celW 1]) (asgN 5)) nopW))))))) (seqW (satW 3 (varW 3) (varW 0)) (seqW (augW 7 addK (varW 0) (cstW (V.n 1))) (seqW (retW (binW subV (varW 3) (varW 2))) nopW))))))
noncomputable def allocB : Wd := seqW (ifW (binW (cmpV fun i j => j.blt i) (varW 1) (cstW (V.n 255))) (seqW badW nopW) nopW) (seqW (ifW (binW (cmpV Nat.blt) (calW 87 [varW 0]) (varW 1)) (seqW (expW (calW 99 [varW 0])) nopW) nopW) (seqW (ifW (binW (cmpV Nat.blt) (calW 87 [varW 0]) (varW 1)) (seqW (raiW (varW 1)) nopW) nopW) (seqW (augW 3 subK (varW 0) (varW 1)) (seqW (retW (attW 3 (varW 0))) nopW))))
noncomputable def placedB : Wd := seqW (asgW (calW 106 [varW 0, funW lenF [varW 1]]) (asgN 2)) (seqW (expW (calW 75 [varW 0, varW 2, calW 63 [varW 1]])) (seqW (retW (lstW [varW 2, funW lenF [varW 1]])) nopW))
noncomputable def pushB : Wd := seqW (ifW (binW (cmpV fun i j => j.ble i) (funW lenF [attW 5 (varW 0)]) (attW 6 (varW 0))) (seqW badW nopW) nopW) (seqW (expW (appW (attW 5 (varW 0)) (calW 113 [varW 0, varW 1]))) nopW)
noncomputable def joinwB : Wd := seqW (sw2W 1 2 (tupW [endW 1 (attW 5 (varW 0)), endW 2 (attW 5 (varW 0))])) (seqW (ifW (binW (cmpV fun i j => j.blt i) (binW addV (binW itmV (varW 2) (cstW (V.n 1))) (binW itmV (varW 1) (cstW (V.n 1)))) (cstW (V.n 255))) (seqW badW nopW) nopW) (seqW (asgW (calW 106 [varW 0, binW addV (binW itmV (varW 2) (cstW (V.n 1))) (binW itmV (varW 1) (cstW (V.n 1)))]) (asgN 3)) (seqW (expW (calW 75 [varW 0, varW 3, calW 63 [binW addV (calW 68 [varW 0, varW 2]) (calW 68 [varW 0, varW 1])]])) (seqW (slnW (lstW [lstW [varW 3, binW addV (binW itmV (varW 2) (cstW (V.n 1))) (binW itmV (varW 1) (cstW (V.n 1)))]]) (attW 5 (varW 0))) nopW))))
noncomputable def soundB : Wd := seqW (asgW (funW srtF [cmpW (fun x k => k) 5 (calW 80 [varW 0]) (tupW [binW itmV (varW 5) (cstW (V.n 0)), binW addV (binW itmV (varW 5) (cstW (V.n 0))) (binW itmV (varW 5) (cstW (V.n 1)))])]) (asgN 1)) (seqW (enuW (asgN 2) (asgT [asgN 3, asgN 4]) (varW 1) (seqW (ifW (orW (binW (cmpV Nat.blt) (varW 3) (attW 3 (varW 0))) (orW (binW (cmpV fun i j => j.blt i) (varW 4) (attW 0 (varW 0))) (orW (andW (binW (cmpV fun i j => j.blt i) (varW 2) (cstW (V.n 0))) (andW (binW (cmpV Nat.blt) (varW 3) (binW itmV (binW itmV (varW 1) (binW subV (varW 2) (cstW (V.n 1)))) (cstW (V.n 1)))) (cstW (V.b true)))) (cstW (V.b false))))) (seqW (retW (cstW (V.b false))) nopW) nopW) nopW)) (seqW (retW (binW (cmpV Nat.ble) (attW 2 (varW 0)) (attW 3 (varW 0)))) nopW))
noncomputable def waysB : Wd := seqW (ifW (binW eqV (binW subV (varW 1) (varW 0)) (cstW (V.n 1))) (seqW (retW (lstW [varW 0])) nopW) nopW) (seqW (asgW (lstW []) (asgN 3)) (seqW (frgW 4 (rg2 (binW addV (varW 0) (cstW (V.n 1))) (varW 1)) (seqW (forW (asgC 2) (calW 144 [varW 0, varW 4]) (seqW (asgW (binW addV (varW 3) (cmpW (capW 2) 5 (calW 144 [varW 4, varW 1]) (tupW [celW 2, varW 5]))) (asgN 3)) nopW)) nopW)) (seqW (retW (varW 3)) nopW)))
noncomputable def lawjoinB : Wd := seqW (ifW (notW (tstW (isiW (varW 1)))) (seqW (expW (calW 120 [varW 0, binW itmV (varW 2) (varW 1)])) (seqW rtnW nopW)) nopW) (seqW (expW (calW 151 [varW 0, binW itmV (varW 1) (cstW (V.n 0)), varW 2])) (seqW (expW (calW 151 [varW 0, binW itmV (varW 1) (cstW (V.n 1)), varW 2])) (seqW (expW (calW 127 [varW 0])) nopW)))
noncomputable def signsB : Wd := seqW (ifW (notW (tstW (isiW (varW 0)))) (seqW (retW (tupW [funW lenF [binW itmV (varW 1) (varW 0)], funW lenF [binW itmV (varW 1) (varW 0)]])) nopW) nopW) (seqW (sw2W 2 3 (tupW [calW 158 [binW itmV (varW 0) (cstW (V.n 0)), varW 1], calW 158 [binW itmV (varW 0) (cstW (V.n 1)), varW 1]])) (seqW (retW (tupW [binW addV (binW itmV (varW 2) (cstW (V.n 0))) (binW itmV (varW 3) (cstW (V.n 0))), binW addV (binW addV (binW addV (binW itmV (varW 2) (cstW (V.n 1))) (binW itmV (varW 3) (cstW (V.n 1)))) (binW itmV (varW 2) (cstW (V.n 0)))) (binW itmV (varW 3) (cstW (V.n 0)))])) nopW))
noncomputable def leastB : Wd := seqW (ifW (binW eqV (funW lenF [celW 0]) (cstW (V.n 1))) (seqW (retW (binW itmV (celW 0) (cstW (V.n 0)))) nopW) nopW) (seqW (retW (binW addV (funW sumF [celW 0]) (funW minF [cmrW (capW 0) 1 (rg2 (cstW (V.n 1)) (funW lenF [celW 0])) (binW addV (calW 163 [slbW (celW 0) (varW 1)]) (calW 163 [slaW (celW 0) (varW 1)]))]))) nopW)
noncomputable def waitingB : Wd := seqW (retW (cmpW (capW 0) 1 (attW 5 (celW 0)) (calW 68 [celW 0, varW 1]))) nopW
end
section
variable {w : World} {mean : ExcName → Option Value} {mg mb : Str → Option Value} {zs : List Int}
section
theorem octets_t : ∀ n c, CallOk w mean mg mb zs c n → FnOk w mean mg mb zs (n + 1) 63 (fnW octetsB 1 [.u] c) := by
  intro n c hc
  delta octetsB
  refine' FnOk.plain (ps := [Str.ofString "text"]) (nm := [(Str.ofString "text", false, 0)]) (pad := [.u]) ?ho ?hcd ?hb ?hp ?hn ?he ?hu ?co ?ge ?hk ?ce ?hW hc
  case ho => (first | exact rfl | with_unfolding_all rfl | k_is)
  case hcd => k_is
  case hb => (intro vs h; first | (rcases vs with _ | ⟨v0, _ | ⟨v1, vs⟩⟩ <;> first | (exact rfl) | (simp at h; done)))
  case hp => decide
  case hn => decide
  case he => decide
  case hu => ((repeat (refine allU_cons ?_)); exact allU_nil)
  case co => rfl
  case ge => rfl
  case hk => rfl
  case ce => decide
  case hW => ((with_reducible refine' BdyS.cons ?a9 ?b9); (case a9 => ((with_reducible refine' ExcS.ret ?a8); (case a8 => ((with_reducible refine' ExpS.compS (i := _) ?k7 ?s7 ?h7 ?a7 ?b7); (case k7 => first | exact CapS.no fun _ => rfl | (refine' CapS.one ?kq1 ?nq1 ?xq1 ?jq1; (case kq1 => exact rfl); (case nq1 => exact rfl); (case xq1 => decide); (case jq1 => decide))); (case s7 => exact ⟨by decide, rfl, by decide, rfl⟩); (case h7 => exact fun _ _ => rfl); (case a7 => ((with_reducible refine' ExpS.name ?n1q2 ?n2q2 ?n3q2); (case n1q2 => exact rfl); (case n2q2 => exact rfl); (case n3q2 => first | exact rfl | (with_unfolding_all rfl) | decide | kernel_rfl))); (case b7 => ((with_reducible refine' ExpS.fn ?x6 ?o6 ?a6); (case x6 => (refine' NamS.bltB ?nxq3 ?nbq3 ?nnq3 ?nsq3 ?neq3 ?ndq3; (case nxq3 => k_is); (case nbq3 => first | boot_by_name | rfl | kernel_rfl | boot_fast); (case nnq3 => decide); (case nsq3 => first | exact rfl | (with_unfolding_all rfl) | decide | kernel_rfl); (case neq3 => (intros; first | exact rfl | (with_unfolding_all rfl) | decide)); (case ndq3 => first | exact rfl | (with_unfolding_all rfl) | decide | kernel_rfl))); (case o6 => with_reducible exact FunS.ord); (case a6 => ((with_reducible refine' ArgS.cons ?as5 ?ae5 ?ar5); (case as5 => exact fun _ _ => rfl); (case ae5 => ((with_reducible refine' ExpS.nameB ?n1q4 ?n4q4 ?n2q4 ?n3q4); (case n1q4 => exact rfl); (case n4q4 => exact rfl); (case n2q4 => (intros; first | exact rfl | (with_unfolding_all rfl) | decide)); (case n3q4 => first | exact rfl | (with_unfolding_all rfl) | decide | kernel_rfl))); (case ar5 => with_reducible exact ArgS.nil))))))))); (case b9 => with_reducible exact BdyS.nil))
end
section
theorem text_t : ∀ n c, CallOk w mean mg mb zs c n → FnOk w mean mg mb zs (n + 1) 68 (fnW textB 2 [.u] c) := by
  intro n c hc
  delta textB
  refine' FnOk.plain (ps := [Str.ofString "space", Str.ofString "place"]) (nm := [(Str.ofString "space", false, 0), (Str.ofString "place", false, 1)]) (pad := [.u]) ?ho ?hcd ?hb ?hp ?hn ?he ?hu ?co ?ge ?hk ?ce ?hW hc
  case ho => (first | exact rfl | with_unfolding_all rfl | k_is)
  case hcd => k_is
  case hb => (intro vs h; first | (rcases vs with _ | ⟨v0, _ | ⟨v1, _ | ⟨v2, vs⟩⟩⟩ <;> first | (exact rfl) | (simp at h; done)))
  case hp => decide
  case hn => decide
  case he => decide
  case hu => ((repeat (refine allU_cons ?_)); exact allU_nil)
  case co => rfl
  case ge => rfl
  case hk => rfl
  case ce => decide
  case hW => ((with_reducible refine' BdyS.cons ?a32 ?b32); (case a32 => ((with_reducible refine' ExcS.ret ?a31); (case a31 => ((with_reducible refine' ExpS.join ?b30 ?h30 ?m30); (case h30 => exact fun _ _ => rfl); (case m30 => exact fun _ => ⟨_, rfl⟩); (case b30 => ((with_reducible refine' ExpS.compL (i := _) ?k29 ?s29 ?h29 ?a29 ?b29); (case k29 => first | exact CapS.no fun _ => rfl | (refine' CapS.one ?kq10 ?nq10 ?xq10 ?jq10; (case kq10 => exact rfl); (case nq10 => exact rfl); (case xq10 => decide); (case jq10 => decide))); (case s29 => exact ⟨by decide, rfl, by decide, rfl⟩); (case h29 => exact fun _ _ => rfl); (case a29 => ((with_reducible refine' ExpS.slice ?a24 ?b24 ?c24); (case a24 => ((with_reducible refine' ExpS.attr 1 ?a13 ?h13); (case h13 => (refine' ⟨?a1q12, ?a2q12, ?a3q12, ?a5q12⟩; (case a1q12 => k_is); (case a2q12 => k_is); (case a3q12 => k_is); (case a5q12 => (intros; rename some _ = some _ => h9; cases h9; with_unfolding_all rfl)))); (case a13 => ((with_reducible refine' ExpS.name ?n1q11 ?n2q11 ?n3q11); (case n1q11 => exact rfl); (case n2q11 => exact rfl); (case n3q11 => first | exact rfl | (with_unfolding_all rfl) | decide | kernel_rfl))))); (case b24 => ((with_reducible refine' ExpS.item ?a16 ?b16 ?h16); (case a16 => ((with_reducible refine' ExpS.name ?n1q14 ?n2q14 ?n3q14); (case n1q14 => exact rfl); (case n2q14 => exact rfl); (case n3q14 => first | exact rfl | (with_unfolding_all rfl) | decide | kernel_rfl))); (case h16 => exact fun _ _ => rfl); (case b16 => ((with_reducible refine' ExpS.int 0 ?r15); (case r15 => exact rfl))))); (case c24 => ((with_reducible refine' ExpS.bin ?o23 ?a23 ?b23); (case o23 => with_reducible exact BinS.add); (case a23 => ((with_reducible refine' ExpS.item ?a19 ?b19 ?h19); (case a19 => ((with_reducible refine' ExpS.name ?n1q17 ?n2q17 ?n3q17); (case n1q17 => exact rfl); (case n2q17 => exact rfl); (case n3q17 => first | exact rfl | (with_unfolding_all rfl) | decide | kernel_rfl))); (case h19 => exact fun _ _ => rfl); (case b19 => ((with_reducible refine' ExpS.int 0 ?r18); (case r18 => exact rfl))))); (case b23 => ((with_reducible refine' ExpS.item ?a22 ?b22 ?h22); (case a22 => ((with_reducible refine' ExpS.name ?n1q20 ?n2q20 ?n3q20); (case n1q20 => exact rfl); (case n2q20 => exact rfl); (case n3q20 => first | exact rfl | (with_unfolding_all rfl) | decide | kernel_rfl))); (case h22 => exact fun _ _ => rfl); (case b22 => ((with_reducible refine' ExpS.int 1 ?r21); (case r21 => exact rfl))))))))); (case b29 => ((with_reducible refine' ExpS.fn ?x28 ?o28 ?a28); (case x28 => (refine' NamS.bltB ?nxq25 ?nbq25 ?nnq25 ?nsq25 ?neq25 ?ndq25; (case nxq25 => k_is); (case nbq25 => first | boot_by_name | rfl | kernel_rfl | boot_fast); (case nnq25 => decide); (case nsq25 => first | exact rfl | (with_unfolding_all rfl) | decide | kernel_rfl); (case neq25 => (intros; first | exact rfl | (with_unfolding_all rfl) | decide)); (case ndq25 => first | exact rfl | (with_unfolding_all rfl) | decide | kernel_rfl))); (case o28 => with_reducible exact FunS.chr); (case a28 => ((with_reducible refine' ArgS.cons ?as27 ?ae27 ?ar27); (case as27 => exact fun _ _ => rfl); (case ae27 => ((with_reducible refine' ExpS.nameB ?n1q26 ?n4q26 ?n2q26 ?n3q26); (case n1q26 => exact rfl); (case n4q26 => exact rfl); (case n2q26 => (intros; first | exact rfl | (with_unfolding_all rfl) | decide)); (case n3q26 => first | exact rfl | (with_unfolding_all rfl) | decide | kernel_rfl))); (case ar27 => with_reducible exact ArgS.nil))))))))))); (case b32 => with_reducible exact BdyS.nil))
end
section
theorem write_t : ∀ n c, CallOk w mean mg mb zs c n → FnOk w mean mg mb zs (n + 1) 75 (fnW writeB 3 [.u, .u] c) := by
  intro n c hc
  delta writeB
  refine' FnOk.plain (ps := [Str.ofString "space", Str.ofString "at", Str.ofString "octets"]) (nm := [(Str.ofString "space", false, 0), (Str.ofString "at", false, 1), (Str.ofString "octets", false, 2), (Str.ofString "spot", false, 3), (Str.ofString "octet", false, 4)]) (pad := [.u, .u]) ?ho ?hcd ?hb ?hp ?hn ?he ?hu ?co ?ge ?hk ?ce ?hW hc
  case ho => (first | exact rfl | with_unfolding_all rfl | k_is)
  case hcd => k_is
  case hb => (intro vs h; first | (rcases vs with _ | ⟨v0, _ | ⟨v1, _ | ⟨v2, _ | ⟨v3, vs⟩⟩⟩⟩ <;> first | (exact rfl) | (simp at h; done)))
  case hp => decide
  case hn => decide
  case he => decide
  case hu => ((repeat (refine allU_cons ?_)); exact allU_nil)
  case co => rfl
  case ge => rfl
  case hk => rfl
  case ce => decide
  case hW => ((with_reducible refine' BdyS.cons ?a49 ?b49); (case a49 => ((with_reducible refine' ExcS.enum ?x48 ?e48 ?h48 ?t48 ?a48 ?b48); (case x48 => (refine' NamS.blt ?nxq33 ?nbq33 ?nnq33 ?neq33 ?ndq33; (case nxq33 => k_is); (case nbq33 => first | boot_by_name | rfl | kernel_rfl | boot_fast); (case nnq33 => decide); (case neq33 => (intros; first | exact rfl | (with_unfolding_all rfl) | decide)); (case ndq33 => first | exact rfl | (with_unfolding_all rfl) | decide | kernel_rfl))); (case e48 => exact fun _ _ => rfl); (case h48 => exact fun _ _ => rfl); (case t48 => ((with_reducible refine' TgtS.cons ?h37 ?a37 ?b37); (case h37 => exact fun _ _ => rfl); (case a37 => ((with_reducible refine' AsgS.name ?u34 ?y34 ?k34); (case y34 => exact rfl); (case u34 => first | exact rfl | (with_unfolding_all rfl) | decide | kernel_rfl); (case k34 => (intros; first | exact rfl | (with_unfolding_all rfl) | decide)))); (case b37 => ((with_reducible refine' TgtS.cons ?h36 ?a36 ?b36); (case h36 => exact fun _ _ => rfl); (case a36 => ((with_reducible refine' AsgS.name ?u35 ?y35 ?k35); (case y35 => exact rfl); (case u35 => first | exact rfl | (with_unfolding_all rfl) | decide | kernel_rfl); (case k35 => (intros; first | exact rfl | (with_unfolding_all rfl) | decide)))); (case b36 => with_reducible exact TgtS.nil))))); (case a48 => ((with_reducible refine' ExpS.name ?n1q38 ?n2q38 ?n3q38); (case n1q38 => exact rfl); (case n2q38 => exact rfl); (case n3q38 => first | exact rfl | (with_unfolding_all rfl) | decide | kernel_rfl))); (case b48 => ((with_reducible refine' BdyS.cons ?a47 ?b47); (case a47 => ((with_reducible refine' ExcS.sidx ?s46 ?a46 ?b46 ?i46); (case s46 => (intros; first | exact rfl | (with_unfolding_all rfl) | decide)); (case a46 => ((with_reducible refine' ExpS.name ?n1q39 ?n2q39 ?n3q39); (case n1q39 => exact rfl); (case n2q39 => exact rfl); (case n3q39 => first | exact rfl | (with_unfolding_all rfl) | decide | kernel_rfl))); (case b46 => ((with_reducible refine' ExpS.attr 1 ?a42 ?h42); (case h42 => (refine' ⟨?a1q41, ?a2q41, ?a3q41, ?a5q41⟩; (case a1q41 => k_is); (case a2q41 => k_is); (case a3q41 => k_is); (case a5q41 => (intros; rename some _ = some _ => h9; cases h9; with_unfolding_all rfl)))); (case a42 => ((with_reducible refine' ExpS.name ?n1q40 ?n2q40 ?n3q40); (case n1q40 => exact rfl); (case n2q40 => exact rfl); (case n3q40 => first | exact rfl | (with_unfolding_all rfl) | decide | kernel_rfl))))); (case i46 => ((with_reducible refine' ExpS.bin ?o45 ?a45 ?b45); (case o45 => with_reducible exact BinS.add); (case a45 => ((with_reducible refine' ExpS.name ?n1q43 ?n2q43 ?n3q43); (case n1q43 => exact rfl); (case n2q43 => exact rfl); (case n3q43 => first | exact rfl | (with_unfolding_all rfl) | decide | kernel_rfl))); (case b45 => ((with_reducible refine' ExpS.name ?n1q44 ?n2q44 ?n3q44); (case n1q44 => exact rfl); (case n2q44 => exact rfl); (case n3q44 => first | exact rfl | (with_unfolding_all rfl) | decide | kernel_rfl))))))); (case b47 => with_reducible exact BdyS.nil))))); (case b49 => with_reducible exact BdyS.nil))
end
section
theorem free_t : ∀ n c, CallOk w mean mg mb zs c n → FnOk w mean mg mb zs (n + 1) 87 (fnW freeB 1 [] c) := by
  intro n c hc
  delta freeB
  refine' FnOk.plain (ps := [Str.ofString "space"]) (nm := [(Str.ofString "space", false, 0)]) (pad := []) ?ho ?hcd ?hb ?hp ?hn ?he ?hu ?co ?ge ?hk ?ce ?hW hc
  case ho => (first | exact rfl | with_unfolding_all rfl | k_is)
  case hcd => k_is
  case hb => (intro vs h; first | (rcases vs with _ | ⟨v0, _ | ⟨v1, vs⟩⟩ <;> first | (exact rfl) | (simp at h; done)))
  case hp => decide
  case hn => decide
  case he => decide
  case hu => ((repeat (refine allU_cons ?_)); exact allU_nil)
  case co => rfl
  case ge => rfl
  case hk => rfl
  case ce => decide
  case hW => ((with_reducible refine' BdyS.cons ?a58 ?b58); (case a58 => ((with_reducible refine' ExcS.ret ?a57); (case a57 => ((with_reducible refine' ExpS.bin ?o56 ?a56 ?b56); (case o56 => with_reducible exact BinS.sub); (case a56 => ((with_reducible refine' ExpS.attr 3 ?a52 ?h52); (case h52 => (refine' ⟨?a1q51, ?a2q51, ?a3q51, ?a5q51⟩; (case a1q51 => k_is); (case a2q51 => k_is); (case a3q51 => k_is); (case a5q51 => (intros; rename some _ = some _ => h9; cases h9; with_unfolding_all rfl)))); (case a52 => ((with_reducible refine' ExpS.name ?n1q50 ?n2q50 ?n3q50); (case n1q50 => exact rfl); (case n2q50 => exact rfl); (case n3q50 => first | exact rfl | (with_unfolding_all rfl) | decide | kernel_rfl))))); (case b56 => ((with_reducible refine' ExpS.attr 2 ?a55 ?h55); (case h55 => (refine' ⟨?a1q54, ?a2q54, ?a3q54, ?a5q54⟩; (case a1q54 => k_is); (case a2q54 => k_is); (case a3q54 => k_is); (case a5q54 => (intros; rename some _ = some _ => h9; cases h9; with_unfolding_all rfl)))); (case a55 => ((with_reducible refine' ExpS.name ?n1q53 ?n2q53 ?n3q53); (case n1q53 => exact rfl); (case n2q53 => exact rfl); (case n3q53 => first | exact rfl | (with_unfolding_all rfl) | decide | kernel_rfl))))))))); (case b58 => with_reducible exact BdyS.nil))
end
section
theorem highest_t : ∀ n c, CallOk w mean mg mb zs c n → FnOk w mean mg mb zs (n + 1) 94 (fnW highestB 2 [.u, .u] c) := by
  intro n c hc
  delta highestB
  refine' FnOk.plain (ps := [Str.ofString "places", Str.ofString "below"]) (nm := [(Str.ofString "places", false, 0), (Str.ofString "below", false, 1), (Str.ofString "found", false, 2), (Str.ofString "place", false, 3)]) (pad := [.u, .u]) ?ho ?hcd ?hb ?hp ?hn ?he ?hu ?co ?ge ?hk ?ce ?hW hc
  case ho => (first | exact rfl | with_unfolding_all rfl | k_is)
  case hcd => k_is
  case hb => (intro vs h; first | (rcases vs with _ | ⟨v0, _ | ⟨v1, _ | ⟨v2, vs⟩⟩⟩ <;> first | (exact rfl) | (simp at h; done)))
  case hp => decide
  case hn => decide
  case he => decide
  case hu => ((repeat (refine allU_cons ?_)); exact allU_nil)
  case co => rfl
  case ge => rfl
  case hk => rfl
  case ce => decide
  case hW => ((with_reducible refine' BdyS.cons ?a90 ?b90); (case a90 => ((with_reducible refine' ExcS.asg1 ?u59 ?y59 ?k59 ?s59 ?a59); (case y59 => exact rfl); (case u59 => first | exact rfl | (with_unfolding_all rfl) | decide | kernel_rfl); (case k59 => (intros; first | exact rfl | (with_unfolding_all rfl) | decide)); (case s59 => (intros; first | exact rfl | (with_unfolding_all rfl) | decide)); (case a59 => with_reducible exact ExpS.non))); (case b90 => ((with_reducible refine' BdyS.cons ?a89 ?b89); (case a89 => ((with_reducible refine' ExcS.for ?h85 ?t85 ?a85 ?b85); (case h85 => exact fun _ _ => rfl); (case t85 => ((with_reducible refine' AsgS.name ?u60 ?y60 ?k60); (case y60 => exact rfl); (case u60 => first | exact rfl | (with_unfolding_all rfl) | decide | kernel_rfl); (case k60 => (intros; first | exact rfl | (with_unfolding_all rfl) | decide)))); (case a85 => ((with_reducible refine' ExpS.name ?n1q61 ?n2q61 ?n3q61); (case n1q61 => exact rfl); (case n2q61 => exact rfl); (case n3q61 => first | exact rfl | (with_unfolding_all rfl) | decide | kernel_rfl))); (case b85 => ((with_reducible refine' BdyS.cons ?a84 ?b84); (case a84 => ((with_reducible refine' ExcS.if ?t83 ?a83 ?b83); (case t83 => ((with_reducible refine' TstS.and ?a79 ?b79); (case a79 => ((with_reducible refine' TstS.cmp ?o66 ?a66 ?b66 ?m66); (case o66 => with_reducible exact CmpS.lt); (case a66 => ((with_reducible refine' ExpS.item ?a64 ?b64 ?h64); (case a64 => ((with_reducible refine' ExpS.name ?n1q62 ?n2q62 ?n3q62); (case n1q62 => exact rfl); (case n2q62 => exact rfl); (case n3q62 => first | exact rfl | (with_unfolding_all rfl) | decide | kernel_rfl))); (case h64 => exact fun _ _ => rfl); (case b64 => ((with_reducible refine' ExpS.int 0 ?r63); (case r63 => exact rfl))))); (case b66 => ((with_reducible refine' ExpS.name ?n1q65 ?n2q65 ?n3q65); (case n1q65 => exact rfl); (case n2q65 => exact rfl); (case n3q65 => first | exact rfl | (with_unfolding_all rfl) | decide | kernel_rfl))); (case m66 => first | exact rfl | (with_unfolding_all rfl) | decide | kernel_rfl))); (case b79 => ((with_reducible refine' TstS.and ?a78 ?b78); (case a78 => ((with_reducible refine' TstS.or ?a77 ?b77); (case a77 => ((with_reducible refine' TstS.cmp ?o68 ?a68 ?b68 ?m68); (case o68 => with_reducible exact CmpS.is); (case a68 => ((with_reducible refine' ExpS.name ?n1q67 ?n2q67 ?n3q67); (case n1q67 => exact rfl); (case n2q67 => exact rfl); (case n3q67 => first | exact rfl | (with_unfolding_all rfl) | decide | kernel_rfl))); (case b68 => with_reducible exact ExpS.non); (case m68 => first | exact rfl | (with_unfolding_all rfl) | decide | kernel_rfl))); (case b77 => ((with_reducible refine' TstS.or ?a76 ?b76); (case a76 => ((with_reducible refine' TstS.cmp ?o75 ?a75 ?b75 ?m75); (case o75 => with_reducible exact CmpS.gt); (case a75 => ((with_reducible refine' ExpS.item ?a71 ?b71 ?h71); (case a71 => ((with_reducible refine' ExpS.name ?n1q69 ?n2q69 ?n3q69); (case n1q69 => exact rfl); (case n2q69 => exact rfl); (case n3q69 => first | exact rfl | (with_unfolding_all rfl) | decide | kernel_rfl))); (case h71 => exact fun _ _ => rfl); (case b71 => ((with_reducible refine' ExpS.int 0 ?r70); (case r70 => exact rfl))))); (case b75 => ((with_reducible refine' ExpS.item ?a74 ?b74 ?h74); (case a74 => ((with_reducible refine' ExpS.name ?n1q72 ?n2q72 ?n3q72); (case n1q72 => exact rfl); (case n2q72 => exact rfl); (case n3q72 => first | exact rfl | (with_unfolding_all rfl) | decide | kernel_rfl))); (case h74 => exact fun _ _ => rfl); (case b74 => ((with_reducible refine' ExpS.int 0 ?r73); (case r73 => exact rfl))))); (case m75 => first | exact rfl | (with_unfolding_all rfl) | decide | kernel_rfl))); (case b76 => with_reducible exact TstS.or0))))); (case b78 => with_reducible exact TstS.and0))))); (case a83 => ((with_reducible refine' BdyS.cons ?a82 ?b82); (case a82 => ((with_reducible refine' ExcS.asg1 ?u81 ?y81 ?k81 ?s81 ?a81); (case y81 => exact rfl); (case u81 => first | exact rfl | (with_unfolding_all rfl) | decide | kernel_rfl); (case k81 => (intros; first | exact rfl | (with_unfolding_all rfl) | decide)); (case s81 => (intros; first | exact rfl | (with_unfolding_all rfl) | decide)); (case a81 => ((with_reducible refine' ExpS.name ?n1q80 ?n2q80 ?n3q80); (case n1q80 => exact rfl); (case n2q80 => exact rfl); (case n3q80 => first | exact rfl | (with_unfolding_all rfl) | decide | kernel_rfl))))); (case b82 => with_reducible exact BdyS.nil))); (case b83 => with_reducible exact BdyS.nil))); (case b84 => with_reducible exact BdyS.nil))))); (case b89 => ((with_reducible refine' BdyS.cons ?a88 ?b88); (case a88 => ((with_reducible refine' ExcS.ret ?a87); (case a87 => ((with_reducible refine' ExpS.name ?n1q86 ?n2q86 ?n3q86); (case n1q86 => exact rfl); (case n2q86 => exact rfl); (case n3q86 => first | exact rfl | (with_unfolding_all rfl) | decide | kernel_rfl))))); (case b88 => with_reducible exact BdyS.nil))))))
end
section
theorem places_t : ∀ n c, CallOk w mean mg mb zs c n → FnOk w mean mg mb zs (n + 1) 80 (fnP placesB [.u, .u] c) := by
  intro n c hc
  delta placesB
  refine' FnOk.cellP (y := Str.ofString "space") (nm := [(Str.ofString "space", true, 0), (Str.ofString "places", false, 1)]) (pad := [.u, .u]) ?ho ?hcd ?hb ?hy ?hy2 ?hcs ?he ?hu ?co ?ge ?hk ?hW hc
  case ho => (first | exact rfl | with_unfolding_all rfl | k_is)
  case hcd => k_is
  case hb => exact fun _ => rfl
  case hy => exact fun _ => rfl
  case hy2 => exact rfl
  case hcs => exact fun _ => rfl
  case he => decide
  case hu => ((repeat (refine allU_cons ?_)); exact allU_nil)
  case co => rfl
  case ge => rfl
  case hk => rfl
  case hW => ((with_reducible refine' BdyS.cons ?a112 ?b112); (case a112 => ((with_reducible refine' ExcS.asg1 ?u100 ?y100 ?k100 ?s100 ?a100); (case y100 => exact rfl); (case u100 => first | exact rfl | (with_unfolding_all rfl) | decide | kernel_rfl); (case k100 => (intros; first | exact rfl | (with_unfolding_all rfl) | decide)); (case s100 => (intros; first | exact rfl | (with_unfolding_all rfl) | decide)); (case a100 => ((with_reducible refine' ExpS.bin ?o99 ?a99 ?b99); (case o99 => with_reducible exact BinS.add); (case a99 => ((with_reducible refine' ExpS.compD (i := 50) ?k95 ?s95 ?h95 ?a95); (case k95 => first | exact CapS.no fun _ => rfl | (refine' CapS.one ?kq91 ?nq91 ?xq91 ?jq91; (case kq91 => exact rfl); (case nq91 => exact rfl); (case xq91 => decide); (case jq91 => decide))); (case s95 => exact ⟨by decide, rfl, by decide, rfl⟩); (case h95 => exact fun _ _ => rfl); (case a95 => ((with_reducible refine' ExpS.attr 4 ?a94 ?h94); (case h94 => (refine' ⟨?a1q93, ?a2q93, ?a3q93, ?a5q93⟩; (case a1q93 => k_is); (case a2q93 => k_is); (case a3q93 => k_is); (case a5q93 => (intros; rename some _ = some _ => h9; cases h9; with_unfolding_all rfl)))); (case a94 => ((with_reducible refine' ExpS.cell ?n1q92 ?n2q92 ?n3q92); (case n1q92 => exact rfl); (case n2q92 => exact rfl); (case n3q92 => first | exact rfl | (with_unfolding_all rfl) | decide | kernel_rfl))))))); (case b99 => ((with_reducible refine' ExpS.attr 5 ?a98 ?h98); (case h98 => (refine' ⟨?a1q97, ?a2q97, ?a3q97, ?a5q97⟩; (case a1q97 => k_is); (case a2q97 => k_is); (case a3q97 => k_is); (case a5q97 => (intros; rename some _ = some _ => h9; cases h9; with_unfolding_all rfl)))); (case a98 => ((with_reducible refine' ExpS.cell ?n1q96 ?n2q96 ?n3q96); (case n1q96 => exact rfl); (case n2q96 => exact rfl); (case n3q96 => first | exact rfl | (with_unfolding_all rfl) | decide | kernel_rfl))))))))); (case b112 => ((with_reducible refine' BdyS.cons ?a111 ?b111); (case a111 => ((with_reducible refine' ExcS.ret ?a110); (case a110 => ((with_reducible refine' ExpS.compT (i := _) ?k109 ?s109 ?h109 ?a109 ?t109 ?b109); (case k109 => first | exact CapS.no fun _ => rfl | (refine' CapS.one ?kq101 ?nq101 ?xq101 ?jq101; (case kq101 => exact rfl); (case nq101 => exact rfl); (case xq101 => decide); (case jq101 => decide))); (case s109 => exact ⟨by decide, rfl, by decide, rfl⟩); (case h109 => exact fun _ _ => rfl); (case a109 => ((with_reducible refine' ExpS.name ?n1q102 ?n2q102 ?n3q102); (case n1q102 => exact rfl); (case n2q102 => exact rfl); (case n3q102 => first | exact rfl | (with_unfolding_all rfl) | decide | kernel_rfl))); (case t109 => ((with_reducible refine' TstS.cmp ?o107 ?a107 ?b107 ?m107); (case o107 => with_reducible exact CmpS.gt); (case a107 => ((with_reducible refine' ExpS.item ?a105 ?b105 ?h105); (case a105 => ((with_reducible refine' ExpS.nameB ?n1q103 ?n4q103 ?n2q103 ?n3q103); (case n1q103 => exact rfl); (case n4q103 => exact rfl); (case n2q103 => (intros; first | exact rfl | (with_unfolding_all rfl) | decide)); (case n3q103 => first | exact rfl | (with_unfolding_all rfl) | decide | kernel_rfl))); (case h105 => exact fun _ _ => rfl); (case b105 => ((with_reducible refine' ExpS.int 1 ?r104); (case r104 => exact rfl))))); (case b107 => ((with_reducible refine' ExpS.int 0 ?r106); (case r106 => exact rfl))); (case m107 => first | exact rfl | (with_unfolding_all rfl) | decide | kernel_rfl))); (case b109 => ((with_reducible refine' ExpS.nameB ?n1q108 ?n4q108 ?n2q108 ?n3q108); (case n1q108 => exact rfl); (case n4q108 => exact rfl); (case n2q108 => (intros; first | exact rfl | (with_unfolding_all rfl) | decide)); (case n3q108 => first | exact rfl | (with_unfolding_all rfl) | decide | kernel_rfl))))))); (case b111 => with_reducible exact BdyS.nil))))
end
section
theorem collect_t : ∀ n c, CallOk w mean mg mb zs c n → FnOk w mean mg mb zs (n + 1) 99 (fnN collectB 1 [.u, .u, .u, .u, .u, .u, .u] c) := by
  intro n c hc
  delta collectB
  refine' FnOk.cellN (ps := [Str.ofString "space"]) (y := Str.ofString "below") (nm := [(Str.ofString "space", false, 0), (Str.ofString "below", true, 1), (Str.ofString "before", false, 2), (Str.ofString "goal", false, 3), (Str.ofString "places", false, 4), (Str.ofString "place", false, 5), (Str.ofString "begin", false, 6), (Str.ofString "length", false, 7)]) (pad := [.u, .u, .u, .u, .u, .u, .u]) ?ho ?hcd ?hb ?hp ?hn ?he ?hcs ?he2 ?hu ?hko ?hyp ?co ?ge ?hk ?hW hc
  case ho => (first | exact rfl | with_unfolding_all rfl | k_is)
  case hcd => k_is
  case hb => (intro vs h; first | (rcases vs with _ | ⟨v0, _ | ⟨v1, vs⟩⟩ <;> first | (exact rfl) | (simp at h; done)))
  case hp => decide
  case hn => decide
  case he => decide
  case hcs => exact fun _ => rfl
  case he2 => decide
  case hu => ((repeat (refine allU_cons ?_)); exact allU_nil)
  case hko => exact fun _ => rfl
  case hyp => decide
  case co => rfl
  case ge => rfl
  case hk => rfl
  case hW => ((with_reducible refine' BdyS.cons ?a231 ?b231); (case a231 => ((with_reducible refine' ExcS.asgT ?t133 ?s133 ?r133 ?a133); (case s133 => (intros; first | exact rfl | (with_unfolding_all rfl) | decide)); (case r133 => (intros; first | exact rfl | (with_unfolding_all rfl) | decide)); (case t133 => ((with_reducible refine' AsgS.tup ?l119); (case l119 => ((with_reducible refine' TgtS.cons ?h118 ?a118 ?b118); (case h118 => exact fun _ _ => rfl); (case a118 => ((with_reducible refine' AsgS.name ?u113 ?y113 ?k113); (case y113 => exact rfl); (case u113 => first | exact rfl | (with_unfolding_all rfl) | decide | kernel_rfl); (case k113 => (intros; first | exact rfl | (with_unfolding_all rfl) | decide)))); (case b118 => ((with_reducible refine' TgtS.cons ?h117 ?a117 ?b117); (case h117 => exact fun _ _ => rfl); (case a117 => ((with_reducible refine' AsgS.name ?u114 ?y114 ?k114); (case y114 => exact rfl); (case u114 => first | exact rfl | (with_unfolding_all rfl) | decide | kernel_rfl); (case k114 => (intros; first | exact rfl | (with_unfolding_all rfl) | decide)))); (case b117 => ((with_reducible refine' TgtS.cons ?h116 ?a116 ?b116); (case h116 => exact fun _ _ => rfl); (case a116 => ((with_reducible refine' AsgS.cell ?y115 ?k115); (case y115 => exact rfl); (case k115 => (intros; first | exact rfl | (with_unfolding_all rfl) | decide)))); (case b116 => with_reducible exact TgtS.nil))))))))); (case a133 => ((with_reducible refine' ExpS.tup ?a132 ?h132); (case a132 => ((with_reducible refine' ArgS.cons ?as131 ?ae131 ?ar131); (case as131 => exact fun _ _ => rfl); (case ae131 => ((with_reducible refine' ExpS.attr 3 ?a122 ?h122); (case h122 => (refine' ⟨?a1q121, ?a2q121, ?a3q121, ?a5q121⟩; (case a1q121 => k_is); (case a2q121 => k_is); (case a3q121 => k_is); (case a5q121 => (intros; rename some _ = some _ => h9; cases h9; with_unfolding_all rfl)))); (case a122 => ((with_reducible refine' ExpS.name ?n1q120 ?n2q120 ?n3q120); (case n1q120 => exact rfl); (case n2q120 => exact rfl); (case n3q120 => first | exact rfl | (with_unfolding_all rfl) | decide | kernel_rfl))))); (case ar131 => ((with_reducible refine' ArgS.cons ?as130 ?ae130 ?ar130); (case as130 => exact fun _ _ => rfl); (case ae130 => ((with_reducible refine' ExpS.attr 0 ?a125 ?h125); (case h125 => (refine' ⟨?a1q124, ?a2q124, ?a3q124, ?a5q124⟩; (case a1q124 => k_is); (case a2q124 => k_is); (case a3q124 => k_is); (case a5q124 => (intros; rename some _ = some _ => h9; cases h9; with_unfolding_all rfl)))); (case a125 => ((with_reducible refine' ExpS.name ?n1q123 ?n2q123 ?n3q123); (case n1q123 => exact rfl); (case n2q123 => exact rfl); (case n3q123 => first | exact rfl | (with_unfolding_all rfl) | decide | kernel_rfl))))); (case ar130 => ((with_reducible refine' ArgS.cons ?as129 ?ae129 ?ar129); (case as129 => exact fun _ _ => rfl); (case ae129 => ((with_reducible refine' ExpS.attr 0 ?a128 ?h128); (case h128 => (refine' ⟨?a1q127, ?a2q127, ?a3q127, ?a5q127⟩; (case a1q127 => k_is); (case a2q127 => k_is); (case a3q127 => k_is); (case a5q127 => (intros; rename some _ = some _ => h9; cases h9; with_unfolding_all rfl)))); (case a128 => ((with_reducible refine' ExpS.name ?n1q126 ?n2q126 ?n3q126); (case n1q126 => exact rfl); (case n2q126 => exact rfl); (case n3q126 => first | exact rfl | (with_unfolding_all rfl) | decide | kernel_rfl))))); (case ar129 => with_reducible exact ArgS.nil))))))); (case h132 => exact Nat.le_of_ble_eq_true rfl))))); (case b231 => ((with_reducible refine' BdyS.cons ?a230 ?b230); (case a230 => ((with_reducible refine' ExcS.asg1 ?u138 ?y138 ?k138 ?s138 ?a138); (case y138 => exact rfl); (case u138 => first | exact rfl | (with_unfolding_all rfl) | decide | kernel_rfl); (case k138 => (intros; first | exact rfl | (with_unfolding_all rfl) | decide)); (case s138 => (intros; first | exact rfl | (with_unfolding_all rfl) | decide)); (case a138 => ((with_reducible refine' ExpS.call ?x137 ?k137 ?a137); (case x137 => (refine' NamS.glob ?nxq134 (by first | exact .inl rfl | exact .inr rfl) ?neq134 ?ndq134; (case nxq134 => k_is); (case neq134 => (intros; first | exact rfl | (with_unfolding_all rfl) | decide)); (case ndq134 => first | exact rfl | (with_unfolding_all rfl) | decide | kernel_rfl))); (case k137 => k_is); (case a137 => ((with_reducible refine' ArgS.cons ?as136 ?ae136 ?ar136); (case as136 => exact fun _ _ => rfl); (case ae136 => ((with_reducible refine' ExpS.name ?n1q135 ?n2q135 ?n3q135); (case n1q135 => exact rfl); (case n2q135 => exact rfl); (case n3q135 => first | exact rfl | (with_unfolding_all rfl) | decide | kernel_rfl))); (case ar136 => with_reducible exact ArgS.nil))))))); (case b230 => ((with_reducible refine' BdyS.cons ?a229 ?b229); (case a229 => ((with_reducible refine' ExcS.asg1 ?u145 ?y145 ?k145 ?s145 ?a145); (case y145 => exact rfl); (case u145 => first | exact rfl | (with_unfolding_all rfl) | decide | kernel_rfl); (case k145 => (intros; first | exact rfl | (with_unfolding_all rfl) | decide)); (case s145 => (intros; first | exact rfl | (with_unfolding_all rfl) | decide)); (case a145 => ((with_reducible refine' ExpS.call ?x144 ?k144 ?a144); (case x144 => (refine' NamS.glob ?nxq139 (by first | exact .inl rfl | exact .inr rfl) ?neq139 ?ndq139; (case nxq139 => k_is); (case neq139 => (intros; first | exact rfl | (with_unfolding_all rfl) | decide)); (case ndq139 => first | exact rfl | (with_unfolding_all rfl) | decide | kernel_rfl))); (case k144 => k_is); (case a144 => ((with_reducible refine' ArgS.cons ?as143 ?ae143 ?ar143); (case as143 => exact fun _ _ => rfl); (case ae143 => ((with_reducible refine' ExpS.name ?n1q140 ?n2q140 ?n3q140); (case n1q140 => exact rfl); (case n2q140 => exact rfl); (case n3q140 => first | exact rfl | (with_unfolding_all rfl) | decide | kernel_rfl))); (case ar143 => ((with_reducible refine' ArgS.cons ?as142 ?ae142 ?ar142); (case as142 => exact fun _ _ => rfl); (case ae142 => ((with_reducible refine' ExpS.cell ?n1q141 ?n2q141 ?n3q141); (case n1q141 => exact rfl); (case n2q141 => exact rfl); (case n3q141 => first | exact rfl | (with_unfolding_all rfl) | decide | kernel_rfl))); (case ar142 => with_reducible exact ArgS.nil))))))))); (case b229 => ((with_reducible refine' BdyS.cons ?a228 ?b228); (case a228 => ((with_reducible refine' ExcS.while 9 ?t210 ?b210); (case t210 => ((with_reducible refine' TstS.cmp ?o147 ?a147 ?b147 ?m147); (case o147 => with_reducible exact CmpS.isn); (case a147 => ((with_reducible refine' ExpS.name ?n1q146 ?n2q146 ?n3q146); (case n1q146 => exact rfl); (case n2q146 => exact rfl); (case n3q146 => first | exact rfl | (with_unfolding_all rfl) | decide | kernel_rfl))); (case b147 => with_reducible exact ExpS.non); (case m147 => first | exact rfl | (with_unfolding_all rfl) | decide | kernel_rfl))); (case b210 => ((with_reducible refine' BdyS.cons ?a209 ?b209); (case a209 => ((with_reducible refine' ExcS.asgT ?t154 ?s154 ?r154 ?a154); (case s154 => (intros; first | exact rfl | (with_unfolding_all rfl) | decide)); (case r154 => (intros; first | exact rfl | (with_unfolding_all rfl) | decide)); (case t154 => ((with_reducible refine' AsgS.tup ?l152); (case l152 => ((with_reducible refine' TgtS.cons ?h151 ?a151 ?b151); (case h151 => exact fun _ _ => rfl); (case a151 => ((with_reducible refine' AsgS.name ?u148 ?y148 ?k148); (case y148 => exact rfl); (case u148 => first | exact rfl | (with_unfolding_all rfl) | decide | kernel_rfl); (case k148 => (intros; first | exact rfl | (with_unfolding_all rfl) | decide)))); (case b151 => ((with_reducible refine' TgtS.cons ?h150 ?a150 ?b150); (case h150 => exact fun _ _ => rfl); (case a150 => ((with_reducible refine' AsgS.name ?u149 ?y149 ?k149); (case y149 => exact rfl); (case u149 => first | exact rfl | (with_unfolding_all rfl) | decide | kernel_rfl); (case k149 => (intros; first | exact rfl | (with_unfolding_all rfl) | decide)))); (case b150 => with_reducible exact TgtS.nil))))))); (case a154 => ((with_reducible refine' ExpS.name ?n1q153 ?n2q153 ?n3q153); (case n1q153 => exact rfl); (case n2q153 => exact rfl); (case n3q153 => first | exact rfl | (with_unfolding_all rfl) | decide | kernel_rfl))))); (case b209 => ((with_reducible refine' BdyS.cons ?a208 ?b208); (case a208 => ((with_reducible refine' ExcS.asgT ?t167 ?s167 ?r167 ?a167); (case s167 => (intros; first | exact rfl | (with_unfolding_all rfl) | decide)); (case r167 => (intros; first | exact rfl | (with_unfolding_all rfl) | decide)); (case t167 => ((with_reducible refine' AsgS.tup ?l159); (case l159 => ((with_reducible refine' TgtS.cons ?h158 ?a158 ?b158); (case h158 => exact fun _ _ => rfl); (case a158 => ((with_reducible refine' AsgS.cell ?y155 ?k155); (case y155 => exact rfl); (case k155 => (intros; first | exact rfl | (with_unfolding_all rfl) | decide)))); (case b158 => ((with_reducible refine' TgtS.cons ?h157 ?a157 ?b157); (case h157 => exact fun _ _ => rfl); (case a157 => ((with_reducible refine' AsgS.name ?u156 ?y156 ?k156); (case y156 => exact rfl); (case u156 => first | exact rfl | (with_unfolding_all rfl) | decide | kernel_rfl); (case k156 => (intros; first | exact rfl | (with_unfolding_all rfl) | decide)))); (case b157 => with_reducible exact TgtS.nil))))))); (case a167 => ((with_reducible refine' ExpS.tup ?a166 ?h166); (case a166 => ((with_reducible refine' ArgS.cons ?as165 ?ae165 ?ar165); (case as165 => exact fun _ _ => rfl); (case ae165 => ((with_reducible refine' ExpS.name ?n1q160 ?n2q160 ?n3q160); (case n1q160 => exact rfl); (case n2q160 => exact rfl); (case n3q160 => first | exact rfl | (with_unfolding_all rfl) | decide | kernel_rfl))); (case ar165 => ((with_reducible refine' ArgS.cons ?as164 ?ae164 ?ar164); (case as164 => exact fun _ _ => rfl); (case ae164 => ((with_reducible refine' ExpS.bin ?o163 ?a163 ?b163); (case o163 => with_reducible exact BinS.sub); (case a163 => ((with_reducible refine' ExpS.name ?n1q161 ?n2q161 ?n3q161); (case n1q161 => exact rfl); (case n2q161 => exact rfl); (case n3q161 => first | exact rfl | (with_unfolding_all rfl) | decide | kernel_rfl))); (case b163 => ((with_reducible refine' ExpS.name ?n1q162 ?n2q162 ?n3q162); (case n1q162 => exact rfl); (case n2q162 => exact rfl); (case n3q162 => first | exact rfl | (with_unfolding_all rfl) | decide | kernel_rfl))))); (case ar164 => with_reducible exact ArgS.nil))))); (case h166 => exact Nat.le_of_ble_eq_true rfl))))); (case b208 => ((with_reducible refine' BdyS.cons ?a207 ?b207); (case a207 => ((with_reducible refine' ExcS.expr ?a183 ?i183 ?s183); (case i183 => (intros; first | exact rfl | (with_unfolding_all rfl) | decide)); (case s183 => (intros; first | exact rfl | (with_unfolding_all rfl) | decide)); (case a183 => ((with_reducible refine' ExpS.call ?x182 ?k182 ?a182); (case x182 => (refine' NamS.glob ?nxq168 (by first | exact .inl rfl | exact .inr rfl) ?neq168 ?ndq168; (case nxq168 => k_is); (case neq168 => (intros; first | exact rfl | (with_unfolding_all rfl) | decide)); (case ndq168 => first | exact rfl | (with_unfolding_all rfl) | decide | kernel_rfl))); (case k182 => k_is); (case a182 => ((with_reducible refine' ArgS.cons ?as181 ?ae181 ?ar181); (case as181 => exact fun _ _ => rfl); (case ae181 => ((with_reducible refine' ExpS.name ?n1q169 ?n2q169 ?n3q169); (case n1q169 => exact rfl); (case n2q169 => exact rfl); (case n3q169 => first | exact rfl | (with_unfolding_all rfl) | decide | kernel_rfl))); (case ar181 => ((with_reducible refine' ArgS.cons ?as180 ?ae180 ?ar180); (case as180 => exact fun _ _ => rfl); (case ae180 => ((with_reducible refine' ExpS.name ?n1q170 ?n2q170 ?n3q170); (case n1q170 => exact rfl); (case n2q170 => exact rfl); (case n3q170 => first | exact rfl | (with_unfolding_all rfl) | decide | kernel_rfl))); (case ar180 => ((with_reducible refine' ArgS.cons ?as179 ?ae179 ?ar179); (case as179 => exact fun _ _ => rfl); (case ae179 => ((with_reducible refine' ExpS.slice ?a178 ?b178 ?c178); (case a178 => ((with_reducible refine' ExpS.attr 1 ?a173 ?h173); (case h173 => (refine' ⟨?a1q172, ?a2q172, ?a3q172, ?a5q172⟩; (case a1q172 => k_is); (case a2q172 => k_is); (case a3q172 => k_is); (case a5q172 => (intros; rename some _ = some _ => h9; cases h9; with_unfolding_all rfl)))); (case a173 => ((with_reducible refine' ExpS.name ?n1q171 ?n2q171 ?n3q171); (case n1q171 => exact rfl); (case n2q171 => exact rfl); (case n3q171 => first | exact rfl | (with_unfolding_all rfl) | decide | kernel_rfl))))); (case b178 => ((with_reducible refine' ExpS.name ?n1q174 ?n2q174 ?n3q174); (case n1q174 => exact rfl); (case n2q174 => exact rfl); (case n3q174 => first | exact rfl | (with_unfolding_all rfl) | decide | kernel_rfl))); (case c178 => ((with_reducible refine' ExpS.bin ?o177 ?a177 ?b177); (case o177 => with_reducible exact BinS.add); (case a177 => ((with_reducible refine' ExpS.name ?n1q175 ?n2q175 ?n3q175); (case n1q175 => exact rfl); (case n2q175 => exact rfl); (case n3q175 => first | exact rfl | (with_unfolding_all rfl) | decide | kernel_rfl))); (case b177 => ((with_reducible refine' ExpS.name ?n1q176 ?n2q176 ?n3q176); (case n1q176 => exact rfl); (case n2q176 => exact rfl); (case n3q176 => first | exact rfl | (with_unfolding_all rfl) | decide | kernel_rfl))))))); (case ar179 => with_reducible exact ArgS.nil))))))))))); (case b207 => ((with_reducible refine' BdyS.cons ?a206 ?b206); (case a206 => ((with_reducible refine' ExcS.sidx ?s187 ?a187 ?b187 ?i187); (case s187 => (intros; first | exact rfl | (with_unfolding_all rfl) | decide)); (case a187 => ((with_reducible refine' ExpS.name ?n1q184 ?n2q184 ?n3q184); (case n1q184 => exact rfl); (case n2q184 => exact rfl); (case n3q184 => first | exact rfl | (with_unfolding_all rfl) | decide | kernel_rfl))); (case b187 => ((with_reducible refine' ExpS.name ?n1q185 ?n2q185 ?n3q185); (case n1q185 => exact rfl); (case n2q185 => exact rfl); (case n3q185 => first | exact rfl | (with_unfolding_all rfl) | decide | kernel_rfl))); (case i187 => ((with_reducible refine' ExpS.int 0 ?r186); (case r186 => exact rfl))))); (case b206 => ((with_reducible refine' BdyS.cons ?a205 ?b205); (case a205 => ((with_reducible refine' ExcS.compT (i := _) ?k196 ?c196 ?h196 ?u196 ?y196 ?v196 ?p196 ?w196 ?a196 ?t196 ?b196); (case k196 => first | exact CapS.no fun _ => rfl | (refine' CapS.one ?kq188 ?nq188 ?xq188 ?jq188; (case kq188 => exact rfl); (case nq188 => exact rfl); (case xq188 => decide); (case jq188 => decide))); (case c196 => exact ⟨by decide, rfl, by decide, rfl⟩); (case h196 => exact fun _ _ => rfl); (case y196 => exact rfl); (case u196 => first | exact rfl | (with_unfolding_all rfl) | decide | kernel_rfl); (case v196 => (intros; first | exact rfl | (with_unfolding_all rfl) | decide)); (case p196 => exact rfl); (case w196 => (intros; first | exact rfl | (with_unfolding_all rfl) | decide)); (case a196 => ((with_reducible refine' ExpS.name ?n1q189 ?n2q189 ?n3q189); (case n1q189 => exact rfl); (case n2q189 => exact rfl); (case n3q189 => first | exact rfl | (with_unfolding_all rfl) | decide | kernel_rfl))); (case t196 => ((with_reducible refine' TstS.cmp ?o194 ?a194 ?b194 ?m194); (case o194 => with_reducible exact CmpS.lt); (case a194 => ((with_reducible refine' ExpS.item ?a192 ?b192 ?h192); (case a192 => ((with_reducible refine' ExpS.nameB ?n1q190 ?n4q190 ?n2q190 ?n3q190); (case n1q190 => exact rfl); (case n4q190 => exact rfl); (case n2q190 => (intros; first | exact rfl | (with_unfolding_all rfl) | decide)); (case n3q190 => first | exact rfl | (with_unfolding_all rfl) | decide | kernel_rfl))); (case h192 => exact fun _ _ => rfl); (case b192 => ((with_reducible refine' ExpS.int 0 ?r191); (case r191 => exact rfl))))); (case b194 => ((with_reducible refine' ExpS.cellB ?n1q193 ?n4q193 ?n2q193 ?n3q193); (case n1q193 => exact rfl); (case n4q193 => exact rfl); (case n2q193 => (intros; first | exact rfl | (with_unfolding_all rfl) | decide)); (case n3q193 => first | exact rfl | (with_unfolding_all rfl) | decide | kernel_rfl))); (case m194 => first | exact rfl | (with_unfolding_all rfl) | decide | kernel_rfl))); (case b196 => ((with_reducible refine' ExpS.nameB ?n1q195 ?n4q195 ?n2q195 ?n3q195); (case n1q195 => exact rfl); (case n4q195 => exact rfl); (case n2q195 => (intros; first | exact rfl | (with_unfolding_all rfl) | decide)); (case n3q195 => first | exact rfl | (with_unfolding_all rfl) | decide | kernel_rfl))))); (case b205 => ((with_reducible refine' BdyS.cons ?a204 ?b204); (case a204 => ((with_reducible refine' ExcS.asg1 ?u203 ?y203 ?k203 ?s203 ?a203); (case y203 => exact rfl); (case u203 => first | exact rfl | (with_unfolding_all rfl) | decide | kernel_rfl); (case k203 => (intros; first | exact rfl | (with_unfolding_all rfl) | decide)); (case s203 => (intros; first | exact rfl | (with_unfolding_all rfl) | decide)); (case a203 => ((with_reducible refine' ExpS.call ?x202 ?k202 ?a202); (case x202 => (refine' NamS.glob ?nxq197 (by first | exact .inl rfl | exact .inr rfl) ?neq197 ?ndq197; (case nxq197 => k_is); (case neq197 => (intros; first | exact rfl | (with_unfolding_all rfl) | decide)); (case ndq197 => first | exact rfl | (with_unfolding_all rfl) | decide | kernel_rfl))); (case k202 => k_is); (case a202 => ((with_reducible refine' ArgS.cons ?as201 ?ae201 ?ar201); (case as201 => exact fun _ _ => rfl); (case ae201 => ((with_reducible refine' ExpS.name ?n1q198 ?n2q198 ?n3q198); (case n1q198 => exact rfl); (case n2q198 => exact rfl); (case n3q198 => first | exact rfl | (with_unfolding_all rfl) | decide | kernel_rfl))); (case ar201 => ((with_reducible refine' ArgS.cons ?as200 ?ae200 ?ar200); (case as200 => exact fun _ _ => rfl); (case ae200 => ((with_reducible refine' ExpS.cell ?n1q199 ?n2q199 ?n3q199); (case n1q199 => exact rfl); (case n2q199 => exact rfl); (case n3q199 => first | exact rfl | (with_unfolding_all rfl) | decide | kernel_rfl))); (case ar200 => with_reducible exact ArgS.nil))))))))); (case b204 => with_reducible exact BdyS.nil))))))))))))))); (case b228 => ((with_reducible refine' BdyS.cons ?a227 ?b227); (case a227 => ((with_reducible refine' ExcS.satt 3 ?h215 ?g215 ?s215 ?a215 ?b215); (case h215 => (refine' ⟨?a1q211, ?a2q211, ?a3q211, ?a5q211⟩; (case a1q211 => k_is); (case a2q211 => k_is); (case a3q211 => k_is); (case a5q211 => (intros; rename some _ = some _ => h9; cases h9; with_unfolding_all rfl)))); (case g215 => (refine' ⟨?a1q212, ?a2q212, ?a3q212, ?a4q212, ?a5q212⟩; (case a1q212 => k_is); (case a2q212 => k_is); (case a3q212 => k_is); (case a5q212 => decide); (case a4q212 => (intros; rename List.set _ _ _ = _ => h9; (simp only [List.set_cons_succ, List.set_cons_zero, List.cons.injEq, and_true] at h9); (repeat (rename _ ∧ _ => h8; obtain ⟨h7, h8⟩ := h8; subst h7)); subst_vars; with_unfolding_all rfl)))); (case s215 => (intros; first | exact rfl | (with_unfolding_all rfl) | decide)); (case a215 => ((with_reducible refine' ExpS.name ?n1q213 ?n2q213 ?n3q213); (case n1q213 => exact rfl); (case n2q213 => exact rfl); (case n3q213 => first | exact rfl | (with_unfolding_all rfl) | decide | kernel_rfl))); (case b215 => ((with_reducible refine' ExpS.name ?n1q214 ?n2q214 ?n3q214); (case n1q214 => exact rfl); (case n2q214 => exact rfl); (case n3q214 => first | exact rfl | (with_unfolding_all rfl) | decide | kernel_rfl))))); (case b227 => ((with_reducible refine' BdyS.cons ?a226 ?b226); (case a226 => ((with_reducible refine' ExcS.aug 7 ?h220 ?g220 ?o220 ?a220 ?b220); (case h220 => (refine' ⟨?a1q216, ?a2q216, ?a3q216, ?a5q216⟩; (case a1q216 => k_is); (case a2q216 => k_is); (case a3q216 => k_is); (case a5q216 => (intros; rename some _ = some _ => h9; cases h9; with_unfolding_all rfl)))); (case g220 => (refine' ⟨?a1q217, ?a2q217, ?a3q217, ?a4q217, ?a5q217⟩; (case a1q217 => k_is); (case a2q217 => k_is); (case a3q217 => k_is); (case a5q217 => decide); (case a4q217 => (intros; rename List.set _ _ _ = _ => h9; (simp only [List.set_cons_succ, List.set_cons_zero, List.cons.injEq, and_true] at h9); (repeat (rename _ ∧ _ => h8; obtain ⟨h7, h8⟩ := h8; subst h7)); subst_vars; with_unfolding_all rfl)))); (case o220 => with_reducible exact aug_add); (case a220 => ((with_reducible refine' ExpS.int 1 ?r218); (case r218 => exact rfl))); (case b220 => ((with_reducible refine' ExpS.name ?n1q219 ?n2q219 ?n3q219); (case n1q219 => exact rfl); (case n2q219 => exact rfl); (case n3q219 => first | exact rfl | (with_unfolding_all rfl) | decide | kernel_rfl))))); (case b226 => ((with_reducible refine' BdyS.cons ?a225 ?b225); (case a225 => ((with_reducible refine' ExcS.ret ?a224); (case a224 => ((with_reducible refine' ExpS.bin ?o223 ?a223 ?b223); (case o223 => with_reducible exact BinS.sub); (case a223 => ((with_reducible refine' ExpS.name ?n1q221 ?n2q221 ?n3q221); (case n1q221 => exact rfl); (case n2q221 => exact rfl); (case n3q221 => first | exact rfl | (with_unfolding_all rfl) | decide | kernel_rfl))); (case b223 => ((with_reducible refine' ExpS.name ?n1q222 ?n2q222 ?n3q222); (case n1q222 => exact rfl); (case n2q222 => exact rfl); (case n3q222 => first | exact rfl | (with_unfolding_all rfl) | decide | kernel_rfl))))))); (case b225 => with_reducible exact BdyS.nil))))))))))))))
end
section
theorem alloc_t : ∀ n c, CallOk w mean mg mb zs c n → FnOk w mean mg mb zs (n + 1) 106 (fnW allocB 2 [] c) := by
  intro n c hc
  delta allocB
  refine' FnOk.plain (ps := [Str.ofString "space", Str.ofString "length"]) (nm := [(Str.ofString "space", false, 0), (Str.ofString "length", false, 1)]) (pad := []) ?ho ?hcd ?hb ?hp ?hn ?he ?hu ?co ?ge ?hk ?ce ?hW hc
  case ho => (first | exact rfl | with_unfolding_all rfl | k_is)
  case hcd => k_is
  case hb => (intro vs h; first | (rcases vs with _ | ⟨v0, _ | ⟨v1, _ | ⟨v2, vs⟩⟩⟩ <;> first | (exact rfl) | (simp at h; done)))
  case hp => decide
  case hn => decide
  case he => decide
  case hu => ((repeat (refine allU_cons ?_)); exact allU_nil)
  case co => rfl
  case ge => rfl
  case hk => rfl
  case ce => decide
  case hW => ((with_reducible refine' BdyS.cons ?a275 ?b275); (case a275 => ((with_reducible refine' ExcS.if ?t237 ?a237 ?b237); (case t237 => ((with_reducible refine' TstS.cmp ?o235 ?a235 ?b235 ?m235); (case o235 => with_reducible exact CmpS.gt); (case a235 => ((with_reducible refine' ExpS.name ?n1q232 ?n2q232 ?n3q232); (case n1q232 => exact rfl); (case n2q232 => exact rfl); (case n3q232 => first | exact rfl | (with_unfolding_all rfl) | decide | kernel_rfl))); (case b235 => ((with_reducible refine' ExpS.glob (i := 255) ?n234); (case n234 => (refine' NamS.glob ?nxq233 (by first | exact .inl rfl | exact .inr rfl) ?neq233 ?ndq233; (case nxq233 => k_is); (case neq233 => (intros; first | exact rfl | (with_unfolding_all rfl) | decide)); (case ndq233 => first | exact rfl | (with_unfolding_all rfl) | decide | kernel_rfl))))); (case m235 => first | exact rfl | (with_unfolding_all rfl) | decide | kernel_rfl))); (case a237 => ((with_reducible refine' BdyS.cons ?a236 ?b236); (case a236 => ((with_reducible show ExcS _ _ _ _ _ _ (PySem.Stmt.Raise _ _ _) _); exact ExcS.never)); (case b236 => with_reducible exact BdyS.nil))); (case b237 => with_reducible exact BdyS.nil))); (case b275 => ((with_reducible refine' BdyS.cons ?a274 ?b274); (case a274 => ((with_reducible refine' ExcS.if ?t250 ?a250 ?b250); (case t250 => ((with_reducible refine' TstS.cmp ?o243 ?a243 ?b243 ?m243); (case o243 => with_reducible exact CmpS.lt); (case a243 => ((with_reducible refine' ExpS.call ?x241 ?k241 ?a241); (case x241 => (refine' NamS.glob ?nxq238 (by first | exact .inl rfl | exact .inr rfl) ?neq238 ?ndq238; (case nxq238 => k_is); (case neq238 => (intros; first | exact rfl | (with_unfolding_all rfl) | decide)); (case ndq238 => first | exact rfl | (with_unfolding_all rfl) | decide | kernel_rfl))); (case k241 => k_is); (case a241 => ((with_reducible refine' ArgS.cons ?as240 ?ae240 ?ar240); (case as240 => exact fun _ _ => rfl); (case ae240 => ((with_reducible refine' ExpS.name ?n1q239 ?n2q239 ?n3q239); (case n1q239 => exact rfl); (case n2q239 => exact rfl); (case n3q239 => first | exact rfl | (with_unfolding_all rfl) | decide | kernel_rfl))); (case ar240 => with_reducible exact ArgS.nil))))); (case b243 => ((with_reducible refine' ExpS.name ?n1q242 ?n2q242 ?n3q242); (case n1q242 => exact rfl); (case n2q242 => exact rfl); (case n3q242 => first | exact rfl | (with_unfolding_all rfl) | decide | kernel_rfl))); (case m243 => first | exact rfl | (with_unfolding_all rfl) | decide | kernel_rfl))); (case a250 => ((with_reducible refine' BdyS.cons ?a249 ?b249); (case a249 => ((with_reducible refine' ExcS.expr ?a248 ?i248 ?s248); (case i248 => (intros; first | exact rfl | (with_unfolding_all rfl) | decide)); (case s248 => (intros; first | exact rfl | (with_unfolding_all rfl) | decide)); (case a248 => ((with_reducible refine' ExpS.call ?x247 ?k247 ?a247); (case x247 => (refine' NamS.glob ?nxq244 (by first | exact .inl rfl | exact .inr rfl) ?neq244 ?ndq244; (case nxq244 => k_is); (case neq244 => (intros; first | exact rfl | (with_unfolding_all rfl) | decide)); (case ndq244 => first | exact rfl | (with_unfolding_all rfl) | decide | kernel_rfl))); (case k247 => k_is); (case a247 => ((with_reducible refine' ArgS.cons ?as246 ?ae246 ?ar246); (case as246 => exact fun _ _ => rfl); (case ae246 => ((with_reducible refine' ExpS.name ?n1q245 ?n2q245 ?n3q245); (case n1q245 => exact rfl); (case n2q245 => exact rfl); (case n3q245 => first | exact rfl | (with_unfolding_all rfl) | decide | kernel_rfl))); (case ar246 => with_reducible exact ArgS.nil))))))); (case b249 => with_reducible exact BdyS.nil))); (case b250 => with_reducible exact BdyS.nil))); (case b274 => ((with_reducible refine' BdyS.cons ?a273 ?b273); (case a273 => ((with_reducible refine' ExcS.if ?t261 ?a261 ?b261); (case t261 => ((with_reducible refine' TstS.cmp ?o256 ?a256 ?b256 ?m256); (case o256 => with_reducible exact CmpS.lt); (case a256 => ((with_reducible refine' ExpS.call ?x254 ?k254 ?a254); (case x254 => (refine' NamS.glob ?nxq251 (by first | exact .inl rfl | exact .inr rfl) ?neq251 ?ndq251; (case nxq251 => k_is); (case neq251 => (intros; first | exact rfl | (with_unfolding_all rfl) | decide)); (case ndq251 => first | exact rfl | (with_unfolding_all rfl) | decide | kernel_rfl))); (case k254 => k_is); (case a254 => ((with_reducible refine' ArgS.cons ?as253 ?ae253 ?ar253); (case as253 => exact fun _ _ => rfl); (case ae253 => ((with_reducible refine' ExpS.name ?n1q252 ?n2q252 ?n3q252); (case n1q252 => exact rfl); (case n2q252 => exact rfl); (case n3q252 => first | exact rfl | (with_unfolding_all rfl) | decide | kernel_rfl))); (case ar253 => with_reducible exact ArgS.nil))))); (case b256 => ((with_reducible refine' ExpS.name ?n1q255 ?n2q255 ?n3q255); (case n1q255 => exact rfl); (case n2q255 => exact rfl); (case n3q255 => first | exact rfl | (with_unfolding_all rfl) | decide | kernel_rfl))); (case m256 => first | exact rfl | (with_unfolding_all rfl) | decide | kernel_rfl))); (case a261 => ((with_reducible refine' BdyS.cons ?a260 ?b260); (case a260 => ((with_reducible refine' ExcS.raise ?x259 ?k259 ?e259 ?h259); (case x259 => (refine' NamS.glob ?nxq257 (by first | exact .inl rfl | exact .inr rfl) ?neq257 ?ndq257; (case nxq257 => k_is); (case neq257 => (intros; first | exact rfl | (with_unfolding_all rfl) | decide)); (case ndq257 => first | exact rfl | (with_unfolding_all rfl) | decide | kernel_rfl))); (case k259 => k_is); (case h259 => exact fun _ _ => rfl); (case e259 => ((with_reducible refine' ExpS.name ?n1q258 ?n2q258 ?n3q258); (case n1q258 => exact rfl); (case n2q258 => exact rfl); (case n3q258 => first | exact rfl | (with_unfolding_all rfl) | decide | kernel_rfl))))); (case b260 => with_reducible exact BdyS.nil))); (case b261 => with_reducible exact BdyS.nil))); (case b273 => ((with_reducible refine' BdyS.cons ?a272 ?b272); (case a272 => ((with_reducible refine' ExcS.aug 3 ?h266 ?g266 ?o266 ?a266 ?b266); (case h266 => (refine' ⟨?a1q262, ?a2q262, ?a3q262, ?a5q262⟩; (case a1q262 => k_is); (case a2q262 => k_is); (case a3q262 => k_is); (case a5q262 => (intros; rename some _ = some _ => h9; cases h9; with_unfolding_all rfl)))); (case g266 => (refine' ⟨?a1q263, ?a2q263, ?a3q263, ?a4q263, ?a5q263⟩; (case a1q263 => k_is); (case a2q263 => k_is); (case a3q263 => k_is); (case a5q263 => decide); (case a4q263 => (intros; rename List.set _ _ _ = _ => h9; (simp only [List.set_cons_succ, List.set_cons_zero, List.cons.injEq, and_true] at h9); (repeat (rename _ ∧ _ => h8; obtain ⟨h7, h8⟩ := h8; subst h7)); subst_vars; with_unfolding_all rfl)))); (case o266 => with_reducible exact aug_sub); (case a266 => ((with_reducible refine' ExpS.name ?n1q264 ?n2q264 ?n3q264); (case n1q264 => exact rfl); (case n2q264 => exact rfl); (case n3q264 => first | exact rfl | (with_unfolding_all rfl) | decide | kernel_rfl))); (case b266 => ((with_reducible refine' ExpS.name ?n1q265 ?n2q265 ?n3q265); (case n1q265 => exact rfl); (case n2q265 => exact rfl); (case n3q265 => first | exact rfl | (with_unfolding_all rfl) | decide | kernel_rfl))))); (case b272 => ((with_reducible refine' BdyS.cons ?a271 ?b271); (case a271 => ((with_reducible refine' ExcS.ret ?a270); (case a270 => ((with_reducible refine' ExpS.attr 3 ?a269 ?h269); (case h269 => (refine' ⟨?a1q268, ?a2q268, ?a3q268, ?a5q268⟩; (case a1q268 => k_is); (case a2q268 => k_is); (case a3q268 => k_is); (case a5q268 => (intros; rename some _ = some _ => h9; cases h9; with_unfolding_all rfl)))); (case a269 => ((with_reducible refine' ExpS.name ?n1q267 ?n2q267 ?n3q267); (case n1q267 => exact rfl); (case n2q267 => exact rfl); (case n3q267 => first | exact rfl | (with_unfolding_all rfl) | decide | kernel_rfl))))))); (case b271 => with_reducible exact BdyS.nil))))))))))
end
section
theorem placed_t : ∀ n c, CallOk w mean mg mb zs c n → FnOk w mean mg mb zs (n + 1) 113 (fnW placedB 2 [.u] c) := by
  intro n c hc
  delta placedB
  refine' FnOk.plain (ps := [Str.ofString "space", Str.ofString "text"]) (nm := [(Str.ofString "space", false, 0), (Str.ofString "text", false, 1), (Str.ofString "at", false, 2)]) (pad := [.u]) ?ho ?hcd ?hb ?hp ?hn ?he ?hu ?co ?ge ?hk ?ce ?hW hc
  case ho => (first | exact rfl | with_unfolding_all rfl | k_is)
  case hcd => k_is
  case hb => (intro vs h; first | (rcases vs with _ | ⟨v0, _ | ⟨v1, _ | ⟨v2, vs⟩⟩⟩ <;> first | (exact rfl) | (simp at h; done)))
  case hp => decide
  case hn => decide
  case he => decide
  case hu => ((repeat (refine allU_cons ?_)); exact allU_nil)
  case co => rfl
  case ge => rfl
  case hk => rfl
  case ce => decide
  case hW => ((with_reducible refine' BdyS.cons ?a309 ?b309); (case a309 => ((with_reducible refine' ExcS.asg1 ?u285 ?y285 ?k285 ?s285 ?a285); (case y285 => exact rfl); (case u285 => first | exact rfl | (with_unfolding_all rfl) | decide | kernel_rfl); (case k285 => (intros; first | exact rfl | (with_unfolding_all rfl) | decide)); (case s285 => (intros; first | exact rfl | (with_unfolding_all rfl) | decide)); (case a285 => ((with_reducible refine' ExpS.call ?x284 ?k284 ?a284); (case x284 => (refine' NamS.glob ?nxq276 (by first | exact .inl rfl | exact .inr rfl) ?neq276 ?ndq276; (case nxq276 => k_is); (case neq276 => (intros; first | exact rfl | (with_unfolding_all rfl) | decide)); (case ndq276 => first | exact rfl | (with_unfolding_all rfl) | decide | kernel_rfl))); (case k284 => k_is); (case a284 => ((with_reducible refine' ArgS.cons ?as283 ?ae283 ?ar283); (case as283 => exact fun _ _ => rfl); (case ae283 => ((with_reducible refine' ExpS.name ?n1q277 ?n2q277 ?n3q277); (case n1q277 => exact rfl); (case n2q277 => exact rfl); (case n3q277 => first | exact rfl | (with_unfolding_all rfl) | decide | kernel_rfl))); (case ar283 => ((with_reducible refine' ArgS.cons ?as282 ?ae282 ?ar282); (case as282 => exact fun _ _ => rfl); (case ae282 => ((with_reducible refine' ExpS.fn ?x281 ?o281 ?a281); (case x281 => (refine' NamS.blt ?nxq278 ?nbq278 ?nnq278 ?neq278 ?ndq278; (case nxq278 => k_is); (case nbq278 => first | boot_by_name | rfl | kernel_rfl | boot_fast); (case nnq278 => decide); (case neq278 => (intros; first | exact rfl | (with_unfolding_all rfl) | decide)); (case ndq278 => first | exact rfl | (with_unfolding_all rfl) | decide | kernel_rfl))); (case o281 => with_reducible exact FunS.len); (case a281 => ((with_reducible refine' ArgS.cons ?as280 ?ae280 ?ar280); (case as280 => exact fun _ _ => rfl); (case ae280 => ((with_reducible refine' ExpS.name ?n1q279 ?n2q279 ?n3q279); (case n1q279 => exact rfl); (case n2q279 => exact rfl); (case n3q279 => first | exact rfl | (with_unfolding_all rfl) | decide | kernel_rfl))); (case ar280 => with_reducible exact ArgS.nil))))); (case ar282 => with_reducible exact ArgS.nil))))))))); (case b309 => ((with_reducible refine' BdyS.cons ?a308 ?b308); (case a308 => ((with_reducible refine' ExcS.expr ?a297 ?i297 ?s297); (case i297 => (intros; first | exact rfl | (with_unfolding_all rfl) | decide)); (case s297 => (intros; first | exact rfl | (with_unfolding_all rfl) | decide)); (case a297 => ((with_reducible refine' ExpS.call ?x296 ?k296 ?a296); (case x296 => (refine' NamS.glob ?nxq286 (by first | exact .inl rfl | exact .inr rfl) ?neq286 ?ndq286; (case nxq286 => k_is); (case neq286 => (intros; first | exact rfl | (with_unfolding_all rfl) | decide)); (case ndq286 => first | exact rfl | (with_unfolding_all rfl) | decide | kernel_rfl))); (case k296 => k_is); (case a296 => ((with_reducible refine' ArgS.cons ?as295 ?ae295 ?ar295); (case as295 => exact fun _ _ => rfl); (case ae295 => ((with_reducible refine' ExpS.name ?n1q287 ?n2q287 ?n3q287); (case n1q287 => exact rfl); (case n2q287 => exact rfl); (case n3q287 => first | exact rfl | (with_unfolding_all rfl) | decide | kernel_rfl))); (case ar295 => ((with_reducible refine' ArgS.cons ?as294 ?ae294 ?ar294); (case as294 => exact fun _ _ => rfl); (case ae294 => ((with_reducible refine' ExpS.name ?n1q288 ?n2q288 ?n3q288); (case n1q288 => exact rfl); (case n2q288 => exact rfl); (case n3q288 => first | exact rfl | (with_unfolding_all rfl) | decide | kernel_rfl))); (case ar294 => ((with_reducible refine' ArgS.cons ?as293 ?ae293 ?ar293); (case as293 => exact fun _ _ => rfl); (case ae293 => ((with_reducible refine' ExpS.call ?x292 ?k292 ?a292); (case x292 => (refine' NamS.glob ?nxq289 (by first | exact .inl rfl | exact .inr rfl) ?neq289 ?ndq289; (case nxq289 => k_is); (case neq289 => (intros; first | exact rfl | (with_unfolding_all rfl) | decide)); (case ndq289 => first | exact rfl | (with_unfolding_all rfl) | decide | kernel_rfl))); (case k292 => k_is); (case a292 => ((with_reducible refine' ArgS.cons ?as291 ?ae291 ?ar291); (case as291 => exact fun _ _ => rfl); (case ae291 => ((with_reducible refine' ExpS.name ?n1q290 ?n2q290 ?n3q290); (case n1q290 => exact rfl); (case n2q290 => exact rfl); (case n3q290 => first | exact rfl | (with_unfolding_all rfl) | decide | kernel_rfl))); (case ar291 => with_reducible exact ArgS.nil))))); (case ar293 => with_reducible exact ArgS.nil))))))))))); (case b308 => ((with_reducible refine' BdyS.cons ?a307 ?b307); (case a307 => ((with_reducible refine' ExcS.ret ?a306); (case a306 => ((with_reducible refine' ExpS.list ?a305 ?h305); (case a305 => ((with_reducible refine' ArgS.cons ?as304 ?ae304 ?ar304); (case as304 => exact fun _ _ => rfl); (case ae304 => ((with_reducible refine' ExpS.name ?n1q298 ?n2q298 ?n3q298); (case n1q298 => exact rfl); (case n2q298 => exact rfl); (case n3q298 => first | exact rfl | (with_unfolding_all rfl) | decide | kernel_rfl))); (case ar304 => ((with_reducible refine' ArgS.cons ?as303 ?ae303 ?ar303); (case as303 => exact fun _ _ => rfl); (case ae303 => ((with_reducible refine' ExpS.fn ?x302 ?o302 ?a302); (case x302 => (refine' NamS.blt ?nxq299 ?nbq299 ?nnq299 ?neq299 ?ndq299; (case nxq299 => k_is); (case nbq299 => first | boot_by_name | rfl | kernel_rfl | boot_fast); (case nnq299 => decide); (case neq299 => (intros; first | exact rfl | (with_unfolding_all rfl) | decide)); (case ndq299 => first | exact rfl | (with_unfolding_all rfl) | decide | kernel_rfl))); (case o302 => with_reducible exact FunS.len); (case a302 => ((with_reducible refine' ArgS.cons ?as301 ?ae301 ?ar301); (case as301 => exact fun _ _ => rfl); (case ae301 => ((with_reducible refine' ExpS.name ?n1q300 ?n2q300 ?n3q300); (case n1q300 => exact rfl); (case n2q300 => exact rfl); (case n3q300 => first | exact rfl | (with_unfolding_all rfl) | decide | kernel_rfl))); (case ar301 => with_reducible exact ArgS.nil))))); (case ar303 => with_reducible exact ArgS.nil))))); (case h305 => exact Nat.le_of_ble_eq_true rfl))))); (case b307 => with_reducible exact BdyS.nil))))))
end
section
theorem push_t : ∀ n c, CallOk w mean mg mb zs c n → FnOk w mean mg mb zs (n + 1) 120 (fnW pushB 2 [] c) := by
  intro n c hc
  delta pushB
  refine' FnOk.plain (ps := [Str.ofString "space", Str.ofString "text"]) (nm := [(Str.ofString "space", false, 0), (Str.ofString "text", false, 1)]) (pad := []) ?ho ?hcd ?hb ?hp ?hn ?he ?hu ?co ?ge ?hk ?ce ?hW hc
  case ho => (first | exact rfl | with_unfolding_all rfl | k_is)
  case hcd => k_is
  case hb => (intro vs h; first | (rcases vs with _ | ⟨v0, _ | ⟨v1, _ | ⟨v2, vs⟩⟩⟩ <;> first | (exact rfl) | (simp at h; done)))
  case hp => decide
  case hn => decide
  case he => decide
  case hu => ((repeat (refine allU_cons ?_)); exact allU_nil)
  case co => rfl
  case ge => rfl
  case hk => rfl
  case ce => decide
  case hW => ((with_reducible refine' BdyS.cons ?a334 ?b334); (case a334 => ((with_reducible refine' ExcS.if ?t321 ?a321 ?b321); (case t321 => ((with_reducible refine' TstS.cmp ?o319 ?a319 ?b319 ?m319); (case o319 => with_reducible exact CmpS.ge); (case a319 => ((with_reducible refine' ExpS.fn ?x315 ?o315 ?a315); (case x315 => (refine' NamS.blt ?nxq310 ?nbq310 ?nnq310 ?neq310 ?ndq310; (case nxq310 => k_is); (case nbq310 => first | boot_by_name | rfl | kernel_rfl | boot_fast); (case nnq310 => decide); (case neq310 => (intros; first | exact rfl | (with_unfolding_all rfl) | decide)); (case ndq310 => first | exact rfl | (with_unfolding_all rfl) | decide | kernel_rfl))); (case o315 => with_reducible exact FunS.len); (case a315 => ((with_reducible refine' ArgS.cons ?as314 ?ae314 ?ar314); (case as314 => exact fun _ _ => rfl); (case ae314 => ((with_reducible refine' ExpS.attr 5 ?a313 ?h313); (case h313 => (refine' ⟨?a1q312, ?a2q312, ?a3q312, ?a5q312⟩; (case a1q312 => k_is); (case a2q312 => k_is); (case a3q312 => k_is); (case a5q312 => (intros; rename some _ = some _ => h9; cases h9; with_unfolding_all rfl)))); (case a313 => ((with_reducible refine' ExpS.name ?n1q311 ?n2q311 ?n3q311); (case n1q311 => exact rfl); (case n2q311 => exact rfl); (case n3q311 => first | exact rfl | (with_unfolding_all rfl) | decide | kernel_rfl))))); (case ar314 => with_reducible exact ArgS.nil))))); (case b319 => ((with_reducible refine' ExpS.attr 6 ?a318 ?h318); (case h318 => (refine' ⟨?a1q317, ?a2q317, ?a3q317, ?a5q317⟩; (case a1q317 => k_is); (case a2q317 => k_is); (case a3q317 => k_is); (case a5q317 => (intros; rename some _ = some _ => h9; cases h9; with_unfolding_all rfl)))); (case a318 => ((with_reducible refine' ExpS.name ?n1q316 ?n2q316 ?n3q316); (case n1q316 => exact rfl); (case n2q316 => exact rfl); (case n3q316 => first | exact rfl | (with_unfolding_all rfl) | decide | kernel_rfl))))); (case m319 => first | exact rfl | (with_unfolding_all rfl) | decide | kernel_rfl))); (case a321 => ((with_reducible refine' BdyS.cons ?a320 ?b320); (case a320 => ((with_reducible show ExcS _ _ _ _ _ _ (PySem.Stmt.Raise _ _ _) _); exact ExcS.never)); (case b320 => with_reducible exact BdyS.nil))); (case b321 => with_reducible exact BdyS.nil))); (case b334 => ((with_reducible refine' BdyS.cons ?a333 ?b333); (case a333 => ((with_reducible refine' ExcS.expr ?a332 ?i332 ?s332); (case i332 => (intros; first | exact rfl | (with_unfolding_all rfl) | decide)); (case s332 => (intros; first | exact rfl | (with_unfolding_all rfl) | decide)); (case a332 => ((with_reducible refine' ExpS.append ?a331 ?b331 ?h331 ?m331); (case h331 => exact fun _ _ => rfl); (case m331 => exact fun _ => ⟨_, rfl⟩); (case a331 => ((with_reducible refine' ExpS.attr 5 ?a324 ?h324); (case h324 => (refine' ⟨?a1q323, ?a2q323, ?a3q323, ?a5q323⟩; (case a1q323 => k_is); (case a2q323 => k_is); (case a3q323 => k_is); (case a5q323 => (intros; rename some _ = some _ => h9; cases h9; with_unfolding_all rfl)))); (case a324 => ((with_reducible refine' ExpS.name ?n1q322 ?n2q322 ?n3q322); (case n1q322 => exact rfl); (case n2q322 => exact rfl); (case n3q322 => first | exact rfl | (with_unfolding_all rfl) | decide | kernel_rfl))))); (case b331 => ((with_reducible refine' ExpS.call ?x330 ?k330 ?a330); (case x330 => (refine' NamS.glob ?nxq325 (by first | exact .inl rfl | exact .inr rfl) ?neq325 ?ndq325; (case nxq325 => k_is); (case neq325 => (intros; first | exact rfl | (with_unfolding_all rfl) | decide)); (case ndq325 => first | exact rfl | (with_unfolding_all rfl) | decide | kernel_rfl))); (case k330 => k_is); (case a330 => ((with_reducible refine' ArgS.cons ?as329 ?ae329 ?ar329); (case as329 => exact fun _ _ => rfl); (case ae329 => ((with_reducible refine' ExpS.name ?n1q326 ?n2q326 ?n3q326); (case n1q326 => exact rfl); (case n2q326 => exact rfl); (case n3q326 => first | exact rfl | (with_unfolding_all rfl) | decide | kernel_rfl))); (case ar329 => ((with_reducible refine' ArgS.cons ?as328 ?ae328 ?ar328); (case as328 => exact fun _ _ => rfl); (case ae328 => ((with_reducible refine' ExpS.name ?n1q327 ?n2q327 ?n3q327); (case n1q327 => exact rfl); (case n2q327 => exact rfl); (case n3q327 => first | exact rfl | (with_unfolding_all rfl) | decide | kernel_rfl))); (case ar328 => with_reducible exact ArgS.nil))))))))))); (case b333 => with_reducible exact BdyS.nil))))
end
section
theorem joinw_t : ∀ n c, CallOk w mean mg mb zs c n → FnOk w mean mg mb zs (n + 1) 127 (fnW joinwB 1 [.u, .u, .u] c) := by
  intro n c hc
  delta joinwB
  refine' FnOk.plain (ps := [Str.ofString "space"]) (nm := [(Str.ofString "space", false, 0), (Str.ofString "other", false, 1), (Str.ofString "one", false, 2), (Str.ofString "at", false, 3)]) (pad := [.u, .u, .u]) ?ho ?hcd ?hb ?hp ?hn ?he ?hu ?co ?ge ?hk ?ce ?hW hc
  case ho => (first | exact rfl | with_unfolding_all rfl | k_is)
  case hcd => k_is
  case hb => (intro vs h; first | (rcases vs with _ | ⟨v0, _ | ⟨v1, vs⟩⟩ <;> first | (exact rfl) | (simp at h; done)))
  case hp => decide
  case hn => decide
  case he => decide
  case hu => ((repeat (refine allU_cons ?_)); exact allU_nil)
  case co => rfl
  case ge => rfl
  case hk => rfl
  case ce => decide
  case hW => ((with_reducible refine' BdyS.cons ?a417 ?b417); (case a417 => ((with_reducible refine' ExcS.swp2 ?u346 ?y346 ?k346 ?v346 ?z346 ?l346 ?s346 ?r346 ?a346); (case s346 => (intros; first | exact rfl | (with_unfolding_all rfl) | decide)); (case r346 => (intros; first | exact rfl | (with_unfolding_all rfl) | decide)); (case y346 => exact rfl); (case z346 => exact rfl); (case u346 => first | exact rfl | (with_unfolding_all rfl) | decide | kernel_rfl); (case v346 => first | exact rfl | (with_unfolding_all rfl) | decide | kernel_rfl); (case k346 => (intros; first | exact rfl | (with_unfolding_all rfl) | decide)); (case l346 => (intros; first | exact rfl | (with_unfolding_all rfl) | decide)); (case a346 => ((with_reducible refine' ExpS.tup ?a345 ?h345); (case a345 => ((with_reducible refine' ArgS.cons ?as344 ?ae344 ?ar344); (case as344 => exact fun _ _ => rfl); (case ae344 => ((with_reducible refine' ExpS.last 1 ?l338 ?q338 ?a338); (case l338 => decide); (case q338 => exact rfl); (case a338 => ((with_reducible refine' ExpS.attr 5 ?a337 ?h337); (case h337 => (refine' ⟨?a1q336, ?a2q336, ?a3q336, ?a5q336⟩; (case a1q336 => k_is); (case a2q336 => k_is); (case a3q336 => k_is); (case a5q336 => (intros; rename some _ = some _ => h9; cases h9; with_unfolding_all rfl)))); (case a337 => ((with_reducible refine' ExpS.name ?n1q335 ?n2q335 ?n3q335); (case n1q335 => exact rfl); (case n2q335 => exact rfl); (case n3q335 => first | exact rfl | (with_unfolding_all rfl) | decide | kernel_rfl))))))); (case ar344 => ((with_reducible refine' ArgS.cons ?as343 ?ae343 ?ar343); (case as343 => exact fun _ _ => rfl); (case ae343 => ((with_reducible refine' ExpS.last 2 ?l342 ?q342 ?a342); (case l342 => decide); (case q342 => exact rfl); (case a342 => ((with_reducible refine' ExpS.attr 5 ?a341 ?h341); (case h341 => (refine' ⟨?a1q340, ?a2q340, ?a3q340, ?a5q340⟩; (case a1q340 => k_is); (case a2q340 => k_is); (case a3q340 => k_is); (case a5q340 => (intros; rename some _ = some _ => h9; cases h9; with_unfolding_all rfl)))); (case a341 => ((with_reducible refine' ExpS.name ?n1q339 ?n2q339 ?n3q339); (case n1q339 => exact rfl); (case n2q339 => exact rfl); (case n3q339 => first | exact rfl | (with_unfolding_all rfl) | decide | kernel_rfl))))))); (case ar343 => with_reducible exact ArgS.nil))))); (case h345 => exact Nat.le_of_ble_eq_true rfl))))); (case b417 => ((with_reducible refine' BdyS.cons ?a416 ?b416); (case a416 => ((with_reducible refine' ExcS.if ?t358 ?a358 ?b358); (case t358 => ((with_reducible refine' TstS.cmp ?o356 ?a356 ?b356 ?m356); (case o356 => with_reducible exact CmpS.gt); (case a356 => ((with_reducible refine' ExpS.bin ?o353 ?a353 ?b353); (case o353 => with_reducible exact BinS.add); (case a353 => ((with_reducible refine' ExpS.item ?a349 ?b349 ?h349); (case a349 => ((with_reducible refine' ExpS.name ?n1q347 ?n2q347 ?n3q347); (case n1q347 => exact rfl); (case n2q347 => exact rfl); (case n3q347 => first | exact rfl | (with_unfolding_all rfl) | decide | kernel_rfl))); (case h349 => exact fun _ _ => rfl); (case b349 => ((with_reducible refine' ExpS.int 1 ?r348); (case r348 => exact rfl))))); (case b353 => ((with_reducible refine' ExpS.item ?a352 ?b352 ?h352); (case a352 => ((with_reducible refine' ExpS.name ?n1q350 ?n2q350 ?n3q350); (case n1q350 => exact rfl); (case n2q350 => exact rfl); (case n3q350 => first | exact rfl | (with_unfolding_all rfl) | decide | kernel_rfl))); (case h352 => exact fun _ _ => rfl); (case b352 => ((with_reducible refine' ExpS.int 1 ?r351); (case r351 => exact rfl))))))); (case b356 => ((with_reducible refine' ExpS.glob (i := 255) ?n355); (case n355 => (refine' NamS.glob ?nxq354 (by first | exact .inl rfl | exact .inr rfl) ?neq354 ?ndq354; (case nxq354 => k_is); (case neq354 => (intros; first | exact rfl | (with_unfolding_all rfl) | decide)); (case ndq354 => first | exact rfl | (with_unfolding_all rfl) | decide | kernel_rfl))))); (case m356 => first | exact rfl | (with_unfolding_all rfl) | decide | kernel_rfl))); (case a358 => ((with_reducible refine' BdyS.cons ?a357 ?b357); (case a357 => ((with_reducible show ExcS _ _ _ _ _ _ (PySem.Stmt.Raise _ _ _) _); exact ExcS.never)); (case b357 => with_reducible exact BdyS.nil))); (case b358 => with_reducible exact BdyS.nil))); (case b416 => ((with_reducible refine' BdyS.cons ?a415 ?b415); (case a415 => ((with_reducible refine' ExcS.asg1 ?u371 ?y371 ?k371 ?s371 ?a371); (case y371 => exact rfl); (case u371 => first | exact rfl | (with_unfolding_all rfl) | decide | kernel_rfl); (case k371 => (intros; first | exact rfl | (with_unfolding_all rfl) | decide)); (case s371 => (intros; first | exact rfl | (with_unfolding_all rfl) | decide)); (case a371 => ((with_reducible refine' ExpS.call ?x370 ?k370 ?a370); (case x370 => (refine' NamS.glob ?nxq359 (by first | exact .inl rfl | exact .inr rfl) ?neq359 ?ndq359; (case nxq359 => k_is); (case neq359 => (intros; first | exact rfl | (with_unfolding_all rfl) | decide)); (case ndq359 => first | exact rfl | (with_unfolding_all rfl) | decide | kernel_rfl))); (case k370 => k_is); (case a370 => ((with_reducible refine' ArgS.cons ?as369 ?ae369 ?ar369); (case as369 => exact fun _ _ => rfl); (case ae369 => ((with_reducible refine' ExpS.name ?n1q360 ?n2q360 ?n3q360); (case n1q360 => exact rfl); (case n2q360 => exact rfl); (case n3q360 => first | exact rfl | (with_unfolding_all rfl) | decide | kernel_rfl))); (case ar369 => ((with_reducible refine' ArgS.cons ?as368 ?ae368 ?ar368); (case as368 => exact fun _ _ => rfl); (case ae368 => ((with_reducible refine' ExpS.bin ?o367 ?a367 ?b367); (case o367 => with_reducible exact BinS.add); (case a367 => ((with_reducible refine' ExpS.item ?a363 ?b363 ?h363); (case a363 => ((with_reducible refine' ExpS.name ?n1q361 ?n2q361 ?n3q361); (case n1q361 => exact rfl); (case n2q361 => exact rfl); (case n3q361 => first | exact rfl | (with_unfolding_all rfl) | decide | kernel_rfl))); (case h363 => exact fun _ _ => rfl); (case b363 => ((with_reducible refine' ExpS.int 1 ?r362); (case r362 => exact rfl))))); (case b367 => ((with_reducible refine' ExpS.item ?a366 ?b366 ?h366); (case a366 => ((with_reducible refine' ExpS.name ?n1q364 ?n2q364 ?n3q364); (case n1q364 => exact rfl); (case n2q364 => exact rfl); (case n3q364 => first | exact rfl | (with_unfolding_all rfl) | decide | kernel_rfl))); (case h366 => exact fun _ _ => rfl); (case b366 => ((with_reducible refine' ExpS.int 1 ?r365); (case r365 => exact rfl))))))); (case ar368 => with_reducible exact ArgS.nil))))))))); (case b415 => ((with_reducible refine' BdyS.cons ?a414 ?b414); (case a414 => ((with_reducible refine' ExcS.expr ?a395 ?i395 ?s395); (case i395 => (intros; first | exact rfl | (with_unfolding_all rfl) | decide)); (case s395 => (intros; first | exact rfl | (with_unfolding_all rfl) | decide)); (case a395 => ((with_reducible refine' ExpS.call ?x394 ?k394 ?a394); (case x394 => (refine' NamS.glob ?nxq372 (by first | exact .inl rfl | exact .inr rfl) ?neq372 ?ndq372; (case nxq372 => k_is); (case neq372 => (intros; first | exact rfl | (with_unfolding_all rfl) | decide)); (case ndq372 => first | exact rfl | (with_unfolding_all rfl) | decide | kernel_rfl))); (case k394 => k_is); (case a394 => ((with_reducible refine' ArgS.cons ?as393 ?ae393 ?ar393); (case as393 => exact fun _ _ => rfl); (case ae393 => ((with_reducible refine' ExpS.name ?n1q373 ?n2q373 ?n3q373); (case n1q373 => exact rfl); (case n2q373 => exact rfl); (case n3q373 => first | exact rfl | (with_unfolding_all rfl) | decide | kernel_rfl))); (case ar393 => ((with_reducible refine' ArgS.cons ?as392 ?ae392 ?ar392); (case as392 => exact fun _ _ => rfl); (case ae392 => ((with_reducible refine' ExpS.name ?n1q374 ?n2q374 ?n3q374); (case n1q374 => exact rfl); (case n2q374 => exact rfl); (case n3q374 => first | exact rfl | (with_unfolding_all rfl) | decide | kernel_rfl))); (case ar392 => ((with_reducible refine' ArgS.cons ?as391 ?ae391 ?ar391); (case as391 => exact fun _ _ => rfl); (case ae391 => ((with_reducible refine' ExpS.call ?x390 ?k390 ?a390); (case x390 => (refine' NamS.glob ?nxq375 (by first | exact .inl rfl | exact .inr rfl) ?neq375 ?ndq375; (case nxq375 => k_is); (case neq375 => (intros; first | exact rfl | (with_unfolding_all rfl) | decide)); (case ndq375 => first | exact rfl | (with_unfolding_all rfl) | decide | kernel_rfl))); (case k390 => k_is); (case a390 => ((with_reducible refine' ArgS.cons ?as389 ?ae389 ?ar389); (case as389 => exact fun _ _ => rfl); (case ae389 => ((with_reducible refine' ExpS.bin ?o388 ?a388 ?b388); (case o388 => with_reducible exact BinS.add); (case a388 => ((with_reducible refine' ExpS.call ?x381 ?k381 ?a381); (case x381 => (refine' NamS.glob ?nxq376 (by first | exact .inl rfl | exact .inr rfl) ?neq376 ?ndq376; (case nxq376 => k_is); (case neq376 => (intros; first | exact rfl | (with_unfolding_all rfl) | decide)); (case ndq376 => first | exact rfl | (with_unfolding_all rfl) | decide | kernel_rfl))); (case k381 => k_is); (case a381 => ((with_reducible refine' ArgS.cons ?as380 ?ae380 ?ar380); (case as380 => exact fun _ _ => rfl); (case ae380 => ((with_reducible refine' ExpS.name ?n1q377 ?n2q377 ?n3q377); (case n1q377 => exact rfl); (case n2q377 => exact rfl); (case n3q377 => first | exact rfl | (with_unfolding_all rfl) | decide | kernel_rfl))); (case ar380 => ((with_reducible refine' ArgS.cons ?as379 ?ae379 ?ar379); (case as379 => exact fun _ _ => rfl); (case ae379 => ((with_reducible refine' ExpS.name ?n1q378 ?n2q378 ?n3q378); (case n1q378 => exact rfl); (case n2q378 => exact rfl); (case n3q378 => first | exact rfl | (with_unfolding_all rfl) | decide | kernel_rfl))); (case ar379 => with_reducible exact ArgS.nil))))))); (case b388 => ((with_reducible refine' ExpS.call ?x387 ?k387 ?a387); (case x387 => (refine' NamS.glob ?nxq382 (by first | exact .inl rfl | exact .inr rfl) ?neq382 ?ndq382; (case nxq382 => k_is); (case neq382 => (intros; first | exact rfl | (with_unfolding_all rfl) | decide)); (case ndq382 => first | exact rfl | (with_unfolding_all rfl) | decide | kernel_rfl))); (case k387 => k_is); (case a387 => ((with_reducible refine' ArgS.cons ?as386 ?ae386 ?ar386); (case as386 => exact fun _ _ => rfl); (case ae386 => ((with_reducible refine' ExpS.name ?n1q383 ?n2q383 ?n3q383); (case n1q383 => exact rfl); (case n2q383 => exact rfl); (case n3q383 => first | exact rfl | (with_unfolding_all rfl) | decide | kernel_rfl))); (case ar386 => ((with_reducible refine' ArgS.cons ?as385 ?ae385 ?ar385); (case as385 => exact fun _ _ => rfl); (case ae385 => ((with_reducible refine' ExpS.name ?n1q384 ?n2q384 ?n3q384); (case n1q384 => exact rfl); (case n2q384 => exact rfl); (case n3q384 => first | exact rfl | (with_unfolding_all rfl) | decide | kernel_rfl))); (case ar385 => with_reducible exact ArgS.nil))))))))); (case ar389 => with_reducible exact ArgS.nil))))); (case ar391 => with_reducible exact ArgS.nil))))))))))); (case b414 => ((with_reducible refine' BdyS.cons ?a413 ?b413); (case a413 => ((with_reducible refine' ExcS.sneg ?s412 ?a412 ?b412); (case s412 => (intros; first | exact rfl | (with_unfolding_all rfl) | decide)); (case a412 => ((with_reducible refine' ExpS.list ?a408 ?h408); (case a408 => ((with_reducible refine' ArgS.cons ?as407 ?ae407 ?ar407); (case as407 => exact fun _ _ => rfl); (case ae407 => ((with_reducible refine' ExpS.list ?a406 ?h406); (case a406 => ((with_reducible refine' ArgS.cons ?as405 ?ae405 ?ar405); (case as405 => exact fun _ _ => rfl); (case ae405 => ((with_reducible refine' ExpS.name ?n1q396 ?n2q396 ?n3q396); (case n1q396 => exact rfl); (case n2q396 => exact rfl); (case n3q396 => first | exact rfl | (with_unfolding_all rfl) | decide | kernel_rfl))); (case ar405 => ((with_reducible refine' ArgS.cons ?as404 ?ae404 ?ar404); (case as404 => exact fun _ _ => rfl); (case ae404 => ((with_reducible refine' ExpS.bin ?o403 ?a403 ?b403); (case o403 => with_reducible exact BinS.add); (case a403 => ((with_reducible refine' ExpS.item ?a399 ?b399 ?h399); (case a399 => ((with_reducible refine' ExpS.name ?n1q397 ?n2q397 ?n3q397); (case n1q397 => exact rfl); (case n2q397 => exact rfl); (case n3q397 => first | exact rfl | (with_unfolding_all rfl) | decide | kernel_rfl))); (case h399 => exact fun _ _ => rfl); (case b399 => ((with_reducible refine' ExpS.int 1 ?r398); (case r398 => exact rfl))))); (case b403 => ((with_reducible refine' ExpS.item ?a402 ?b402 ?h402); (case a402 => ((with_reducible refine' ExpS.name ?n1q400 ?n2q400 ?n3q400); (case n1q400 => exact rfl); (case n2q400 => exact rfl); (case n3q400 => first | exact rfl | (with_unfolding_all rfl) | decide | kernel_rfl))); (case h402 => exact fun _ _ => rfl); (case b402 => ((with_reducible refine' ExpS.int 1 ?r401); (case r401 => exact rfl))))))); (case ar404 => with_reducible exact ArgS.nil))))); (case h406 => exact Nat.le_of_ble_eq_true rfl))); (case ar407 => with_reducible exact ArgS.nil))); (case h408 => exact Nat.le_of_ble_eq_true rfl))); (case b412 => ((with_reducible refine' ExpS.attr 5 ?a411 ?h411); (case h411 => (refine' ⟨?a1q410, ?a2q410, ?a3q410, ?a5q410⟩; (case a1q410 => k_is); (case a2q410 => k_is); (case a3q410 => k_is); (case a5q410 => (intros; rename some _ = some _ => h9; cases h9; with_unfolding_all rfl)))); (case a411 => ((with_reducible refine' ExpS.name ?n1q409 ?n2q409 ?n3q409); (case n1q409 => exact rfl); (case n2q409 => exact rfl); (case n3q409 => first | exact rfl | (with_unfolding_all rfl) | decide | kernel_rfl))))))); (case b413 => with_reducible exact BdyS.nil))))))))))
end
section
theorem sound_t : ∀ n c, CallOk w mean mg mb zs c n → FnOk w mean mg mb zs (n + 1) 132 (fnW soundB 1 [.u, .u, .u, .u, .u] c) := by
  intro n c hc
  delta soundB
  refine' FnOk.plain (ps := [Str.ofString "space"]) (nm := [(Str.ofString "space", false, 0), (Str.ofString "found", false, 1), (Str.ofString "at", false, 2), (Str.ofString "begin", false, 3), (Str.ofString "end", false, 4)]) (pad := [.u, .u, .u, .u, .u]) ?ho ?hcd ?hb ?hp ?hn ?he ?hu ?co ?ge ?hk ?ce ?hW hc
  case ho => (first | exact rfl | with_unfolding_all rfl | k_is)
  case hcd => k_is
  case hb => (intro vs h; first | (rcases vs with _ | ⟨v0, _ | ⟨v1, vs⟩⟩ <;> first | (exact rfl) | (simp at h; done)))
  case hp => decide
  case hn => decide
  case he => decide
  case hu => ((repeat (refine allU_cons ?_)); exact allU_nil)
  case co => rfl
  case ge => rfl
  case hk => rfl
  case ce => decide
  case hW => ((with_reducible refine' BdyS.cons ?a493 ?b493); (case a493 => ((with_reducible refine' ExcS.asg1 ?u440 ?y440 ?k440 ?s440 ?a440); (case y440 => exact rfl); (case u440 => first | exact rfl | (with_unfolding_all rfl) | decide | kernel_rfl); (case k440 => (intros; first | exact rfl | (with_unfolding_all rfl) | decide)); (case s440 => (intros; first | exact rfl | (with_unfolding_all rfl) | decide)); (case a440 => ((with_reducible refine' ExpS.fn ?x439 ?o439 ?a439); (case x439 => (refine' NamS.blt ?nxq418 ?nbq418 ?nnq418 ?neq418 ?ndq418; (case nxq418 => k_is); (case nbq418 => first | boot_by_name | rfl | kernel_rfl | boot_fast); (case nnq418 => decide); (case neq418 => (intros; first | exact rfl | (with_unfolding_all rfl) | decide)); (case ndq418 => first | exact rfl | (with_unfolding_all rfl) | decide | kernel_rfl))); (case o439 => with_reducible exact FunS.sorted); (case a439 => ((with_reducible refine' ArgS.cons ?as438 ?ae438 ?ar438); (case as438 => exact fun _ _ => rfl); (case ae438 => ((with_reducible refine' ExpS.compL (i := _) ?k437 ?s437 ?h437 ?a437 ?b437); (case k437 => first | exact CapS.no fun _ => rfl | (refine' CapS.one ?kq419 ?nq419 ?xq419 ?jq419; (case kq419 => exact rfl); (case nq419 => exact rfl); (case xq419 => decide); (case jq419 => decide))); (case s437 => exact ⟨by decide, rfl, by decide, rfl⟩); (case h437 => exact fun _ _ => rfl); (case a437 => ((with_reducible refine' ExpS.call ?x423 ?k423 ?a423); (case x423 => (refine' NamS.glob ?nxq420 (by first | exact .inl rfl | exact .inr rfl) ?neq420 ?ndq420; (case nxq420 => k_is); (case neq420 => (intros; first | exact rfl | (with_unfolding_all rfl) | decide)); (case ndq420 => first | exact rfl | (with_unfolding_all rfl) | decide | kernel_rfl))); (case k423 => k_is); (case a423 => ((with_reducible refine' ArgS.cons ?as422 ?ae422 ?ar422); (case as422 => exact fun _ _ => rfl); (case ae422 => ((with_reducible refine' ExpS.name ?n1q421 ?n2q421 ?n3q421); (case n1q421 => exact rfl); (case n2q421 => exact rfl); (case n3q421 => first | exact rfl | (with_unfolding_all rfl) | decide | kernel_rfl))); (case ar422 => with_reducible exact ArgS.nil))))); (case b437 => ((with_reducible refine' ExpS.tup ?a436 ?h436); (case a436 => ((with_reducible refine' ArgS.cons ?as435 ?ae435 ?ar435); (case as435 => exact fun _ _ => rfl); (case ae435 => ((with_reducible refine' ExpS.item ?a426 ?b426 ?h426); (case a426 => ((with_reducible refine' ExpS.nameB ?n1q424 ?n4q424 ?n2q424 ?n3q424); (case n1q424 => exact rfl); (case n4q424 => exact rfl); (case n2q424 => (intros; first | exact rfl | (with_unfolding_all rfl) | decide)); (case n3q424 => first | exact rfl | (with_unfolding_all rfl) | decide | kernel_rfl))); (case h426 => exact fun _ _ => rfl); (case b426 => ((with_reducible refine' ExpS.int 0 ?r425); (case r425 => exact rfl))))); (case ar435 => ((with_reducible refine' ArgS.cons ?as434 ?ae434 ?ar434); (case as434 => exact fun _ _ => rfl); (case ae434 => ((with_reducible refine' ExpS.bin ?o433 ?a433 ?b433); (case o433 => with_reducible exact BinS.add); (case a433 => ((with_reducible refine' ExpS.item ?a429 ?b429 ?h429); (case a429 => ((with_reducible refine' ExpS.nameB ?n1q427 ?n4q427 ?n2q427 ?n3q427); (case n1q427 => exact rfl); (case n4q427 => exact rfl); (case n2q427 => (intros; first | exact rfl | (with_unfolding_all rfl) | decide)); (case n3q427 => first | exact rfl | (with_unfolding_all rfl) | decide | kernel_rfl))); (case h429 => exact fun _ _ => rfl); (case b429 => ((with_reducible refine' ExpS.int 0 ?r428); (case r428 => exact rfl))))); (case b433 => ((with_reducible refine' ExpS.item ?a432 ?b432 ?h432); (case a432 => ((with_reducible refine' ExpS.nameB ?n1q430 ?n4q430 ?n2q430 ?n3q430); (case n1q430 => exact rfl); (case n4q430 => exact rfl); (case n2q430 => (intros; first | exact rfl | (with_unfolding_all rfl) | decide)); (case n3q430 => first | exact rfl | (with_unfolding_all rfl) | decide | kernel_rfl))); (case h432 => exact fun _ _ => rfl); (case b432 => ((with_reducible refine' ExpS.int 1 ?r431); (case r431 => exact rfl))))))); (case ar434 => with_reducible exact ArgS.nil))))); (case h436 => exact Nat.le_of_ble_eq_true rfl))))); (case ar438 => with_reducible exact ArgS.nil))))))); (case b493 => ((with_reducible refine' BdyS.cons ?a492 ?b492); (case a492 => ((with_reducible refine' ExcS.enum ?x482 ?e482 ?h482 ?t482 ?a482 ?b482); (case x482 => (refine' NamS.blt ?nxq441 ?nbq441 ?nnq441 ?neq441 ?ndq441; (case nxq441 => k_is); (case nbq441 => first | boot_by_name | rfl | kernel_rfl | boot_fast); (case nnq441 => decide); (case neq441 => (intros; first | exact rfl | (with_unfolding_all rfl) | decide)); (case ndq441 => first | exact rfl | (with_unfolding_all rfl) | decide | kernel_rfl))); (case e482 => exact fun _ _ => rfl); (case h482 => exact fun _ _ => rfl); (case t482 => ((with_reducible refine' TgtS.cons ?h449 ?a449 ?b449); (case h449 => exact fun _ _ => rfl); (case a449 => ((with_reducible refine' AsgS.name ?u442 ?y442 ?k442); (case y442 => exact rfl); (case u442 => first | exact rfl | (with_unfolding_all rfl) | decide | kernel_rfl); (case k442 => (intros; first | exact rfl | (with_unfolding_all rfl) | decide)))); (case b449 => ((with_reducible refine' TgtS.cons ?h448 ?a448 ?b448); (case h448 => exact fun _ _ => rfl); (case a448 => ((with_reducible refine' AsgS.tup ?l447); (case l447 => ((with_reducible refine' TgtS.cons ?h446 ?a446 ?b446); (case h446 => exact fun _ _ => rfl); (case a446 => ((with_reducible refine' AsgS.name ?u443 ?y443 ?k443); (case y443 => exact rfl); (case u443 => first | exact rfl | (with_unfolding_all rfl) | decide | kernel_rfl); (case k443 => (intros; first | exact rfl | (with_unfolding_all rfl) | decide)))); (case b446 => ((with_reducible refine' TgtS.cons ?h445 ?a445 ?b445); (case h445 => exact fun _ _ => rfl); (case a445 => ((with_reducible refine' AsgS.name ?u444 ?y444 ?k444); (case y444 => exact rfl); (case u444 => first | exact rfl | (with_unfolding_all rfl) | decide | kernel_rfl); (case k444 => (intros; first | exact rfl | (with_unfolding_all rfl) | decide)))); (case b445 => with_reducible exact TgtS.nil))))))); (case b448 => with_reducible exact TgtS.nil))))); (case a482 => ((with_reducible refine' ExpS.name ?n1q450 ?n2q450 ?n3q450); (case n1q450 => exact rfl); (case n2q450 => exact rfl); (case n3q450 => first | exact rfl | (with_unfolding_all rfl) | decide | kernel_rfl))); (case b482 => ((with_reducible refine' BdyS.cons ?a481 ?b481); (case a481 => ((with_reducible refine' ExcS.if ?t480 ?a480 ?b480); (case t480 => ((with_reducible refine' TstS.or ?a477 ?b477); (case a477 => ((with_reducible refine' TstS.cmp ?o455 ?a455 ?b455 ?m455); (case o455 => with_reducible exact CmpS.lt); (case a455 => ((with_reducible refine' ExpS.name ?n1q451 ?n2q451 ?n3q451); (case n1q451 => exact rfl); (case n2q451 => exact rfl); (case n3q451 => first | exact rfl | (with_unfolding_all rfl) | decide | kernel_rfl))); (case b455 => ((with_reducible refine' ExpS.attr 3 ?a454 ?h454); (case h454 => (refine' ⟨?a1q453, ?a2q453, ?a3q453, ?a5q453⟩; (case a1q453 => k_is); (case a2q453 => k_is); (case a3q453 => k_is); (case a5q453 => (intros; rename some _ = some _ => h9; cases h9; with_unfolding_all rfl)))); (case a454 => ((with_reducible refine' ExpS.name ?n1q452 ?n2q452 ?n3q452); (case n1q452 => exact rfl); (case n2q452 => exact rfl); (case n3q452 => first | exact rfl | (with_unfolding_all rfl) | decide | kernel_rfl))))); (case m455 => first | exact rfl | (with_unfolding_all rfl) | decide | kernel_rfl))); (case b477 => ((with_reducible refine' TstS.or ?a476 ?b476); (case a476 => ((with_reducible refine' TstS.cmp ?o460 ?a460 ?b460 ?m460); (case o460 => with_reducible exact CmpS.gt); (case a460 => ((with_reducible refine' ExpS.name ?n1q456 ?n2q456 ?n3q456); (case n1q456 => exact rfl); (case n2q456 => exact rfl); (case n3q456 => first | exact rfl | (with_unfolding_all rfl) | decide | kernel_rfl))); (case b460 => ((with_reducible refine' ExpS.attr 0 ?a459 ?h459); (case h459 => (refine' ⟨?a1q458, ?a2q458, ?a3q458, ?a5q458⟩; (case a1q458 => k_is); (case a2q458 => k_is); (case a3q458 => k_is); (case a5q458 => (intros; rename some _ = some _ => h9; cases h9; with_unfolding_all rfl)))); (case a459 => ((with_reducible refine' ExpS.name ?n1q457 ?n2q457 ?n3q457); (case n1q457 => exact rfl); (case n2q457 => exact rfl); (case n3q457 => first | exact rfl | (with_unfolding_all rfl) | decide | kernel_rfl))))); (case m460 => first | exact rfl | (with_unfolding_all rfl) | decide | kernel_rfl))); (case b476 => ((with_reducible refine' TstS.or ?a475 ?b475); (case a475 => ((with_reducible refine' TstS.and ?a474 ?b474); (case a474 => ((with_reducible refine' TstS.cmp ?o463 ?a463 ?b463 ?m463); (case o463 => with_reducible exact CmpS.gt); (case a463 => ((with_reducible refine' ExpS.name ?n1q461 ?n2q461 ?n3q461); (case n1q461 => exact rfl); (case n2q461 => exact rfl); (case n3q461 => first | exact rfl | (with_unfolding_all rfl) | decide | kernel_rfl))); (case b463 => ((with_reducible refine' ExpS.int 0 ?r462); (case r462 => exact rfl))); (case m463 => first | exact rfl | (with_unfolding_all rfl) | decide | kernel_rfl))); (case b474 => ((with_reducible refine' TstS.and ?a473 ?b473); (case a473 => ((with_reducible refine' TstS.cmp ?o472 ?a472 ?b472 ?m472); (case o472 => with_reducible exact CmpS.lt); (case a472 => ((with_reducible refine' ExpS.name ?n1q464 ?n2q464 ?n3q464); (case n1q464 => exact rfl); (case n2q464 => exact rfl); (case n3q464 => first | exact rfl | (with_unfolding_all rfl) | decide | kernel_rfl))); (case b472 => ((with_reducible refine' ExpS.item ?a471 ?b471 ?h471); (case a471 => ((with_reducible refine' ExpS.item ?a469 ?b469 ?h469); (case a469 => ((with_reducible refine' ExpS.name ?n1q465 ?n2q465 ?n3q465); (case n1q465 => exact rfl); (case n2q465 => exact rfl); (case n3q465 => first | exact rfl | (with_unfolding_all rfl) | decide | kernel_rfl))); (case h469 => exact fun _ _ => rfl); (case b469 => ((with_reducible refine' ExpS.bin ?o468 ?a468 ?b468); (case o468 => with_reducible exact BinS.sub); (case a468 => ((with_reducible refine' ExpS.name ?n1q466 ?n2q466 ?n3q466); (case n1q466 => exact rfl); (case n2q466 => exact rfl); (case n3q466 => first | exact rfl | (with_unfolding_all rfl) | decide | kernel_rfl))); (case b468 => ((with_reducible refine' ExpS.int 1 ?r467); (case r467 => exact rfl))))))); (case h471 => exact fun _ _ => rfl); (case b471 => ((with_reducible refine' ExpS.int 1 ?r470); (case r470 => exact rfl))))); (case m472 => first | exact rfl | (with_unfolding_all rfl) | decide | kernel_rfl))); (case b473 => with_reducible exact TstS.and0))))); (case b475 => with_reducible exact TstS.or0))))))); (case a480 => ((with_reducible refine' BdyS.cons ?a479 ?b479); (case a479 => ((with_reducible refine' ExcS.ret ?a478); (case a478 => with_reducible exact ExpS.bool))); (case b479 => with_reducible exact BdyS.nil))); (case b480 => with_reducible exact BdyS.nil))); (case b481 => with_reducible exact BdyS.nil))))); (case b492 => ((with_reducible refine' BdyS.cons ?a491 ?b491); (case a491 => ((with_reducible refine' ExcS.ret ?a490); (case a490 => ((with_reducible refine' ExpS.cmp ?o489 ?a489 ?b489 ?m489); (case o489 => with_reducible exact CmpS.le); (case a489 => ((with_reducible refine' ExpS.attr 2 ?a485 ?h485); (case h485 => (refine' ⟨?a1q484, ?a2q484, ?a3q484, ?a5q484⟩; (case a1q484 => k_is); (case a2q484 => k_is); (case a3q484 => k_is); (case a5q484 => (intros; rename some _ = some _ => h9; cases h9; with_unfolding_all rfl)))); (case a485 => ((with_reducible refine' ExpS.name ?n1q483 ?n2q483 ?n3q483); (case n1q483 => exact rfl); (case n2q483 => exact rfl); (case n3q483 => first | exact rfl | (with_unfolding_all rfl) | decide | kernel_rfl))))); (case b489 => ((with_reducible refine' ExpS.attr 3 ?a488 ?h488); (case h488 => (refine' ⟨?a1q487, ?a2q487, ?a3q487, ?a5q487⟩; (case a1q487 => k_is); (case a2q487 => k_is); (case a3q487 => k_is); (case a5q487 => (intros; rename some _ = some _ => h9; cases h9; with_unfolding_all rfl)))); (case a488 => ((with_reducible refine' ExpS.name ?n1q486 ?n2q486 ?n3q486); (case n1q486 => exact rfl); (case n2q486 => exact rfl); (case n3q486 => first | exact rfl | (with_unfolding_all rfl) | decide | kernel_rfl))))); (case m489 => first | exact rfl | (with_unfolding_all rfl) | decide | kernel_rfl))))); (case b491 => with_reducible exact BdyS.nil))))))
end
section
theorem ways_t : ∀ n c, CallOk w mean mg mb zs c n → FnOk w mean mg mb zs (n + 1) 144 (fnN waysB 2 [.u, .u, .u] c) := by
  intro n c hc
  delta waysB
  refine' FnOk.cellN (ps := [Str.ofString "low", Str.ofString "high"]) (y := Str.ofString "one") (nm := [(Str.ofString "low", false, 0), (Str.ofString "high", false, 1), (Str.ofString "one", true, 2), (Str.ofString "found", false, 3), (Str.ofString "middle", false, 4)]) (pad := [.u, .u, .u]) ?ho ?hcd ?hb ?hp ?hn ?he ?hcs ?he2 ?hu ?hko ?hyp ?co ?ge ?hk ?hW hc
  case ho => (first | exact rfl | with_unfolding_all rfl | k_is)
  case hcd => k_is
  case hb => (intro vs h; first | (rcases vs with _ | ⟨v0, _ | ⟨v1, _ | ⟨v2, vs⟩⟩⟩ <;> first | (exact rfl) | (simp at h; done)))
  case hp => decide
  case hn => decide
  case he => decide
  case hcs => exact fun _ => rfl
  case he2 => decide
  case hu => ((repeat (refine allU_cons ?_)); exact allU_nil)
  case hko => exact fun _ => rfl
  case hyp => decide
  case co => rfl
  case ge => rfl
  case hk => rfl
  case hW => ((with_reducible refine' BdyS.cons ?a545 ?b545); (case a545 => ((with_reducible refine' ExcS.if ?t504 ?a504 ?b504); (case t504 => ((with_reducible refine' TstS.cmp ?o498 ?a498 ?b498 ?m498); (case o498 => with_reducible exact CmpS.eq); (case a498 => ((with_reducible refine' ExpS.bin ?o496 ?a496 ?b496); (case o496 => with_reducible exact BinS.sub); (case a496 => ((with_reducible refine' ExpS.name ?n1q494 ?n2q494 ?n3q494); (case n1q494 => exact rfl); (case n2q494 => exact rfl); (case n3q494 => first | exact rfl | (with_unfolding_all rfl) | decide | kernel_rfl))); (case b496 => ((with_reducible refine' ExpS.name ?n1q495 ?n2q495 ?n3q495); (case n1q495 => exact rfl); (case n2q495 => exact rfl); (case n3q495 => first | exact rfl | (with_unfolding_all rfl) | decide | kernel_rfl))))); (case b498 => ((with_reducible refine' ExpS.int 1 ?r497); (case r497 => exact rfl))); (case m498 => first | exact rfl | (with_unfolding_all rfl) | decide | kernel_rfl))); (case a504 => ((with_reducible refine' BdyS.cons ?a503 ?b503); (case a503 => ((with_reducible refine' ExcS.ret ?a502); (case a502 => ((with_reducible refine' ExpS.list ?a501 ?h501); (case a501 => ((with_reducible refine' ArgS.cons ?as500 ?ae500 ?ar500); (case as500 => exact fun _ _ => rfl); (case ae500 => ((with_reducible refine' ExpS.name ?n1q499 ?n2q499 ?n3q499); (case n1q499 => exact rfl); (case n2q499 => exact rfl); (case n3q499 => first | exact rfl | (with_unfolding_all rfl) | decide | kernel_rfl))); (case ar500 => with_reducible exact ArgS.nil))); (case h501 => exact Nat.le_of_ble_eq_true rfl))))); (case b503 => with_reducible exact BdyS.nil))); (case b504 => with_reducible exact BdyS.nil))); (case b545 => ((with_reducible refine' BdyS.cons ?a544 ?b544); (case a544 => ((with_reducible refine' ExcS.asg1 ?u506 ?y506 ?k506 ?s506 ?a506); (case y506 => exact rfl); (case u506 => first | exact rfl | (with_unfolding_all rfl) | decide | kernel_rfl); (case k506 => (intros; first | exact rfl | (with_unfolding_all rfl) | decide)); (case s506 => (intros; first | exact rfl | (with_unfolding_all rfl) | decide)); (case a506 => ((with_reducible refine' ExpS.list ?a505 ?h505); (case a505 => with_reducible exact ArgS.nil); (case h505 => exact Nat.le_of_ble_eq_true rfl))))); (case b544 => ((with_reducible refine' BdyS.cons ?a543 ?b543); (case a543 => ((with_reducible refine' ExcS.frng ?h539 ?u539 ?y539 ?v539 ?p539 ?a539 ?b539); (case h539 => exact fun _ _ => rfl); (case y539 => exact rfl); (case u539 => first | exact rfl | (with_unfolding_all rfl) | decide | kernel_rfl); (case v539 => (intros; first | exact rfl | (with_unfolding_all rfl) | decide)); (case p539 => exact rfl); (case a539 => ((with_reducible refine' RngS.two ?x512 ?a512 ?b512 ?c512 ?d512); (case x512 => (refine' NamS.blt ?nxq507 ?nbq507 ?nnq507 ?neq507 ?ndq507; (case nxq507 => k_is); (case nbq507 => first | boot_by_name | rfl | kernel_rfl | boot_fast); (case nnq507 => decide); (case neq507 => (intros; first | exact rfl | (with_unfolding_all rfl) | decide)); (case ndq507 => first | exact rfl | (with_unfolding_all rfl) | decide | kernel_rfl))); (case c512 => exact fun _ _ => rfl); (case d512 => exact fun _ _ => rfl); (case a512 => ((with_reducible refine' ExpS.bin ?o510 ?a510 ?b510); (case o510 => with_reducible exact BinS.add); (case a510 => ((with_reducible refine' ExpS.name ?n1q508 ?n2q508 ?n3q508); (case n1q508 => exact rfl); (case n2q508 => exact rfl); (case n3q508 => first | exact rfl | (with_unfolding_all rfl) | decide | kernel_rfl))); (case b510 => ((with_reducible refine' ExpS.int 1 ?r509); (case r509 => exact rfl))))); (case b512 => ((with_reducible refine' ExpS.name ?n1q511 ?n2q511 ?n3q511); (case n1q511 => exact rfl); (case n2q511 => exact rfl); (case n3q511 => first | exact rfl | (with_unfolding_all rfl) | decide | kernel_rfl))))); (case b539 => ((with_reducible refine' BdyS.cons ?a538 ?b538); (case a538 => ((with_reducible refine' ExcS.for ?h537 ?t537 ?a537 ?b537); (case h537 => exact fun _ _ => rfl); (case t537 => ((with_reducible refine' AsgS.cell ?y513 ?k513); (case y513 => exact rfl); (case k513 => (intros; first | exact rfl | (with_unfolding_all rfl) | decide)))); (case a537 => ((with_reducible refine' ExpS.call ?x519 ?k519 ?a519); (case x519 => (refine' NamS.glob ?nxq514 (by first | exact .inl rfl | exact .inr rfl) ?neq514 ?ndq514; (case nxq514 => k_is); (case neq514 => (intros; first | exact rfl | (with_unfolding_all rfl) | decide)); (case ndq514 => first | exact rfl | (with_unfolding_all rfl) | decide | kernel_rfl))); (case k519 => k_is); (case a519 => ((with_reducible refine' ArgS.cons ?as518 ?ae518 ?ar518); (case as518 => exact fun _ _ => rfl); (case ae518 => ((with_reducible refine' ExpS.name ?n1q515 ?n2q515 ?n3q515); (case n1q515 => exact rfl); (case n2q515 => exact rfl); (case n3q515 => first | exact rfl | (with_unfolding_all rfl) | decide | kernel_rfl))); (case ar518 => ((with_reducible refine' ArgS.cons ?as517 ?ae517 ?ar517); (case as517 => exact fun _ _ => rfl); (case ae517 => ((with_reducible refine' ExpS.name ?n1q516 ?n2q516 ?n3q516); (case n1q516 => exact rfl); (case n2q516 => exact rfl); (case n3q516 => first | exact rfl | (with_unfolding_all rfl) | decide | kernel_rfl))); (case ar517 => with_reducible exact ArgS.nil))))))); (case b537 => ((with_reducible refine' BdyS.cons ?a536 ?b536); (case a536 => ((with_reducible refine' ExcS.asg1 ?u535 ?y535 ?k535 ?s535 ?a535); (case y535 => exact rfl); (case u535 => first | exact rfl | (with_unfolding_all rfl) | decide | kernel_rfl); (case k535 => (intros; first | exact rfl | (with_unfolding_all rfl) | decide)); (case s535 => (intros; first | exact rfl | (with_unfolding_all rfl) | decide)); (case a535 => ((with_reducible refine' ExpS.bin ?o534 ?a534 ?b534); (case o534 => with_reducible exact BinS.add); (case a534 => ((with_reducible refine' ExpS.name ?n1q520 ?n2q520 ?n3q520); (case n1q520 => exact rfl); (case n2q520 => exact rfl); (case n3q520 => first | exact rfl | (with_unfolding_all rfl) | decide | kernel_rfl))); (case b534 => ((with_reducible refine' ExpS.compL (i := _) ?k533 ?s533 ?h533 ?a533 ?b533); (case k533 => first | exact CapS.no fun _ => rfl | (refine' CapS.one ?kq521 ?nq521 ?xq521 ?jq521; (case kq521 => exact rfl); (case nq521 => exact rfl); (case xq521 => decide); (case jq521 => decide))); (case s533 => exact ⟨by decide, rfl, by decide, rfl⟩); (case h533 => exact fun _ _ => rfl); (case a533 => ((with_reducible refine' ExpS.call ?x527 ?k527 ?a527); (case x527 => (refine' NamS.glob ?nxq522 (by first | exact .inl rfl | exact .inr rfl) ?neq522 ?ndq522; (case nxq522 => k_is); (case neq522 => (intros; first | exact rfl | (with_unfolding_all rfl) | decide)); (case ndq522 => first | exact rfl | (with_unfolding_all rfl) | decide | kernel_rfl))); (case k527 => k_is); (case a527 => ((with_reducible refine' ArgS.cons ?as526 ?ae526 ?ar526); (case as526 => exact fun _ _ => rfl); (case ae526 => ((with_reducible refine' ExpS.name ?n1q523 ?n2q523 ?n3q523); (case n1q523 => exact rfl); (case n2q523 => exact rfl); (case n3q523 => first | exact rfl | (with_unfolding_all rfl) | decide | kernel_rfl))); (case ar526 => ((with_reducible refine' ArgS.cons ?as525 ?ae525 ?ar525); (case as525 => exact fun _ _ => rfl); (case ae525 => ((with_reducible refine' ExpS.name ?n1q524 ?n2q524 ?n3q524); (case n1q524 => exact rfl); (case n2q524 => exact rfl); (case n3q524 => first | exact rfl | (with_unfolding_all rfl) | decide | kernel_rfl))); (case ar525 => with_reducible exact ArgS.nil))))))); (case b533 => ((with_reducible refine' ExpS.tup ?a532 ?h532); (case a532 => ((with_reducible refine' ArgS.cons ?as531 ?ae531 ?ar531); (case as531 => exact fun _ _ => rfl); (case ae531 => ((with_reducible refine' ExpS.cellB ?n1q528 ?n4q528 ?n2q528 ?n3q528); (case n1q528 => exact rfl); (case n4q528 => exact rfl); (case n2q528 => (intros; first | exact rfl | (with_unfolding_all rfl) | decide)); (case n3q528 => first | exact rfl | (with_unfolding_all rfl) | decide | kernel_rfl))); (case ar531 => ((with_reducible refine' ArgS.cons ?as530 ?ae530 ?ar530); (case as530 => exact fun _ _ => rfl); (case ae530 => ((with_reducible refine' ExpS.nameB ?n1q529 ?n4q529 ?n2q529 ?n3q529); (case n1q529 => exact rfl); (case n4q529 => exact rfl); (case n2q529 => (intros; first | exact rfl | (with_unfolding_all rfl) | decide)); (case n3q529 => first | exact rfl | (with_unfolding_all rfl) | decide | kernel_rfl))); (case ar530 => with_reducible exact ArgS.nil))))); (case h532 => exact Nat.le_of_ble_eq_true rfl))))))))); (case b536 => with_reducible exact BdyS.nil))))); (case b538 => with_reducible exact BdyS.nil))))); (case b543 => ((with_reducible refine' BdyS.cons ?a542 ?b542); (case a542 => ((with_reducible refine' ExcS.ret ?a541); (case a541 => ((with_reducible refine' ExpS.name ?n1q540 ?n2q540 ?n3q540); (case n1q540 => exact rfl); (case n2q540 => exact rfl); (case n3q540 => first | exact rfl | (with_unfolding_all rfl) | decide | kernel_rfl))))); (case b542 => with_reducible exact BdyS.nil))))))))
end
section
theorem lawjoin_t : ∀ n c, CallOk w mean mg mb zs c n → FnOk w mean mg mb zs (n + 1) 151 (fnW lawjoinB 3 [] c) := by
  intro n c hc
  delta lawjoinB
  refine' FnOk.plain (ps := [Str.ofString "space", Str.ofString "way", Str.ofString "texts"]) (nm := [(Str.ofString "space", false, 0), (Str.ofString "way", false, 1), (Str.ofString "texts", false, 2)]) (pad := []) ?ho ?hcd ?hb ?hp ?hn ?he ?hu ?co ?ge ?hk ?ce ?hW hc
  case ho => (first | exact rfl | with_unfolding_all rfl | k_is)
  case hcd => k_is
  case hb => (intro vs h; first | (rcases vs with _ | ⟨v0, _ | ⟨v1, _ | ⟨v2, _ | ⟨v3, vs⟩⟩⟩⟩ <;> first | (exact rfl) | (simp at h; done)))
  case hp => decide
  case hn => decide
  case he => decide
  case hu => ((repeat (refine allU_cons ?_)); exact allU_nil)
  case co => rfl
  case ge => rfl
  case hk => rfl
  case ce => decide
  case hW => ((with_reducible refine' BdyS.cons ?a594 ?b594); (case a594 => ((with_reducible refine' ExcS.if ?t563 ?a563 ?b563); (case t563 => ((with_reducible refine' TstS.not ?a551); (case a551 => ((with_reducible refine' TstS.val ?a550 ?h550); (case a550 => ((with_reducible refine' ExpS.isi ?x549 ?t549 ?e549 ?h549); (case x549 => (refine' NamS.blt ?nxq546 ?nbq546 ?nnq546 ?neq546 ?ndq546; (case nxq546 => k_is); (case nbq546 => first | boot_by_name | rfl | kernel_rfl | boot_fast); (case nnq546 => decide); (case neq546 => (intros; first | exact rfl | (with_unfolding_all rfl) | decide)); (case ndq546 => first | exact rfl | (with_unfolding_all rfl) | decide | kernel_rfl))); (case t549 => (refine' NamS.blt ?nxq547 ?nbq547 ?nnq547 ?neq547 ?ndq547; (case nxq547 => k_is); (case nbq547 => first | boot_by_name | rfl | kernel_rfl | boot_fast); (case nnq547 => decide); (case neq547 => (intros; first | exact rfl | (with_unfolding_all rfl) | decide)); (case ndq547 => first | exact rfl | (with_unfolding_all rfl) | decide | kernel_rfl))); (case h549 => exact fun _ _ => rfl); (case e549 => ((with_reducible refine' ExpS.name ?n1q548 ?n2q548 ?n3q548); (case n1q548 => exact rfl); (case n2q548 => exact rfl); (case n3q548 => first | exact rfl | (with_unfolding_all rfl) | decide | kernel_rfl))))); (case h550 => exact fun _ _ => rfl))))); (case a563 => ((with_reducible refine' BdyS.cons ?a562 ?b562); (case a562 => ((with_reducible refine' ExcS.expr ?a560 ?i560 ?s560); (case i560 => (intros; first | exact rfl | (with_unfolding_all rfl) | decide)); (case s560 => (intros; first | exact rfl | (with_unfolding_all rfl) | decide)); (case a560 => ((with_reducible refine' ExpS.call ?x559 ?k559 ?a559); (case x559 => (refine' NamS.glob ?nxq552 (by first | exact .inl rfl | exact .inr rfl) ?neq552 ?ndq552; (case nxq552 => k_is); (case neq552 => (intros; first | exact rfl | (with_unfolding_all rfl) | decide)); (case ndq552 => first | exact rfl | (with_unfolding_all rfl) | decide | kernel_rfl))); (case k559 => k_is); (case a559 => ((with_reducible refine' ArgS.cons ?as558 ?ae558 ?ar558); (case as558 => exact fun _ _ => rfl); (case ae558 => ((with_reducible refine' ExpS.name ?n1q553 ?n2q553 ?n3q553); (case n1q553 => exact rfl); (case n2q553 => exact rfl); (case n3q553 => first | exact rfl | (with_unfolding_all rfl) | decide | kernel_rfl))); (case ar558 => ((with_reducible refine' ArgS.cons ?as557 ?ae557 ?ar557); (case as557 => exact fun _ _ => rfl); (case ae557 => ((with_reducible refine' ExpS.item ?a556 ?b556 ?h556); (case a556 => ((with_reducible refine' ExpS.name ?n1q554 ?n2q554 ?n3q554); (case n1q554 => exact rfl); (case n2q554 => exact rfl); (case n3q554 => first | exact rfl | (with_unfolding_all rfl) | decide | kernel_rfl))); (case h556 => exact fun _ _ => rfl); (case b556 => ((with_reducible refine' ExpS.name ?n1q555 ?n2q555 ?n3q555); (case n1q555 => exact rfl); (case n2q555 => exact rfl); (case n3q555 => first | exact rfl | (with_unfolding_all rfl) | decide | kernel_rfl))))); (case ar557 => with_reducible exact ArgS.nil))))))))); (case b562 => ((with_reducible refine' BdyS.cons ?a561 ?b561); (case a561 => with_reducible exact ExcS.retN); (case b561 => with_reducible exact BdyS.nil))))); (case b563 => with_reducible exact BdyS.nil))); (case b594 => ((with_reducible refine' BdyS.cons ?a593 ?b593); (case a593 => ((with_reducible refine' ExcS.expr ?a574 ?i574 ?s574); (case i574 => (intros; first | exact rfl | (with_unfolding_all rfl) | decide)); (case s574 => (intros; first | exact rfl | (with_unfolding_all rfl) | decide)); (case a574 => ((with_reducible refine' ExpS.call ?x573 ?k573 ?a573); (case x573 => (refine' NamS.glob ?nxq564 (by first | exact .inl rfl | exact .inr rfl) ?neq564 ?ndq564; (case nxq564 => k_is); (case neq564 => (intros; first | exact rfl | (with_unfolding_all rfl) | decide)); (case ndq564 => first | exact rfl | (with_unfolding_all rfl) | decide | kernel_rfl))); (case k573 => k_is); (case a573 => ((with_reducible refine' ArgS.cons ?as572 ?ae572 ?ar572); (case as572 => exact fun _ _ => rfl); (case ae572 => ((with_reducible refine' ExpS.name ?n1q565 ?n2q565 ?n3q565); (case n1q565 => exact rfl); (case n2q565 => exact rfl); (case n3q565 => first | exact rfl | (with_unfolding_all rfl) | decide | kernel_rfl))); (case ar572 => ((with_reducible refine' ArgS.cons ?as571 ?ae571 ?ar571); (case as571 => exact fun _ _ => rfl); (case ae571 => ((with_reducible refine' ExpS.item ?a568 ?b568 ?h568); (case a568 => ((with_reducible refine' ExpS.name ?n1q566 ?n2q566 ?n3q566); (case n1q566 => exact rfl); (case n2q566 => exact rfl); (case n3q566 => first | exact rfl | (with_unfolding_all rfl) | decide | kernel_rfl))); (case h568 => exact fun _ _ => rfl); (case b568 => ((with_reducible refine' ExpS.int 0 ?r567); (case r567 => exact rfl))))); (case ar571 => ((with_reducible refine' ArgS.cons ?as570 ?ae570 ?ar570); (case as570 => exact fun _ _ => rfl); (case ae570 => ((with_reducible refine' ExpS.name ?n1q569 ?n2q569 ?n3q569); (case n1q569 => exact rfl); (case n2q569 => exact rfl); (case n3q569 => first | exact rfl | (with_unfolding_all rfl) | decide | kernel_rfl))); (case ar570 => with_reducible exact ArgS.nil))))))))))); (case b593 => ((with_reducible refine' BdyS.cons ?a592 ?b592); (case a592 => ((with_reducible refine' ExcS.expr ?a585 ?i585 ?s585); (case i585 => (intros; first | exact rfl | (with_unfolding_all rfl) | decide)); (case s585 => (intros; first | exact rfl | (with_unfolding_all rfl) | decide)); (case a585 => ((with_reducible refine' ExpS.call ?x584 ?k584 ?a584); (case x584 => (refine' NamS.glob ?nxq575 (by first | exact .inl rfl | exact .inr rfl) ?neq575 ?ndq575; (case nxq575 => k_is); (case neq575 => (intros; first | exact rfl | (with_unfolding_all rfl) | decide)); (case ndq575 => first | exact rfl | (with_unfolding_all rfl) | decide | kernel_rfl))); (case k584 => k_is); (case a584 => ((with_reducible refine' ArgS.cons ?as583 ?ae583 ?ar583); (case as583 => exact fun _ _ => rfl); (case ae583 => ((with_reducible refine' ExpS.name ?n1q576 ?n2q576 ?n3q576); (case n1q576 => exact rfl); (case n2q576 => exact rfl); (case n3q576 => first | exact rfl | (with_unfolding_all rfl) | decide | kernel_rfl))); (case ar583 => ((with_reducible refine' ArgS.cons ?as582 ?ae582 ?ar582); (case as582 => exact fun _ _ => rfl); (case ae582 => ((with_reducible refine' ExpS.item ?a579 ?b579 ?h579); (case a579 => ((with_reducible refine' ExpS.name ?n1q577 ?n2q577 ?n3q577); (case n1q577 => exact rfl); (case n2q577 => exact rfl); (case n3q577 => first | exact rfl | (with_unfolding_all rfl) | decide | kernel_rfl))); (case h579 => exact fun _ _ => rfl); (case b579 => ((with_reducible refine' ExpS.int 1 ?r578); (case r578 => exact rfl))))); (case ar582 => ((with_reducible refine' ArgS.cons ?as581 ?ae581 ?ar581); (case as581 => exact fun _ _ => rfl); (case ae581 => ((with_reducible refine' ExpS.name ?n1q580 ?n2q580 ?n3q580); (case n1q580 => exact rfl); (case n2q580 => exact rfl); (case n3q580 => first | exact rfl | (with_unfolding_all rfl) | decide | kernel_rfl))); (case ar581 => with_reducible exact ArgS.nil))))))))))); (case b592 => ((with_reducible refine' BdyS.cons ?a591 ?b591); (case a591 => ((with_reducible refine' ExcS.expr ?a590 ?i590 ?s590); (case i590 => (intros; first | exact rfl | (with_unfolding_all rfl) | decide)); (case s590 => (intros; first | exact rfl | (with_unfolding_all rfl) | decide)); (case a590 => ((with_reducible refine' ExpS.call ?x589 ?k589 ?a589); (case x589 => (refine' NamS.glob ?nxq586 (by first | exact .inl rfl | exact .inr rfl) ?neq586 ?ndq586; (case nxq586 => k_is); (case neq586 => (intros; first | exact rfl | (with_unfolding_all rfl) | decide)); (case ndq586 => first | exact rfl | (with_unfolding_all rfl) | decide | kernel_rfl))); (case k589 => k_is); (case a589 => ((with_reducible refine' ArgS.cons ?as588 ?ae588 ?ar588); (case as588 => exact fun _ _ => rfl); (case ae588 => ((with_reducible refine' ExpS.name ?n1q587 ?n2q587 ?n3q587); (case n1q587 => exact rfl); (case n2q587 => exact rfl); (case n3q587 => first | exact rfl | (with_unfolding_all rfl) | decide | kernel_rfl))); (case ar588 => with_reducible exact ArgS.nil))))))); (case b591 => with_reducible exact BdyS.nil))))))))
end
section
theorem signs_t : ∀ n c, CallOk w mean mg mb zs c n → FnOk w mean mg mb zs (n + 1) 158 (fnW signsB 2 [.u, .u] c) := by
  intro n c hc
  delta signsB
  refine' FnOk.plain (ps := [Str.ofString "way", Str.ofString "texts"]) (nm := [(Str.ofString "way", false, 0), (Str.ofString "texts", false, 1), (Str.ofString "one", false, 2), (Str.ofString "other", false, 3)]) (pad := [.u, .u]) ?ho ?hcd ?hb ?hp ?hn ?he ?hu ?co ?ge ?hk ?ce ?hW hc
  case ho => (first | exact rfl | with_unfolding_all rfl | k_is)
  case hcd => k_is
  case hb => (intro vs h; first | (rcases vs with _ | ⟨v0, _ | ⟨v1, _ | ⟨v2, vs⟩⟩⟩ <;> first | (exact rfl) | (simp at h; done)))
  case hp => decide
  case hn => decide
  case he => decide
  case hu => ((repeat (refine allU_cons ?_)); exact allU_nil)
  case co => rfl
  case ge => rfl
  case hk => rfl
  case ce => decide
  case hW => ((with_reducible refine' BdyS.cons ?a667 ?b667); (case a667 => ((with_reducible refine' ExcS.if ?t618 ?a618 ?b618); (case t618 => ((with_reducible refine' TstS.not ?a600); (case a600 => ((with_reducible refine' TstS.val ?a599 ?h599); (case a599 => ((with_reducible refine' ExpS.isi ?x598 ?t598 ?e598 ?h598); (case x598 => (refine' NamS.blt ?nxq595 ?nbq595 ?nnq595 ?neq595 ?ndq595; (case nxq595 => k_is); (case nbq595 => first | boot_by_name | rfl | kernel_rfl | boot_fast); (case nnq595 => decide); (case neq595 => (intros; first | exact rfl | (with_unfolding_all rfl) | decide)); (case ndq595 => first | exact rfl | (with_unfolding_all rfl) | decide | kernel_rfl))); (case t598 => (refine' NamS.blt ?nxq596 ?nbq596 ?nnq596 ?neq596 ?ndq596; (case nxq596 => k_is); (case nbq596 => first | boot_by_name | rfl | kernel_rfl | boot_fast); (case nnq596 => decide); (case neq596 => (intros; first | exact rfl | (with_unfolding_all rfl) | decide)); (case ndq596 => first | exact rfl | (with_unfolding_all rfl) | decide | kernel_rfl))); (case h598 => exact fun _ _ => rfl); (case e598 => ((with_reducible refine' ExpS.name ?n1q597 ?n2q597 ?n3q597); (case n1q597 => exact rfl); (case n2q597 => exact rfl); (case n3q597 => first | exact rfl | (with_unfolding_all rfl) | decide | kernel_rfl))))); (case h599 => exact fun _ _ => rfl))))); (case a618 => ((with_reducible refine' BdyS.cons ?a617 ?b617); (case a617 => ((with_reducible refine' ExcS.ret ?a616); (case a616 => ((with_reducible refine' ExpS.tup ?a615 ?h615); (case a615 => ((with_reducible refine' ArgS.cons ?as614 ?ae614 ?ar614); (case as614 => exact fun _ _ => rfl); (case ae614 => ((with_reducible refine' ExpS.fn ?x606 ?o606 ?a606); (case x606 => (refine' NamS.blt ?nxq601 ?nbq601 ?nnq601 ?neq601 ?ndq601; (case nxq601 => k_is); (case nbq601 => first | boot_by_name | rfl | kernel_rfl | boot_fast); (case nnq601 => decide); (case neq601 => (intros; first | exact rfl | (with_unfolding_all rfl) | decide)); (case ndq601 => first | exact rfl | (with_unfolding_all rfl) | decide | kernel_rfl))); (case o606 => with_reducible exact FunS.len); (case a606 => ((with_reducible refine' ArgS.cons ?as605 ?ae605 ?ar605); (case as605 => exact fun _ _ => rfl); (case ae605 => ((with_reducible refine' ExpS.item ?a604 ?b604 ?h604); (case a604 => ((with_reducible refine' ExpS.name ?n1q602 ?n2q602 ?n3q602); (case n1q602 => exact rfl); (case n2q602 => exact rfl); (case n3q602 => first | exact rfl | (with_unfolding_all rfl) | decide | kernel_rfl))); (case h604 => exact fun _ _ => rfl); (case b604 => ((with_reducible refine' ExpS.name ?n1q603 ?n2q603 ?n3q603); (case n1q603 => exact rfl); (case n2q603 => exact rfl); (case n3q603 => first | exact rfl | (with_unfolding_all rfl) | decide | kernel_rfl))))); (case ar605 => with_reducible exact ArgS.nil))))); (case ar614 => ((with_reducible refine' ArgS.cons ?as613 ?ae613 ?ar613); (case as613 => exact fun _ _ => rfl); (case ae613 => ((with_reducible refine' ExpS.fn ?x612 ?o612 ?a612); (case x612 => (refine' NamS.blt ?nxq607 ?nbq607 ?nnq607 ?neq607 ?ndq607; (case nxq607 => k_is); (case nbq607 => first | boot_by_name | rfl | kernel_rfl | boot_fast); (case nnq607 => decide); (case neq607 => (intros; first | exact rfl | (with_unfolding_all rfl) | decide)); (case ndq607 => first | exact rfl | (with_unfolding_all rfl) | decide | kernel_rfl))); (case o612 => with_reducible exact FunS.len); (case a612 => ((with_reducible refine' ArgS.cons ?as611 ?ae611 ?ar611); (case as611 => exact fun _ _ => rfl); (case ae611 => ((with_reducible refine' ExpS.item ?a610 ?b610 ?h610); (case a610 => ((with_reducible refine' ExpS.name ?n1q608 ?n2q608 ?n3q608); (case n1q608 => exact rfl); (case n2q608 => exact rfl); (case n3q608 => first | exact rfl | (with_unfolding_all rfl) | decide | kernel_rfl))); (case h610 => exact fun _ _ => rfl); (case b610 => ((with_reducible refine' ExpS.name ?n1q609 ?n2q609 ?n3q609); (case n1q609 => exact rfl); (case n2q609 => exact rfl); (case n3q609 => first | exact rfl | (with_unfolding_all rfl) | decide | kernel_rfl))))); (case ar611 => with_reducible exact ArgS.nil))))); (case ar613 => with_reducible exact ArgS.nil))))); (case h615 => exact Nat.le_of_ble_eq_true rfl))))); (case b617 => with_reducible exact BdyS.nil))); (case b618 => with_reducible exact BdyS.nil))); (case b667 => ((with_reducible refine' BdyS.cons ?a666 ?b666); (case a666 => ((with_reducible refine' ExcS.swp2 ?u638 ?y638 ?k638 ?v638 ?z638 ?l638 ?s638 ?r638 ?a638); (case s638 => (intros; first | exact rfl | (with_unfolding_all rfl) | decide)); (case r638 => (intros; first | exact rfl | (with_unfolding_all rfl) | decide)); (case y638 => exact rfl); (case z638 => exact rfl); (case u638 => first | exact rfl | (with_unfolding_all rfl) | decide | kernel_rfl); (case v638 => first | exact rfl | (with_unfolding_all rfl) | decide | kernel_rfl); (case k638 => (intros; first | exact rfl | (with_unfolding_all rfl) | decide)); (case l638 => (intros; first | exact rfl | (with_unfolding_all rfl) | decide)); (case a638 => ((with_reducible refine' ExpS.tup ?a637 ?h637); (case a637 => ((with_reducible refine' ArgS.cons ?as636 ?ae636 ?ar636); (case as636 => exact fun _ _ => rfl); (case ae636 => ((with_reducible refine' ExpS.call ?x626 ?k626 ?a626); (case x626 => (refine' NamS.glob ?nxq619 (by first | exact .inl rfl | exact .inr rfl) ?neq619 ?ndq619; (case nxq619 => k_is); (case neq619 => (intros; first | exact rfl | (with_unfolding_all rfl) | decide)); (case ndq619 => first | exact rfl | (with_unfolding_all rfl) | decide | kernel_rfl))); (case k626 => k_is); (case a626 => ((with_reducible refine' ArgS.cons ?as625 ?ae625 ?ar625); (case as625 => exact fun _ _ => rfl); (case ae625 => ((with_reducible refine' ExpS.item ?a622 ?b622 ?h622); (case a622 => ((with_reducible refine' ExpS.name ?n1q620 ?n2q620 ?n3q620); (case n1q620 => exact rfl); (case n2q620 => exact rfl); (case n3q620 => first | exact rfl | (with_unfolding_all rfl) | decide | kernel_rfl))); (case h622 => exact fun _ _ => rfl); (case b622 => ((with_reducible refine' ExpS.int 0 ?r621); (case r621 => exact rfl))))); (case ar625 => ((with_reducible refine' ArgS.cons ?as624 ?ae624 ?ar624); (case as624 => exact fun _ _ => rfl); (case ae624 => ((with_reducible refine' ExpS.name ?n1q623 ?n2q623 ?n3q623); (case n1q623 => exact rfl); (case n2q623 => exact rfl); (case n3q623 => first | exact rfl | (with_unfolding_all rfl) | decide | kernel_rfl))); (case ar624 => with_reducible exact ArgS.nil))))))); (case ar636 => ((with_reducible refine' ArgS.cons ?as635 ?ae635 ?ar635); (case as635 => exact fun _ _ => rfl); (case ae635 => ((with_reducible refine' ExpS.call ?x634 ?k634 ?a634); (case x634 => (refine' NamS.glob ?nxq627 (by first | exact .inl rfl | exact .inr rfl) ?neq627 ?ndq627; (case nxq627 => k_is); (case neq627 => (intros; first | exact rfl | (with_unfolding_all rfl) | decide)); (case ndq627 => first | exact rfl | (with_unfolding_all rfl) | decide | kernel_rfl))); (case k634 => k_is); (case a634 => ((with_reducible refine' ArgS.cons ?as633 ?ae633 ?ar633); (case as633 => exact fun _ _ => rfl); (case ae633 => ((with_reducible refine' ExpS.item ?a630 ?b630 ?h630); (case a630 => ((with_reducible refine' ExpS.name ?n1q628 ?n2q628 ?n3q628); (case n1q628 => exact rfl); (case n2q628 => exact rfl); (case n3q628 => first | exact rfl | (with_unfolding_all rfl) | decide | kernel_rfl))); (case h630 => exact fun _ _ => rfl); (case b630 => ((with_reducible refine' ExpS.int 1 ?r629); (case r629 => exact rfl))))); (case ar633 => ((with_reducible refine' ArgS.cons ?as632 ?ae632 ?ar632); (case as632 => exact fun _ _ => rfl); (case ae632 => ((with_reducible refine' ExpS.name ?n1q631 ?n2q631 ?n3q631); (case n1q631 => exact rfl); (case n2q631 => exact rfl); (case n3q631 => first | exact rfl | (with_unfolding_all rfl) | decide | kernel_rfl))); (case ar632 => with_reducible exact ArgS.nil))))))); (case ar635 => with_reducible exact ArgS.nil))))); (case h637 => exact Nat.le_of_ble_eq_true rfl))))); (case b666 => ((with_reducible refine' BdyS.cons ?a665 ?b665); (case a665 => ((with_reducible refine' ExcS.ret ?a664); (case a664 => ((with_reducible refine' ExpS.tup ?a663 ?h663); (case a663 => ((with_reducible refine' ArgS.cons ?as662 ?ae662 ?ar662); (case as662 => exact fun _ _ => rfl); (case ae662 => ((with_reducible refine' ExpS.bin ?o645 ?a645 ?b645); (case o645 => with_reducible exact BinS.add); (case a645 => ((with_reducible refine' ExpS.item ?a641 ?b641 ?h641); (case a641 => ((with_reducible refine' ExpS.name ?n1q639 ?n2q639 ?n3q639); (case n1q639 => exact rfl); (case n2q639 => exact rfl); (case n3q639 => first | exact rfl | (with_unfolding_all rfl) | decide | kernel_rfl))); (case h641 => exact fun _ _ => rfl); (case b641 => ((with_reducible refine' ExpS.int 0 ?r640); (case r640 => exact rfl))))); (case b645 => ((with_reducible refine' ExpS.item ?a644 ?b644 ?h644); (case a644 => ((with_reducible refine' ExpS.name ?n1q642 ?n2q642 ?n3q642); (case n1q642 => exact rfl); (case n2q642 => exact rfl); (case n3q642 => first | exact rfl | (with_unfolding_all rfl) | decide | kernel_rfl))); (case h644 => exact fun _ _ => rfl); (case b644 => ((with_reducible refine' ExpS.int 0 ?r643); (case r643 => exact rfl))))))); (case ar662 => ((with_reducible refine' ArgS.cons ?as661 ?ae661 ?ar661); (case as661 => exact fun _ _ => rfl); (case ae661 => ((with_reducible refine' ExpS.bin ?o660 ?a660 ?b660); (case o660 => with_reducible exact BinS.add); (case a660 => ((with_reducible refine' ExpS.bin ?o656 ?a656 ?b656); (case o656 => with_reducible exact BinS.add); (case a656 => ((with_reducible refine' ExpS.bin ?o652 ?a652 ?b652); (case o652 => with_reducible exact BinS.add); (case a652 => ((with_reducible refine' ExpS.item ?a648 ?b648 ?h648); (case a648 => ((with_reducible refine' ExpS.name ?n1q646 ?n2q646 ?n3q646); (case n1q646 => exact rfl); (case n2q646 => exact rfl); (case n3q646 => first | exact rfl | (with_unfolding_all rfl) | decide | kernel_rfl))); (case h648 => exact fun _ _ => rfl); (case b648 => ((with_reducible refine' ExpS.int 1 ?r647); (case r647 => exact rfl))))); (case b652 => ((with_reducible refine' ExpS.item ?a651 ?b651 ?h651); (case a651 => ((with_reducible refine' ExpS.name ?n1q649 ?n2q649 ?n3q649); (case n1q649 => exact rfl); (case n2q649 => exact rfl); (case n3q649 => first | exact rfl | (with_unfolding_all rfl) | decide | kernel_rfl))); (case h651 => exact fun _ _ => rfl); (case b651 => ((with_reducible refine' ExpS.int 1 ?r650); (case r650 => exact rfl))))))); (case b656 => ((with_reducible refine' ExpS.item ?a655 ?b655 ?h655); (case a655 => ((with_reducible refine' ExpS.name ?n1q653 ?n2q653 ?n3q653); (case n1q653 => exact rfl); (case n2q653 => exact rfl); (case n3q653 => first | exact rfl | (with_unfolding_all rfl) | decide | kernel_rfl))); (case h655 => exact fun _ _ => rfl); (case b655 => ((with_reducible refine' ExpS.int 0 ?r654); (case r654 => exact rfl))))))); (case b660 => ((with_reducible refine' ExpS.item ?a659 ?b659 ?h659); (case a659 => ((with_reducible refine' ExpS.name ?n1q657 ?n2q657 ?n3q657); (case n1q657 => exact rfl); (case n2q657 => exact rfl); (case n3q657 => first | exact rfl | (with_unfolding_all rfl) | decide | kernel_rfl))); (case h659 => exact fun _ _ => rfl); (case b659 => ((with_reducible refine' ExpS.int 0 ?r658); (case r658 => exact rfl))))))); (case ar661 => with_reducible exact ArgS.nil))))); (case h663 => exact Nat.le_of_ble_eq_true rfl))))); (case b665 => with_reducible exact BdyS.nil))))))
end
section
theorem least_t : ∀ n c, CallOk w mean mg mb zs c n → FnOk w mean mg mb zs (n + 1) 163 (fnP leastB [.u] c) := by
  intro n c hc
  delta leastB
  refine' FnOk.cellP (y := Str.ofString "sizes") (nm := [(Str.ofString "sizes", true, 0)]) (pad := [.u]) ?ho ?hcd ?hb ?hy ?hy2 ?hcs ?he ?hu ?co ?ge ?hk ?hW hc
  case ho => (first | exact rfl | with_unfolding_all rfl | k_is)
  case hcd => k_is
  case hb => exact fun _ => rfl
  case hy => exact fun _ => rfl
  case hy2 => exact rfl
  case hcs => exact fun _ => rfl
  case he => decide
  case hu => ((repeat (refine allU_cons ?_)); exact allU_nil)
  case co => rfl
  case ge => rfl
  case hk => rfl
  case hW => ((with_reducible refine' BdyS.cons ?a712 ?b712); (case a712 => ((with_reducible refine' ExcS.if ?t679 ?a679 ?b679); (case t679 => ((with_reducible refine' TstS.cmp ?o673 ?a673 ?b673 ?m673); (case o673 => with_reducible exact CmpS.eq); (case a673 => ((with_reducible refine' ExpS.fn ?x671 ?o671 ?a671); (case x671 => (refine' NamS.blt ?nxq668 ?nbq668 ?nnq668 ?neq668 ?ndq668; (case nxq668 => k_is); (case nbq668 => first | boot_by_name | rfl | kernel_rfl | boot_fast); (case nnq668 => decide); (case neq668 => (intros; first | exact rfl | (with_unfolding_all rfl) | decide)); (case ndq668 => first | exact rfl | (with_unfolding_all rfl) | decide | kernel_rfl))); (case o671 => with_reducible exact FunS.len); (case a671 => ((with_reducible refine' ArgS.cons ?as670 ?ae670 ?ar670); (case as670 => exact fun _ _ => rfl); (case ae670 => ((with_reducible refine' ExpS.cell ?n1q669 ?n2q669 ?n3q669); (case n1q669 => exact rfl); (case n2q669 => exact rfl); (case n3q669 => first | exact rfl | (with_unfolding_all rfl) | decide | kernel_rfl))); (case ar670 => with_reducible exact ArgS.nil))))); (case b673 => ((with_reducible refine' ExpS.int 1 ?r672); (case r672 => exact rfl))); (case m673 => first | exact rfl | (with_unfolding_all rfl) | decide | kernel_rfl))); (case a679 => ((with_reducible refine' BdyS.cons ?a678 ?b678); (case a678 => ((with_reducible refine' ExcS.ret ?a677); (case a677 => ((with_reducible refine' ExpS.item ?a676 ?b676 ?h676); (case a676 => ((with_reducible refine' ExpS.cell ?n1q674 ?n2q674 ?n3q674); (case n1q674 => exact rfl); (case n2q674 => exact rfl); (case n3q674 => first | exact rfl | (with_unfolding_all rfl) | decide | kernel_rfl))); (case h676 => exact fun _ _ => rfl); (case b676 => ((with_reducible refine' ExpS.int 0 ?r675); (case r675 => exact rfl))))))); (case b678 => with_reducible exact BdyS.nil))); (case b679 => with_reducible exact BdyS.nil))); (case b712 => ((with_reducible refine' BdyS.cons ?a711 ?b711); (case a711 => ((with_reducible refine' ExcS.ret ?a710); (case a710 => ((with_reducible refine' ExpS.bin ?o709 ?a709 ?b709); (case o709 => with_reducible exact BinS.add); (case a709 => ((with_reducible refine' ExpS.fn ?x683 ?o683 ?a683); (case x683 => (refine' NamS.blt ?nxq680 ?nbq680 ?nnq680 ?neq680 ?ndq680; (case nxq680 => k_is); (case nbq680 => first | boot_by_name | rfl | kernel_rfl | boot_fast); (case nnq680 => decide); (case neq680 => (intros; first | exact rfl | (with_unfolding_all rfl) | decide)); (case ndq680 => first | exact rfl | (with_unfolding_all rfl) | decide | kernel_rfl))); (case o683 => with_reducible exact FunS.sum); (case a683 => ((with_reducible refine' ArgS.cons ?as682 ?ae682 ?ar682); (case as682 => exact fun _ _ => rfl); (case ae682 => ((with_reducible refine' ExpS.cell ?n1q681 ?n2q681 ?n3q681); (case n1q681 => exact rfl); (case n2q681 => exact rfl); (case n3q681 => first | exact rfl | (with_unfolding_all rfl) | decide | kernel_rfl))); (case ar682 => with_reducible exact ArgS.nil))))); (case b709 => ((with_reducible refine' ExpS.fn ?x708 ?o708 ?a708); (case x708 => (refine' NamS.blt ?nxq684 ?nbq684 ?nnq684 ?neq684 ?ndq684; (case nxq684 => k_is); (case nbq684 => first | boot_by_name | rfl | kernel_rfl | boot_fast); (case nnq684 => decide); (case neq684 => (intros; first | exact rfl | (with_unfolding_all rfl) | decide)); (case ndq684 => first | exact rfl | (with_unfolding_all rfl) | decide | kernel_rfl))); (case o708 => with_reducible exact FunS.min); (case a708 => ((with_reducible refine' ArgS.cons ?as707 ?ae707 ?ar707); (case as707 => exact fun _ _ => rfl); (case ae707 => ((with_reducible refine' ExpS.compR (i := _) ?k706 ?s706 ?h706 ?a706 ?b706); (case k706 => first | exact CapS.no fun _ => rfl | (refine' CapS.one ?kq685 ?nq685 ?xq685 ?jq685; (case kq685 => exact rfl); (case nq685 => exact rfl); (case xq685 => decide); (case jq685 => decide))); (case s706 => exact ⟨by decide, rfl, by decide, rfl⟩); (case h706 => exact fun _ _ => rfl); (case a706 => ((with_reducible refine' RngS.two ?x692 ?a692 ?b692 ?c692 ?d692); (case x692 => (refine' NamS.blt ?nxq686 ?nbq686 ?nnq686 ?neq686 ?ndq686; (case nxq686 => k_is); (case nbq686 => first | boot_by_name | rfl | kernel_rfl | boot_fast); (case nnq686 => decide); (case neq686 => (intros; first | exact rfl | (with_unfolding_all rfl) | decide)); (case ndq686 => first | exact rfl | (with_unfolding_all rfl) | decide | kernel_rfl))); (case c692 => exact fun _ _ => rfl); (case d692 => exact fun _ _ => rfl); (case a692 => ((with_reducible refine' ExpS.int 1 ?r687); (case r687 => exact rfl))); (case b692 => ((with_reducible refine' ExpS.fn ?x691 ?o691 ?a691); (case x691 => (refine' NamS.blt ?nxq688 ?nbq688 ?nnq688 ?neq688 ?ndq688; (case nxq688 => k_is); (case nbq688 => first | boot_by_name | rfl | kernel_rfl | boot_fast); (case nnq688 => decide); (case neq688 => (intros; first | exact rfl | (with_unfolding_all rfl) | decide)); (case ndq688 => first | exact rfl | (with_unfolding_all rfl) | decide | kernel_rfl))); (case o691 => with_reducible exact FunS.len); (case a691 => ((with_reducible refine' ArgS.cons ?as690 ?ae690 ?ar690); (case as690 => exact fun _ _ => rfl); (case ae690 => ((with_reducible refine' ExpS.cell ?n1q689 ?n2q689 ?n3q689); (case n1q689 => exact rfl); (case n2q689 => exact rfl); (case n3q689 => first | exact rfl | (with_unfolding_all rfl) | decide | kernel_rfl))); (case ar690 => with_reducible exact ArgS.nil))))))); (case b706 => ((with_reducible refine' ExpS.bin ?o705 ?a705 ?b705); (case o705 => with_reducible exact BinS.add); (case a705 => ((with_reducible refine' ExpS.call ?x698 ?k698 ?a698); (case x698 => (refine' NamS.globB ?nxq693 ?nsq693 ?neq693 ?ndq693; (case nxq693 => k_is); (case nsq693 => first | exact rfl | (with_unfolding_all rfl) | decide | kernel_rfl); (case neq693 => (intros; first | exact rfl | (with_unfolding_all rfl) | decide)); (case ndq693 => first | exact rfl | (with_unfolding_all rfl) | decide | kernel_rfl))); (case k698 => k_is); (case a698 => ((with_reducible refine' ArgS.cons ?as697 ?ae697 ?ar697); (case as697 => exact fun _ _ => rfl); (case ae697 => ((with_reducible refine' ExpS.sliceB ?a696 ?b696); (case a696 => ((with_reducible refine' ExpS.cellB ?n1q694 ?n4q694 ?n2q694 ?n3q694); (case n1q694 => exact rfl); (case n4q694 => exact rfl); (case n2q694 => (intros; first | exact rfl | (with_unfolding_all rfl) | decide)); (case n3q694 => first | exact rfl | (with_unfolding_all rfl) | decide | kernel_rfl))); (case b696 => ((with_reducible refine' ExpS.nameB ?n1q695 ?n4q695 ?n2q695 ?n3q695); (case n1q695 => exact rfl); (case n4q695 => exact rfl); (case n2q695 => (intros; first | exact rfl | (with_unfolding_all rfl) | decide)); (case n3q695 => first | exact rfl | (with_unfolding_all rfl) | decide | kernel_rfl))))); (case ar697 => with_reducible exact ArgS.nil))))); (case b705 => ((with_reducible refine' ExpS.call ?x704 ?k704 ?a704); (case x704 => (refine' NamS.globB ?nxq699 ?nsq699 ?neq699 ?ndq699; (case nxq699 => k_is); (case nsq699 => first | exact rfl | (with_unfolding_all rfl) | decide | kernel_rfl); (case neq699 => (intros; first | exact rfl | (with_unfolding_all rfl) | decide)); (case ndq699 => first | exact rfl | (with_unfolding_all rfl) | decide | kernel_rfl))); (case k704 => k_is); (case a704 => ((with_reducible refine' ArgS.cons ?as703 ?ae703 ?ar703); (case as703 => exact fun _ _ => rfl); (case ae703 => ((with_reducible refine' ExpS.sliceA ?a702 ?b702); (case a702 => ((with_reducible refine' ExpS.cellB ?n1q700 ?n4q700 ?n2q700 ?n3q700); (case n1q700 => exact rfl); (case n4q700 => exact rfl); (case n2q700 => (intros; first | exact rfl | (with_unfolding_all rfl) | decide)); (case n3q700 => first | exact rfl | (with_unfolding_all rfl) | decide | kernel_rfl))); (case b702 => ((with_reducible refine' ExpS.nameB ?n1q701 ?n4q701 ?n2q701 ?n3q701); (case n1q701 => exact rfl); (case n4q701 => exact rfl); (case n2q701 => (intros; first | exact rfl | (with_unfolding_all rfl) | decide)); (case n3q701 => first | exact rfl | (with_unfolding_all rfl) | decide | kernel_rfl))))); (case ar703 => with_reducible exact ArgS.nil))))))))); (case ar707 => with_reducible exact ArgS.nil))))))))); (case b711 => with_reducible exact BdyS.nil))))
end
section
theorem waiting_t : ∀ n c, CallOk w mean mg mb zs c n → FnOk w mean mg mb zs (n + 1) 168 (fnP waitingB [.u] c) := by
  intro n c hc
  delta waitingB
  refine' FnOk.cellP (y := Str.ofString "space") (nm := [(Str.ofString "space", true, 0)]) (pad := [.u]) ?ho ?hcd ?hb ?hy ?hy2 ?hcs ?he ?hu ?co ?ge ?hk ?hW hc
  case ho => (first | exact rfl | with_unfolding_all rfl | k_is)
  case hcd => k_is
  case hb => exact fun _ => rfl
  case hy => exact fun _ => rfl
  case hy2 => exact rfl
  case hcs => exact fun _ => rfl
  case he => decide
  case hu => ((repeat (refine allU_cons ?_)); exact allU_nil)
  case co => rfl
  case ge => rfl
  case hk => rfl
  case hW => ((with_reducible refine' BdyS.cons ?a725 ?b725); (case a725 => ((with_reducible refine' ExcS.ret ?a724); (case a724 => ((with_reducible refine' ExpS.compL (i := _) ?k723 ?s723 ?h723 ?a723 ?b723); (case k723 => first | exact CapS.no fun _ => rfl | (refine' CapS.one ?kq713 ?nq713 ?xq713 ?jq713; (case kq713 => exact rfl); (case nq713 => exact rfl); (case xq713 => decide); (case jq713 => decide))); (case s723 => exact ⟨by decide, rfl, by decide, rfl⟩); (case h723 => exact fun _ _ => rfl); (case a723 => ((with_reducible refine' ExpS.attr 5 ?a716 ?h716); (case h716 => (refine' ⟨?a1q715, ?a2q715, ?a3q715, ?a5q715⟩; (case a1q715 => k_is); (case a2q715 => k_is); (case a3q715 => k_is); (case a5q715 => (intros; rename some _ = some _ => h9; cases h9; with_unfolding_all rfl)))); (case a716 => ((with_reducible refine' ExpS.cell ?n1q714 ?n2q714 ?n3q714); (case n1q714 => exact rfl); (case n2q714 => exact rfl); (case n3q714 => first | exact rfl | (with_unfolding_all rfl) | decide | kernel_rfl))))); (case b723 => ((with_reducible refine' ExpS.call ?x722 ?k722 ?a722); (case x722 => (refine' NamS.globB ?nxq717 ?nsq717 ?neq717 ?ndq717; (case nxq717 => k_is); (case nsq717 => first | exact rfl | (with_unfolding_all rfl) | decide | kernel_rfl); (case neq717 => (intros; first | exact rfl | (with_unfolding_all rfl) | decide)); (case ndq717 => first | exact rfl | (with_unfolding_all rfl) | decide | kernel_rfl))); (case k722 => k_is); (case a722 => ((with_reducible refine' ArgS.cons ?as721 ?ae721 ?ar721); (case as721 => exact fun _ _ => rfl); (case ae721 => ((with_reducible refine' ExpS.cellB ?n1q718 ?n4q718 ?n2q718 ?n3q718); (case n1q718 => exact rfl); (case n4q718 => exact rfl); (case n2q718 => (intros; first | exact rfl | (with_unfolding_all rfl) | decide)); (case n3q718 => first | exact rfl | (with_unfolding_all rfl) | decide | kernel_rfl))); (case ar721 => ((with_reducible refine' ArgS.cons ?as720 ?ae720 ?ar720); (case as720 => exact fun _ _ => rfl); (case ae720 => ((with_reducible refine' ExpS.nameB ?n1q719 ?n4q719 ?n2q719 ?n3q719); (case n1q719 => exact rfl); (case n4q719 => exact rfl); (case n2q719 => (intros; first | exact rfl | (with_unfolding_all rfl) | decide)); (case n3q719 => first | exact rfl | (with_unfolding_all rfl) | decide | kernel_rfl))); (case ar720 => with_reducible exact ArgS.nil))))))))))); (case b725 => with_reducible exact BdyS.nil))
end
end
end
section
/- the three defs that go over octets, done at once: the same ends as the words have -/
theorem lookT_self : ∀ {t : Tr} {k : Nat} {o o' : O}, lookT t k = some o → lookT (updT t k o') k = some o' := by
  intro t
  induction t with
  | lf => exact fun h => nomatch (show (none : Option O) = some _ from h)
  | nd l x r il ir =>
    intro k o o' h
    cases k with
    | zero => rfl
    | succ m =>
      rw [lookT_s] at h
      rw [updT_s]
      cases hp : par m <;> rw [hp] at h <;> dsimp only at h ⊢ <;> rw [lookT_s, hp]
      · exact ir h
      · exact il h
theorem lookT_off : ∀ {t : Tr} {k k' : Nat} {o : O}, k' ≠ k → lookT (updT t k o) k' = lookT t k' := by
  intro t
  induction t with
  | lf =>
    intro k k' o h
    cases k with
    | zero =>
      cases k' with
      | zero => exact (h rfl).elim
      | succ m => rw [show updT .lf 0 o = .nd .lf o .lf from rfl, lookT_s]; cases par m <;> rfl
    | succ m => rfl
  | nd l x r il ir =>
    intro k k' o h
    cases k with
    | zero =>
      cases k' with
      | zero => exact (h rfl).elim
      | succ m => rfl
    | succ m =>
      rw [updT_s]
      cases k' with
      | zero => cases par m <;> rfl
      | succ m' =>
        have hne : par m' = par m → Nat.div m' 2 ≠ Nat.div m 2 := fun e e' => h (congrArg Nat.succ (par_inj e e'))
        cases hp : par m <;> cases hp' : par m' <;> dsimp only <;> rw [lookT_s, lookT_s, hp'] <;> dsimp only
        · exact ir (hne (hp'.trans hp.symm))
        · exact il (hne (hp'.trans hp.symm))
theorem updT_updT : ∀ {t : Tr} {k : Nat} {a b : O}, updT (updT t k a) k b = updT t k b := by
  intro t
  induction t with
  | lf => intro k a b; cases k <;> rfl
  | nd l x r il ir =>
    intro k a b
    cases k with
    | zero => rfl
    | succ m =>
      rw [updT_s, updT_s]
      cases hp : par m <;> dsimp only <;> rw [updT_s, hp] <;> dsimp only
      · rw [ir]
      · rw [il]
theorem lookO_self : ∀ {t : T} {k : Nat} {o o' : O}, lookO t k = some o → lookO (upd t k o') k = some o' := by
  intro t
  induction t with
  | lf => exact fun h => nomatch (show (none : Option O) = some _ from h)
  | sg b t r ih =>
    intro k o o' h
    rw [lookO_sg] at h
    rw [upd_sg]
    cases hb : Nat.ble b k <;> rw [hb] at h <;> dsimp only at h ⊢ <;> rw [lookO_sg, hb]
    · exact ih h
    · exact lookT_self h
theorem lookO_off : ∀ {t : T} {k k' : Nat} {o : O}, k' ≠ k → lookO (upd t k o) k' = lookO t k' := by
  intro t
  induction t with
  | lf => exact fun _ => rfl
  | sg b t r ih =>
    intro k k' o h
    rw [upd_sg]
    cases hb : Nat.ble b k <;> dsimp only <;> rw [lookO_sg, lookO_sg] <;> cases hb' : Nat.ble b k' <;> dsimp only
    · exact ih h
    · exact lookT_off fun e => h (by
        have h1 := Nat.le_of_ble_eq_true hb
        have h2 := Nat.le_of_ble_eq_true hb'
        have e : k' - b = k - b := e
        omega)
theorem upd_upd : ∀ {t : T} {k : Nat} {a b : O}, upd (upd t k a) k b = upd t k b := by
  intro t
  induction t with
  | lf => exact rfl
  | sg c t r ih =>
    intro k a b
    rw [upd_sg, upd_sg]
    cases hb : Nat.ble c k <;> dsimp only <;> rw [upd_sg, hb] <;> dsimp only
    · rw [ih]
    · rw [updT_updT]
theorem look_of {t : T} {k : Nat} {o : O} {f : O → R} (h : lookO t k = some o) : look t k f = f o := by
  unfold look; rw [h]
noncomputable section
/-- l with z (numbers) laid at the place a -/
noncomputable def splZ (z : List V) : List V → (List V → R) → R := List.rec (motive := fun _ => List V → (List V → R) → R) (fun l k => k l) (fun x _ ih l k => isInt x fun n => List.rec (motive := fun _ => R) .bad (fun _ l _ => ih l fun r => k (.n n :: r)) l) z
noncomputable def spl (a : Nat) (z : List V) : List V → (List V → R) → R := Nat.rec (motive := fun _ => List V → (List V → R) → R) (splZ z) (fun _ ih l k => List.rec (motive := fun _ => R) .bad (fun y l _ => ih l fun r => k (y :: r)) l) a
noncomputable def wrF (l : List V) (s : St) : R := on3 l fun x y z => onSt s fun nx t pn => dctOf (.mk nx t pn) x fun _ d => getL d 1 fun o => isRef o fun k => look t k fun ol => onLst ol fun ol => isInt y fun a => lstOf (.mk nx t pn) z fun kz zl => ifB (Nat.beq kz k) .bad (ifB (memN k pn) .bad (List.rec (motive := fun _ => R) .bad (fun _ _ _ => spl a zl ol fun l => frcT (upd t k (.lst l)) fun t => .v .o (.mk nx t pn)) zl))
noncomputable def stl (z : List V) : Nat → List V → List V := List.rec (motive := fun _ => Nat → List V → List V) (fun _ l => l) (fun x _ ih a l => ih (a + 1) (setL l a x)) z
end
theorem stl_cons (x : V) (z : List V) (a : Nat) (l : List V) : stl (x :: z) a l = stl z (a + 1) (setL l a x) := rfl
theorem stl_skip : ∀ (z : List V) (a : Nat) (y : V) (l : List V), stl z (a + 1) (y :: l) = y :: stl z a l
  | [], _, _, _ => rfl
  | x :: z, a, y, l => by rw [stl_cons, stl_cons]; exact stl_skip z (a + 1) y (setL l a x)
theorem splZ_inv {P : R → Prop} (hb : ¬ P .bad) : ∀ {z l : List V} {k : List V → R}, P (splZ z l k) → (∀ x ∈ z, ∃ n, x = .n n) ∧ z.length ≤ l.length ∧ P (k (stl z 0 l))
  | [], l, k, h => ⟨(fun _ h => nomatch h), Nat.zero_le _, h⟩
  | x :: z, l, k, h => by
    obtain ⟨n, rfl, h⟩ := isInt_bad hb (show P (isInt x fun n => List.rec (motive := fun _ => R) .bad (fun _ l _ => splZ z l fun r => k (.n n :: r)) l) from h)
    cases l with
    | nil => exact (hb h).elim
    | cons y l =>
      obtain ⟨h1, h2, h3⟩ := splZ_inv hb (show P (splZ z l fun r => k (.n n :: r)) from h)
      refine ⟨fun x hx => (List.mem_cons.mp hx).elim (fun e => ⟨n, e⟩) (h1 x), Nat.succ_le_succ h2, ?_⟩
      rw [stl_cons]
      show P (k (stl z (0 + 1) (V.n n :: l)))
      rw [stl_skip]
      exact h3
theorem spl_inv {P : R → Prop} (hb : ¬ P .bad) : ∀ {a : Nat} {z l : List V} {k : List V → R}, P (spl a z l k) → (∀ x ∈ z, ∃ n, x = .n n) ∧ a + z.length ≤ l.length ∧ P (k (stl z a l))
  | 0, z, l, k, h => by rw [Nat.zero_add]; exact splZ_inv hb h
  | a + 1, z, l, k, h => by
    cases l with
    | nil => exact (hb h).elim
    | cons y l =>
      obtain ⟨h1, h2, h3⟩ := spl_inv hb (show P (spl a z l fun r => k (y :: r)) from h)
      refine ⟨h1, (by rw [List.length_cons]; omega), ?_⟩
      rw [stl_skip]
      exact h3
theorem getL_of {α : Type} : ∀ {l : List α} {n : Nat} {x : α} {f : α → R}, l[n]? = some x → getL l n f = f x
  | [], _, _, _, h => by simp at h
  | y :: l, 0, x, f, h => by cases h; rfl
  | y :: l, n + 1, x, f, h => getL_of (l := l) (n := n) h
section
variable {c : Cl} {q dd k a nx : Nat} {t : T} {pn : List Nat} {d ol : List V}
noncomputable def wrB : Wd := seqW (sixW (varW 4) (attW 1 (varW 0)) (binW addV (varW 1) (varW 3))) nopW
theorem att1_eq {r : List V} (hq : lookO t q = some (.ins dd)) (hd : lookO t dd = some (.dct d)) (h1 : d[1]? = some (.r k)) : attW 1 (varW 0) c (.r q :: r) (.mk nx t pn) = .v (.r k) (.mk nx t pn) := by
  show look t q (fun o => onIns o fun d => look t d fun o => onDct o fun l => getL l 1 fun x => notU x (.v x (.mk nx t pn))) = _
  rw [look_of hq]
  show look t dd (fun o => onDct o fun l => getL l 1 fun x => notU x (.v x (.mk nx t pn))) = _
  rw [look_of hd]
  show getL d 1 (fun x => notU x (.v x (.mk nx t pn))) = _
  rw [getL_of h1]
  rfl
theorem wrB_eq {z : V} {i v : Nat} (hq : lookO t q = some (.ins dd)) (hd : lookO t dd = some (.dct d)) (h1 : d[1]? = some (.r k)) (hk : lookO t k = some (.lst ol)) (hm : memN k pn = false) (hlt : a + i < ol.length) :
    wrB c [.r q, .n a, z, .n i, .n v] (.mk nx t pn) = .nx [.r q, .n a, z, .n i, .n v] (.mk nx (upd t k (.lst (setL ol (a + i) (.n v)))) pn) := by
  have e1 : attW 1 (varW 0) c [.r q, .n a, z, .n i, .n v] (.mk nx t pn) = .v (.r k) (.mk nx t pn) := att1_eq hq hd h1
  have e2 : binW addV (varW 1) (varW 3) c [.r q, .n a, z, .n i, .n v] (.mk nx t pn) = .v (.n (a + i)) (.mk nx t pn) := frcN_eq (a + i) fun z => .v (.n z) (.mk nx t pn)
  have e3 : sixW (varW 4) (attW 1 (varW 0)) (binW addV (varW 1) (varW 3)) c [.r q, .n a, z, .n i, .n v] (.mk nx t pn) = .nx [.r q, .n a, z, .n i, .n v] (.mk nx (upd t k (.lst (setL ol (a + i) (.n v)))) pn) := by
    unfold sixW
    show bnd (attW 1 (varW 0) c [.r q, .n a, z, .n i, .n v] (.mk nx t pn)) _ = _
    rw [e1]
    show bnd (binW addV (varW 1) (varW 3) c [.r q, .n a, z, .n i, .n v] (.mk nx t pn)) _ = _
    rw [e2]
    show look t k _ = _
    rw [look_of hk]
    show getL ol (a + i) _ = _
    rw [getL_of (List.getElem?_eq_getElem hlt), frcL_eq]
    show ifB (memN k pn) .bad (frcT _ _) = _
    rw [hm, frcT_eq]
    rfl
  unfold wrB seqW
  rw [e3]
  rfl
theorem wr_loop {κ : List V → St → R} {z : V} (hq : q ≠ k) (hd : dd ≠ k) (h1 : d[1]? = some (.r k)) (hm : memN k pn = false) : ∀ (zl : List V) (i : Nat) (u3 u4 : V) (t : T) (ol : List V), lookO t q = some (.ins dd) → lookO t dd = some (.dct d) → lookO t k = some (.lst ol) → (∀ x ∈ zl, ∃ n, x = .n n) → a + i + zl.length ≤ ol.length → zl ≠ [] →
    ∃ m', forL (fun i => fun x m s => bnds (asgN 3 (.n i) m s) fun m s => asgN 4 x m s) wrB c κ zl i [.r q, .n a, z, u3, u4] (.mk nx t pn) = κ m' (.mk nx (upd t k (.lst (stl zl (a + i) ol))) pn)
  | [], _, _, _, _, _, _, _, _, _, _, h => (h rfl).elim
  | x :: zl, i, u3, u4, t, ol, g1, g2, g3, g4, g5, _ => by
    obtain ⟨v, rfl⟩ := g4 x (.head _)
    rw [List.length_cons] at g5
    have e := wrB_eq (c := c) (nx := nx) (z := z) (v := v) g1 g2 h1 g3 hm (show a + i < ol.length by omega)
    have key : forL (fun i => fun x m s => bnds (asgN 3 (.n i) m s) fun m s => asgN 4 x m s) wrB c κ (.n v :: zl) i [.r q, .n a, z, u3, u4] (.mk nx t pn) =
        forL (fun i => fun x m s => bnds (asgN 3 (.n i) m s) fun m s => asgN 4 x m s) wrB c κ zl (i + 1) [.r q, .n a, z, .n i, .n v] (.mk nx (upd t k (.lst (setL ol (a + i) (.n v)))) pn) := by
      show bndsN (wrB c [.r q, .n a, z, .n i, .n v] (.mk nx t pn)) _ = _
      rw [e]
      rfl
    rw [key]
    cases zl with
    | nil => exact ⟨_, rfl⟩
    | cons y zl =>
      obtain ⟨m', h⟩ := wr_loop (κ := κ) (z := z) hq hd h1 hm (y :: zl) (i + 1) (.n i) (.n v) (upd t k (.lst (setL ol (a + i) (.n v)))) (setL ol (a + i) (.n v)) ((lookO_off hq).trans g1) ((lookO_off hd).trans g2) (lookO_self g3) (fun x hx => g4 x (.tail _ hx)) (by rw [setL_eq, List.length_set]; omega) (fun h => nomatch h)
      exact ⟨m', by rw [h, upd_upd]; rfl⟩
end
theorem off_of {t : T} {i j : Nat} {o o' : O} (h : lookO t i = some o) (h' : lookO t j = some o') (hne : o ≠ o') : i ≠ j := fun e => hne (Option.some.inj (h.symm.trans (e ▸ h')))
theorem oct_inv {P : R → Prop} (hb : ¬ P .bad) {x : V} {nx : Nat} {t : T} {pn : List Nat} {F : Nat → List V → R} (h : P (dctOf (.mk nx t pn) x fun _ d => getL d 1 fun o => isRef o fun k => look t k fun ol => onLst ol (F k))) :
    ∃ q dd d k ol, x = .r q ∧ lookO t q = some (.ins dd) ∧ lookO t dd = some (.dct d) ∧ d[1]? = some (.r k) ∧ lookO t k = some (.lst ol) ∧ P (F k ol) := by
  obtain ⟨q, rfl, h⟩ := isRef_bad hb h
  obtain ⟨o, g1, h⟩ := look_bad hb h
  obtain ⟨dd, rfl, h⟩ := onIns_bad hb h
  obtain ⟨o, g2, h⟩ := look_bad hb h
  obtain ⟨d, rfl, h⟩ := onDct_bad hb h
  obtain ⟨o, h1, h⟩ := getL_bad hb h
  obtain ⟨k, rfl, h⟩ := isRef_bad (v := o) hb h
  obtain ⟨o, g3, h⟩ := look_bad hb h
  obtain ⟨ol, rfl, h⟩ := onLst_bad hb h
  exact ⟨q, dd, d, k, ol, rfl, g1, g2, h1, g3, h⟩
theorem wr_word {P : R → Prop} (hb : ¬ P .bad) {c : Cl} {args : List V} {nx : Nat} {t : T} {pn : List Nat} (h : P (wrF args (.mk nx t pn))) : P (fnW writeB 3 [.u, .u] c args (.mk nx t pn)) := by
  obtain ⟨x, y, z, rfl, h⟩ := on3_bad hb h
  obtain ⟨q, dd, d, k, ol, rfl, g1, g2, h1, g3, h⟩ := oct_inv hb h
  obtain ⟨a, rfl, h⟩ := isInt_bad (v := y) hb h
  obtain ⟨kz, zl, rfl, gz, h⟩ := lstOf_bad (v := z) hb h
  obtain ⟨m1, h⟩ := ifN_bad hb h
  obtain ⟨m2, h⟩ := ifN_bad hb h
  have hm : memN k (kz :: pn) = false := by show Bool.rec (memN k pn) true (Nat.beq kz k) = false; rw [m1]; exact m2
  cases zl with
  | nil => exact (hb h).elim
  | cons w zl =>
    obtain ⟨n1, n2, h⟩ := spl_inv (z := w :: zl) (a := a) (l := ol) hb h
    rw [frcT_eq] at h
    obtain ⟨m', e⟩ := wr_loop (c := c) (κ := fun m s => unpS s fun s => .nx m s) (nx := nx) (z := .r kz) (off_of g1 g3 (fun e => nomatch e)) (off_of g2 g3 (fun e => nomatch e)) h1 hm (w :: zl) 0 .u .u t ol g1 g2 g3 n1 n2 (fun h => nomatch h)
    have e2 : enuW (asgN 3) (asgN 4) (varW 2) wrB c [.r q, .n a, .r kz, .u, .u] (.mk nx t pn) = .nx m' (.mk nx (upd t k (.lst (stl (w :: zl) a ol))) pn) := by
      show look t kz _ = _
      rw [look_of gz]
      exact e
    have e3 : fnW writeB 3 [.u, .u] c [.r q, .n a, .r kz] (.mk nx t pn) = .v .o (.mk nx (upd t k (.lst (stl (w :: zl) a ol))) pn) := by
      show fin (bnds (enuW (asgN 3) (asgN 4) (varW 2) wrB c [.r q, .n a, .r kz, .u, .u] (.mk nx t pn)) _) = _
      rw [e2]
      rfl
    rw [e3]
    exact h
section
variable {w : World} {mean : ExcName → Option Value} {mg mb : Str → Option Value} {zs : List Int}
theorem write_f : ∀ n c, CallOk w mean mg mb zs c n → FnOk w mean mg mb zs (n + 1) 75 wrF := fun n c hc args σ K φ vs s Q E G S r P => by
  obtain ⟨nx, t, pn⟩ := σ
  exact write_t n c hc args _ K φ vs s Q E G S r (wr_word (P := PostV zs K φ s Q E) PostV.nb P)
end
noncomputable section
noncomputable def vnL (l : List Nat) : List V := List.rec (motive := fun _ => List V) [] (fun x _ ih => .n x :: ih) l
noncomputable def ocF (l : List V) (s : St) : R := on1 l fun x => isS x fun z => newS s (.lst (vnL z))
noncomputable def natC (l : List V) : (List Nat → R) → R := List.rec (motive := fun _ => (List Nat → R) → R) (fun k => k []) (fun x _ ih k => isInt x fun n => ifB (Nat.blt n 128) (ih fun z => k (n :: z)) .bad) l
noncomputable def txF (l : List V) (s : St) : R := on2 l fun x y => onSt s fun nx t pn => dctOf (.mk nx t pn) x fun _ d => getL d 1 fun o => isRef o fun k => look t k fun ol => onLst ol fun ol => lstOf (.mk nx t pn) y fun _ p => on2 p fun a b => isInt a fun a => isInt b fun b =>
  frcT (upd t nx (.lst (tke b (drp a ol)))) fun t => look t nx fun o => onLst o fun sl => natC sl fun z => frcN (nx + 1) fun n1 => frcT (upd t n1 (.lst (sgnV z))) fun t => look t n1 fun o => onLst o fun _ => frcN (n1 + 1) fun n2 => lim z (.v (.s z) (.mk n2 t pn))
end
theorem oc_loop {c : Cl} {x : V} : ∀ (l : List Nat) (κ : List V → St → R) (s : St), lcL 1 (funW ordF [varW 1]) c [x, .u] (sgnV l) κ s = κ (vnL l) s
  | [], _, _ => rfl
  | a :: l, κ, s => oc_loop l (fun z s => κ (.n a :: z) s) s
theorem oc_word {P : R → Prop} (hb : ¬ P .bad) {c : Cl} {args : List V} {s : St} (h : P (ocF args s)) : P (fnW octetsB 1 [.u] c args s) := by
  obtain ⟨x, rfl, h⟩ := on1_bad hb h
  obtain ⟨z, rfl, h⟩ := isS_bad (v := x) hb h
  obtain ⟨nx, t, pn⟩ := s
  have e : cmsW 1 (varW 0) (funW ordF [varW 1]) c [.s z, .u] (.mk nx t pn) = newS (.mk nx t pn) (.lst (vnL z)) := oc_loop z (fun z s => newS s (.lst z)) _
  have e3 : fnW octetsB 1 [.u] c [.s z] (.mk nx t pn) = newS (.mk nx t pn) (.lst (vnL z)) := by
    show fin (bnds (bnd (cmsW 1 (varW 0) (funW ordF [varW 1]) c [.s z, .u] (.mk nx t pn)) _) _) = _
    rw [e, newS_eq]
    rfl
  rw [e3]
  exact h
theorem natC_inv {P : R → Prop} (hb : ¬ P .bad) : ∀ {l : List V} {k : List Nat → R}, P (natC l k) → ∃ z, l = vnL z ∧ (∀ n ∈ z, Nat.blt n 128 = true) ∧ P (k z)
  | [], k, h => ⟨[], rfl, (fun _ h => nomatch h), h⟩
  | x :: l, k, h => by
    obtain ⟨n, rfl, h⟩ := isInt_bad (v := x) hb h
    obtain ⟨h1, h⟩ := ifB_bad hb (show P (ifB (Nat.blt n 128) (natC l fun z => k (n :: z)) .bad) from h)
    obtain ⟨z, rfl, h2, h3⟩ := natC_inv hb (l := l) h
    exact ⟨n :: z, rfl, fun m hm => (List.mem_cons.mp hm).elim (fun e => e ▸ h1) (h2 m), h3⟩
theorem tx_loop {c : Cl} {x y : V} : ∀ (l : List Nat) (κ : List V → St → R) (s : St), (∀ n ∈ l, Nat.blt n 128 = true) → lcL 2 (funW chrF [varW 2]) c [x, y, .u] (vnL l) κ s = κ (sgnV l) s
  | [], _, _, _ => rfl
  | a :: l, κ, s, h => by
    refine Eq.trans ?_ (tx_loop (c := c) (x := x) (y := y) l (fun z s => κ (.s [a] :: z) s) s fun n hn => h n (.tail _ hn))
    show bndN (ifB (Nat.blt a 128) (.v (.s [a]) s) .bad) _ = _
    rw [h a (.head _)]
    rfl
theorem joi_sgn : ∀ (z : List Nat) (k : List Nat → R), joiV (sgnV z) k = k z
  | [], _ => rfl
  | a :: z, k => joi_sgn z fun w => k (apl [a] w)
theorem tx_word {P : R → Prop} (hb : ¬ P .bad) {c : Cl} {args : List V} {nx : Nat} {t : T} {pn : List Nat} (h : P (txF args (.mk nx t pn))) : P (fnW textB 2 [.u] c args (.mk nx t pn)) := by
  obtain ⟨x, y, rfl, h⟩ := on2_bad hb h
  obtain ⟨q, dd, d, k, ol, rfl, g1, g2, h1, g3, h⟩ := oct_inv hb h
  obtain ⟨kp, p, rfl, gp, h⟩ := lstOf_bad (v := y) hb h
  obtain ⟨pa, pb, e1, h⟩ := on2_bad (l := p) hb h
  obtain ⟨a, e2, h⟩ := isInt_bad (v := pa) hb h
  obtain ⟨b, e3, h⟩ := isInt_bad (v := pb) hb h
  rw [frcT_eq] at h
  obtain ⟨o4, g4, h⟩ := look_bad hb h
  obtain ⟨sl, e11, h⟩ := onLst_bad (o := o4) hb h
  obtain ⟨z, e10, hz, h⟩ := natC_inv (l := sl) hb h
  rw [frcN_eq, frcT_eq] at h
  obtain ⟨o5, g5, h⟩ := look_bad hb h
  obtain ⟨l2, e12, h⟩ := onLst_bad (o := o5) hb h
  rw [frcN_eq] at h
  rw [e2, e3] at e1
  rw [e1] at gp
  rw [e11, e10] at g4
  rw [e12] at g5
  have e4 : O.lst (vnL z) = .lst (tke b (drp a ol)) := (lookO_upd _ _ _ _ _ g4).elim (fun x => x.2) fun x => (x.1 rfl).elim
  have e5 : O.lst l2 = .lst (sgnV z) := (lookO_upd _ _ _ _ _ g5).elim (fun x => x.2) fun x => (x.1 rfl).elim
  have i0 : binW itmV (varW 1) (cstW (V.n 0)) c [.r q, .r kp, .u] (.mk nx t pn) = .v (.n a) (.mk nx t pn) := by
    show look t kp _ = _
    rw [look_of gp]
    rfl
  have i1 : binW itmV (varW 1) (cstW (V.n 1)) c [.r q, .r kp, .u] (.mk nx t pn) = .v (.n b) (.mk nx t pn) := by
    show look t kp _ = _
    rw [look_of gp]
    rfl
  have i2 : binW addV (binW itmV (varW 1) (cstW (V.n 0))) (binW itmV (varW 1) (cstW (V.n 1))) c [.r q, .r kp, .u] (.mk nx t pn) = .v (.n (a + b)) (.mk nx t pn) := by
    show bnd (binW itmV (varW 1) (cstW (V.n 0)) c [.r q, .r kp, .u] (.mk nx t pn)) _ = _
    rw [i0]
    show bnd (binW itmV (varW 1) (cstW (V.n 1)) c [.r q, .r kp, .u] (.mk nx t pn)) _ = _
    rw [i1]
    exact frcN_eq (a + b) fun z => .v (.n z) (.mk nx t pn)
  have e6 : slcW (attW 1 (varW 0)) (binW itmV (varW 1) (cstW (V.n 0))) (binW addV (binW itmV (varW 1) (cstW (V.n 0))) (binW itmV (varW 1) (cstW (V.n 1)))) c [.r q, .r kp, .u] (.mk nx t pn) = .v (.r nx) (.mk (nx + 1) (upd t nx (.lst (tke b (drp a ol)))) pn) := by
    show bnd (attW 1 (varW 0) c [.r q, .r kp, .u] (.mk nx t pn)) _ = _
    rw [att1_eq g1 g2 h1]
    show bnd (binW itmV (varW 1) (cstW (V.n 0)) c [.r q, .r kp, .u] (.mk nx t pn)) _ = _
    rw [i0]
    show bnd (binW addV (binW itmV (varW 1) (cstW (V.n 0))) (binW itmV (varW 1) (cstW (V.n 1))) c [.r q, .r kp, .u] (.mk nx t pn)) _ = _
    rw [i2]
    show look t k _ = _
    rw [look_of g3]
    show frcL (tke (a + b - a) (drp a ol)) _ = _
    rw [frcL_eq, Nat.add_sub_cancel_left]
    exact newS_eq _ _ _ _
  have e7 : cmpW (fun x k => k) 2 (slcW (attW 1 (varW 0)) (binW itmV (varW 1) (cstW (V.n 0))) (binW addV (binW itmV (varW 1) (cstW (V.n 0))) (binW itmV (varW 1) (cstW (V.n 1))))) (funW chrF [varW 2]) c [.r q, .r kp, .u] (.mk nx t pn) =
      .v (.r (nx + 1)) (.mk (nx + 1 + 1) (upd (upd t nx (.lst (tke b (drp a ol)))) (nx + 1) (.lst (sgnV z))) pn) := by
    show bndN (slcW (attW 1 (varW 0)) (binW itmV (varW 1) (cstW (V.n 0))) (binW addV (binW itmV (varW 1) (cstW (V.n 0))) (binW itmV (varW 1) (cstW (V.n 1)))) c [.r q, .r kp, .u] (.mk nx t pn)) _ = _
    rw [e6]
    show look (upd t nx (.lst (tke b (drp a ol)))) nx _ = _
    rw [look_of g4]
    refine (tx_loop z (fun z s => unpS s fun s => newS s (.lst z)) (.mk (nx + 1) (upd t nx (.lst (tke b (drp a ol)))) (nx :: pn)) hz).trans ?_
    exact newS_eq _ _ _ _
  have e8 : joiW (cmpW (fun x k => k) 2 (slcW (attW 1 (varW 0)) (binW itmV (varW 1) (cstW (V.n 0))) (binW addV (binW itmV (varW 1) (cstW (V.n 0))) (binW itmV (varW 1) (cstW (V.n 1))))) (funW chrF [varW 2])) c [.r q, .r kp, .u] (.mk nx t pn) =
      lim z (.v (.s z) (.mk (nx + 1 + 1) (upd (upd t nx (.lst (tke b (drp a ol)))) (nx + 1) (.lst (sgnV z))) pn)) := by
    show bnd (cmpW (fun x k => k) 2 (slcW (attW 1 (varW 0)) (binW itmV (varW 1) (cstW (V.n 0))) (binW addV (binW itmV (varW 1) (cstW (V.n 0))) (binW itmV (varW 1) (cstW (V.n 1))))) (funW chrF [varW 2]) c [.r q, .r kp, .u] (.mk nx t pn)) _ = _
    rw [e7]
    show look _ (nx + 1) _ = _
    rw [look_of (e5 ▸ g5)]
    show joiV (sgnV z) _ = _
    rw [joi_sgn, frcL_eq]
  have h2 := lim_bad hb h
  have e9 : fnW textB 2 [.u] c [.r q, .r kp] (.mk nx t pn) = .v (.s z) (.mk (nx + 1 + 1) (upd (upd t nx (.lst (tke b (drp a ol)))) (nx + 1) (.lst (sgnV z))) pn) := by
    show fin (bnds (bnd (joiW (cmpW (fun x k => k) 2 (slcW (attW 1 (varW 0)) (binW itmV (varW 1) (cstW (V.n 0))) (binW addV (binW itmV (varW 1) (cstW (V.n 0))) (binW itmV (varW 1) (cstW (V.n 1))))) (funW chrF [varW 2])) c [.r q, .r kp, .u] (.mk nx t pn)) _) _) = _
    rw [e8]
    have hl : Nat.ble (lnL z) 1000 = true := by rw [lnL_eq]; exact Nat.ble_eq.mpr h2.1
    show fin (bnds (bnd (ifB (Nat.ble (lnL z) 1000) _ .bad) _) _) = _
    rw [hl]
    rfl
  rw [e9]
  exact h2.2
section
variable {w : World} {mean : ExcName → Option Value} {mg mb : Str → Option Value} {zs : List Int}
theorem octets_f : ∀ n c, CallOk w mean mg mb zs c n → FnOk w mean mg mb zs (n + 1) 63 ocF := fun n c hc args σ K φ vs s Q E G S r P => octets_t n c hc args _ K φ vs s Q E G S r (oc_word (P := PostV zs K φ s Q E) PostV.nb P)
theorem text_f : ∀ n c, CallOk w mean mg mb zs c n → FnOk w mean mg mb zs (n + 1) 68 txF := fun n c hc args σ K φ vs s Q E G S r P => by
  obtain ⟨nx, t, pn⟩ := σ
  exact text_t n c hc args _ K φ vs s Q E G S r (tx_word (P := PostV zs K φ s Q E) PostV.nb P)
end
end
section
noncomputable section
/-- a call: by the def's address -/
noncomputable def dsp (c : Cl) (f : Nat) (l : List V) (s : St) : R := ifB (Nat.blt f 113) (ifB (Nat.blt f 80) (ifB (Nat.blt f 68) (ifB (Nat.blt f 63) (ifB (Nat.beq f 54) (spcF l s) .bad) (ifB (Nat.beq f 63) (ocF l s) .bad)) (ifB (Nat.blt f 75) (ifB (Nat.beq f 68) (txF l s) .bad) (ifB (Nat.beq f 75) (wrF l s) .bad))) (ifB (Nat.blt f 94) (ifB (Nat.blt f 87) (ifB (Nat.beq f 80) (fnP placesB [.u, .u] c l s) .bad) (ifB (Nat.beq f 87) (fnW freeB 1 [] c l s) .bad)) (ifB (Nat.blt f 99) (ifB (Nat.beq f 94) (fnW highestB 2 [.u, .u] c l s) .bad) (ifB (Nat.blt f 106) (ifB (Nat.beq f 99) (fnN collectB 1 [.u, .u, .u, .u, .u, .u, .u] c l s) .bad) (ifB (Nat.beq f 106) (fnW allocB 2 [] c l s) .bad))))) (ifB (Nat.blt f 144) (ifB (Nat.blt f 127) (ifB (Nat.blt f 120) (ifB (Nat.beq f 113) (fnW placedB 2 [.u] c l s) .bad) (ifB (Nat.beq f 120) (fnW pushB 2 [] c l s) .bad)) (ifB (Nat.blt f 132) (ifB (Nat.beq f 127) (fnW joinwB 1 [.u, .u, .u] c l s) .bad) (ifB (Nat.blt f 139) (ifB (Nat.beq f 132) (fnW soundB 1 [.u, .u, .u, .u, .u] c l s) .bad) (ifB (Nat.beq f 139) (drwF l s) .bad)))) (ifB (Nat.blt f 158) (ifB (Nat.blt f 151) (ifB (Nat.beq f 144) (fnN waysB 2 [.u, .u, .u] c l s) .bad) (ifB (Nat.beq f 151) (fnW lawjoinB 3 [] c l s) .bad)) (ifB (Nat.blt f 163) (ifB (Nat.beq f 158) (fnW signsB 2 [.u, .u] c l s) .bad) (ifB (Nat.blt f 168) (ifB (Nat.beq f 163) (fnP leastB [.u] c l s) .bad) (ifB (Nat.beq f 168) (fnP waitingB [.u] c l s) .bad)))))
/-- calls, at most n deep -/
noncomputable def calF (n : Nat) : Cl := Nat.rec (motive := fun _ => Cl) (fun _ _ _ => .bad) (fun _ c => dsp c) n
end
section
variable {w : World} {mean : ExcName → Option Value} {mg mb : Str → Option Value} {zs : List Int}
noncomputable def DOk (w : World) (mean : ExcName → Option Value) (mg mb : Str → Option Value) (zs : List Int) (n : Nat) (f : Addr) (args : List V) (σ : St) (r : R) : Prop := ∀ (K : Kx) φ vs s Q E, K.Good w mean mg mb n → K.Sta zs φ σ s.heap → RVs φ args vs → PostV zs K φ s Q E r → wpAny (Mdl w) K.A (call (.ref f) vs) Q E s
theorem disp_if {n f k : Nat} {g : List V → St → R} {args : List V} {σ : St} {B : R} (ha : FnOk w mean mg mb zs n k g) (hb : DOk w mean mg mb zs n f args σ B) : DOk w mean mg mb zs n f args σ (ifB (Nat.beq f k) (g args σ) B) := by
  cases h : Nat.beq f k with
  | true => rw [Nat.eq_of_beq_eq_true h]; exact ha args σ
  | false => exact hb
theorem disp_br {n f : Nat} {args : List V} {σ : St} {b : Bool} {A B : R} (ha : DOk w mean mg mb zs n f args σ A) (hb : DOk w mean mg mb zs n f args σ B) : DOk w mean mg mb zs n f args σ (ifB b A B) := by
  cases b with
  | true => exact ha
  | false => exact hb
theorem disp_no {n f : Nat} {args : List V} {σ : St} : DOk w mean mg mb zs n f args σ .bad := fun _ _ _ _ _ _ _ _ _ P => P.elim
theorem call_ok (hz : zs.length ≤ 100) : ∀ n, CallOk w mean mg mb zs (calF n) n
  | 0 => fun _ _ _ _ _ _ _ _ _ _ _ _ P => P.elim
  | n + 1 => by
    have ih := call_ok hz n
    intro f args σ
    show DOk w mean mg mb zs (n + 1) f args σ (dsp (calF n) f args σ)
    unfold dsp
    exact disp_br (disp_br (disp_br (disp_br (disp_if (space_f (n + 1)) disp_no) (disp_if (octets_f n _ ih) disp_no)) (disp_br (disp_if (text_f n _ ih) disp_no) (disp_if (write_f n _ ih) disp_no))) (disp_br (disp_br (disp_if (places_t n _ ih) disp_no) (disp_if (free_t n _ ih) disp_no)) (disp_br (disp_if (highest_t n _ ih) disp_no) (disp_br (disp_if (collect_t n _ ih) disp_no) (disp_if (alloc_t n _ ih) disp_no))))) (disp_br (disp_br (disp_br (disp_if (placed_t n _ ih) disp_no) (disp_if (push_t n _ ih) disp_no)) (disp_br (disp_if (joinw_t n _ ih) disp_no) (disp_br (disp_if (sound_t n _ ih) disp_no) (disp_if (drawn_f hz (n + 1)) disp_no)))) (disp_br (disp_br (disp_if (ways_t n _ ih) disp_no) (disp_if (lawjoin_t n _ ih) disp_no)) (disp_br (disp_if (signs_t n _ ih) disp_no) (disp_br (disp_if (least_t n _ ih) disp_no) (disp_if (waiting_t n _ ih) disp_no)))))
end
end
section
/-- the law's def, as the head's type tells it -/
noncomputable def recOf {v} {l} {x} {y} {r} {d : DefRec} {k} {run} {C : Prop} (_ : WalkO v l x y r d k run → C) : DefRec := d
noncomputable def lawRec : DefRec := recOf Mine.hd
theorem fill_now2 (w : World) : Mine.hd.heap_39 w.params = Mine.hd.heap_39 w.params ∧ PySem.Challenge.rw_xm0013_01 = PySem.Challenge.rw_xm0013_01 := by
  k_fill
  exact ⟨rfl, rfl⟩
/-- the law's names -/
noncomputable def lawN : Nms := [(Str.ofString "script", false, 0), (Str.ofString "bag", true, 1), (Str.ofString "texts", false, 2), (Str.ofString "whole", false, 3), (Str.ofString "ways", false, 4), (Str.ofString "taken", false, 5), (Str.ofString "size", false, 6), (Str.ofString "space", false, 7), (Str.ofString "way", false, 8), (Str.ofString "left", false, 9)]
noncomputable section
noncomputable def law1B : Wd := cmrA 2 (capW 1) 11 (rg1 (binW addV (cstW (V.n 3)) (calW 139 [celW 1, cstW (V.n 2)]))) (binW mulU (binW itmV (cstW (V.s [107, 108, 109, 110])) (varW 11)) (binW addV (cstW (V.n 1)) (calW 139 [celW 1, cstW (V.n 3)])))
noncomputable def law2B : Wd := sw3W 3 4 5 (tupW [joiW (varW 2), calW 144 [cstW (V.n 0), funW lenF [varW 2]], lstW []])
noncomputable def law3B : Wd := sw2W 6 7 (tupW [funW lenF [varW 3], cstW V.o])
noncomputable def law4B : Wd := forW (asgN 8) (varW 4) (seqW (asgW (calW 54 [binW mulU (cstW (V.n 5)) (varW 6), cstW (V.n 4)]) (asgN 7)) (seqW (expW (calW 151 [varW 7, varW 8, varW 2])) (seqW (expW (appW (varW 5) (binW subV (binW mulU (cstW (V.n 5)) (varW 6)) (calW 87 [varW 7])))) (seqW (ifW (orW (binW neV (calW 168 [varW 7]) (lstW [varW 3])) (orW (binW neV (endW 1 (varW 5)) (binW itmV (calW 158 [varW 8, varW 2]) (cstW (V.n 1)))) (orW (binW neV (attW 7 (varW 7)) (cstW (V.n 0))) (cstW (V.b false))))) (seqW (retW (cstW (V.b false))) nopW) nopW) nopW))))
noncomputable def law5B : Wd := ifW (binW neV (funW minF [varW 5]) (calW 163 [cmpW (fun x k => k) 11 (varW 2) (funW lenF [varW 11])])) (seqW (retW (cstW (V.b false))) nopW) nopW
noncomputable def law6B : Wd := ifW (orW (binW neV (calW 99 [varW 7]) (binW subV (endW 1 (varW 5)) (varW 6))) (orW (binW neV (calW 87 [varW 7]) (binW mulU (cstW (V.n 4)) (varW 6))) (orW (binW neV (calW 168 [varW 7]) (lstW [varW 3])) (cstW (V.b false))))) (seqW (retW (cstW (V.b false))) nopW) nopW
noncomputable def law7B : Wd := sw2W 8 7 (tupW [binW itmV (varW 4) (calW 139 [celW 1, funW lenF [varW 4]]), calW 54 [binW mulU (cstW (V.n 2)) (varW 6), cstW (V.n 4)]])
noncomputable def law8B : Wd := expW (calW 151 [varW 7, varW 8, varW 2])
noncomputable def law9B : Wd := ifW (orW (binW neV (calW 168 [varW 7]) (lstW [varW 3])) (orW (notW (tstW (calW 132 [varW 7]))) (cstW (V.b false)))) (seqW (retW (cstW (V.b false))) nopW) nopW
noncomputable def law10B : Wd := asgW (calW 54 [binW subV (binW mulU (cstW (V.n 2)) (varW 6)) (cstW (V.n 1)), cstW (V.n 4)]) (asgN 7)
noncomputable def law12B : Wd := asgW (calW 168 [varW 7]) (asgN 9)
noncomputable def law13B : Wd := retW (andW (binW eqV (funW lenF [varW 9]) (cstW (V.n 2))) (andW (binW eqV (joiW (varW 9)) (varW 3)) (calW 132 [varW 7])))
end
section
variable {w : World} {mean : ExcName → Option Value} {mg mb : Str → Option Value} {zs : List Int}
theorem law1_t : ∀ st, lawRec.body[1]? = some st → ExcS w mean mg mb zs (.fn lawRec.scope lawN) st law1B := by
  intro st hst
  delta law1B lawN
  dsimp only [lawRec, recOf] at hst ⊢
  simp only [List.getElem?_cons_succ, List.getElem?_cons_zero, Option.some.injEq] at hst
  subst hst
  ((with_reducible refine' ExcS.compR (i := _) ?k24 ?c24 ?h24 ?u24 ?y24 ?v24 ?p24 ?w24 ?a24 ?b24); (case k24 => first | exact CapS.no fun _ => rfl | (refine' CapS.one ?kq1 ?nq1 ?xq1 ?jq1; (case kq1 => exact rfl); (case nq1 => exact rfl); (case xq1 => decide); (case jq1 => decide))); (case c24 => exact ⟨by decide, rfl, by decide, rfl⟩); (case h24 => exact fun _ _ => rfl); (case y24 => exact rfl); (case u24 => first | exact rfl | (with_unfolding_all rfl) | decide | kernel_rfl); (case v24 => (intros; first | exact rfl | (with_unfolding_all rfl) | decide)); (case p24 => exact rfl); (case w24 => (intros; first | exact rfl | (with_unfolding_all rfl) | decide)); (case a24 => ((with_reducible refine' RngS.one ?x11 ?b11 ?d11); (case x11 => (refine' NamS.blt ?nxq2 ?nbq2 ?nnq2 ?neq2 ?ndq2; (case nxq2 => k_is); (case nbq2 => first | boot_by_name | rfl | kernel_rfl | boot_fast); (case nnq2 => decide); (case neq2 => (intros; first | exact rfl | (with_unfolding_all rfl) | decide)); (case ndq2 => first | exact rfl | (with_unfolding_all rfl) | decide | kernel_rfl))); (case d11 => exact fun _ _ => rfl); (case b11 => ((with_reducible refine' ExpS.bin ?o10 ?a10 ?b10); (case o10 => with_reducible exact BinS.add); (case a10 => ((with_reducible refine' ExpS.int 3 ?r3); (case r3 => exact rfl))); (case b10 => ((with_reducible refine' ExpS.call ?x9 ?k9 ?a9); (case x9 => (refine' NamS.glob ?nxq4 (by first | exact .inl rfl | exact .inr rfl) ?neq4 ?ndq4; (case nxq4 => k_is); (case neq4 => (intros; first | exact rfl | (with_unfolding_all rfl) | decide)); (case ndq4 => first | exact rfl | (with_unfolding_all rfl) | decide | kernel_rfl))); (case k9 => k_is); (case a9 => ((with_reducible refine' ArgS.cons ?as8 ?ae8 ?ar8); (case as8 => exact fun _ _ => rfl); (case ae8 => ((with_reducible refine' ExpS.cell ?n1q5 ?n2q5 ?n3q5); (case n1q5 => exact rfl); (case n2q5 => exact rfl); (case n3q5 => first | exact rfl | (with_unfolding_all rfl) | decide | kernel_rfl))); (case ar8 => ((with_reducible refine' ArgS.cons ?as7 ?ae7 ?ar7); (case as7 => exact fun _ _ => rfl); (case ae7 => ((with_reducible refine' ExpS.int 2 ?r6); (case r6 => exact rfl))); (case ar7 => with_reducible exact ArgS.nil))))))))))); (case b24 => ((with_reducible refine' ExpS.bin ?o23 ?a23 ?b23); (case o23 => with_reducible exact BinS.mul); (case a23 => ((with_reducible refine' ExpS.item ?a14 ?b14 ?h14); (case a14 => ((with_reducible refine' ExpS.str [107, 108, 109, 110] ?x12 ?p12 ?q12); (case x12 => decide +kernel); (case p12 => rfl); (case q12 => decide))); (case h14 => exact fun _ _ => rfl); (case b14 => ((with_reducible refine' ExpS.nameB ?n1q13 ?n4q13 ?n2q13 ?n3q13); (case n1q13 => exact rfl); (case n4q13 => exact rfl); (case n2q13 => (intros; first | exact rfl | (with_unfolding_all rfl) | decide)); (case n3q13 => first | exact rfl | (with_unfolding_all rfl) | decide | kernel_rfl))))); (case b23 => ((with_reducible refine' ExpS.bin ?o22 ?a22 ?b22); (case o22 => with_reducible exact BinS.add); (case a22 => ((with_reducible refine' ExpS.int 1 ?r15); (case r15 => exact rfl))); (case b22 => ((with_reducible refine' ExpS.call ?x21 ?k21 ?a21); (case x21 => (refine' NamS.globB ?nxq16 ?nsq16 ?neq16 ?ndq16; (case nxq16 => k_is); (case nsq16 => first | exact rfl | (with_unfolding_all rfl) | decide | kernel_rfl); (case neq16 => (intros; first | exact rfl | (with_unfolding_all rfl) | decide)); (case ndq16 => first | exact rfl | (with_unfolding_all rfl) | decide | kernel_rfl))); (case k21 => k_is); (case a21 => ((with_reducible refine' ArgS.cons ?as20 ?ae20 ?ar20); (case as20 => exact fun _ _ => rfl); (case ae20 => ((with_reducible refine' ExpS.cellB ?n1q17 ?n4q17 ?n2q17 ?n3q17); (case n1q17 => exact rfl); (case n4q17 => exact rfl); (case n2q17 => (intros; first | exact rfl | (with_unfolding_all rfl) | decide)); (case n3q17 => first | exact rfl | (with_unfolding_all rfl) | decide | kernel_rfl))); (case ar20 => ((with_reducible refine' ArgS.cons ?as19 ?ae19 ?ar19); (case as19 => exact fun _ _ => rfl); (case ae19 => ((with_reducible refine' ExpS.int 3 ?r18); (case r18 => exact rfl))); (case ar19 => with_reducible exact ArgS.nil))))))))))))
theorem law2_t : ∀ st, lawRec.body[2]? = some st → ExcS w mean mg mb zs (.fn lawRec.scope lawN) st law2B := by
  intro st hst
  delta law2B lawN
  dsimp only [lawRec, recOf] at hst ⊢
  simp only [List.getElem?_cons_succ, List.getElem?_cons_zero, Option.some.injEq] at hst
  subst hst
  ((with_reducible refine' ExcS.swp3 ?u41 ?y41 ?k41 ?v41 ?z41 ?l41 ?o41 ?p41 ?q41 ?s41 ?r41 ?a41); (case s41 => (intros; first | exact rfl | (with_unfolding_all rfl) | decide)); (case r41 => (intros; first | exact rfl | (with_unfolding_all rfl) | decide)); (case y41 => exact rfl); (case z41 => exact rfl); (case p41 => exact rfl); (case u41 => first | exact rfl | (with_unfolding_all rfl) | decide | kernel_rfl); (case v41 => first | exact rfl | (with_unfolding_all rfl) | decide | kernel_rfl); (case o41 => first | exact rfl | (with_unfolding_all rfl) | decide | kernel_rfl); (case k41 => (intros; first | exact rfl | (with_unfolding_all rfl) | decide)); (case l41 => (intros; first | exact rfl | (with_unfolding_all rfl) | decide)); (case q41 => (intros; first | exact rfl | (with_unfolding_all rfl) | decide)); (case a41 => ((with_reducible refine' ExpS.tup ?a40 ?h40); (case a40 => ((with_reducible refine' ArgS.cons ?as39 ?ae39 ?ar39); (case as39 => exact fun _ _ => rfl); (case ae39 => ((with_reducible refine' ExpS.join ?b26 ?h26 ?m26); (case h26 => exact fun _ _ => rfl); (case m26 => exact fun _ => ⟨_, rfl⟩); (case b26 => ((with_reducible refine' ExpS.name ?n1q25 ?n2q25 ?n3q25); (case n1q25 => exact rfl); (case n2q25 => exact rfl); (case n3q25 => first | exact rfl | (with_unfolding_all rfl) | decide | kernel_rfl))))); (case ar39 => ((with_reducible refine' ArgS.cons ?as38 ?ae38 ?ar38); (case as38 => exact fun _ _ => rfl); (case ae38 => ((with_reducible refine' ExpS.call ?x35 ?k35 ?a35); (case x35 => (refine' NamS.glob ?nxq27 (by first | exact .inl rfl | exact .inr rfl) ?neq27 ?ndq27; (case nxq27 => k_is); (case neq27 => (intros; first | exact rfl | (with_unfolding_all rfl) | decide)); (case ndq27 => first | exact rfl | (with_unfolding_all rfl) | decide | kernel_rfl))); (case k35 => k_is); (case a35 => ((with_reducible refine' ArgS.cons ?as34 ?ae34 ?ar34); (case as34 => exact fun _ _ => rfl); (case ae34 => ((with_reducible refine' ExpS.int 0 ?r28); (case r28 => exact rfl))); (case ar34 => ((with_reducible refine' ArgS.cons ?as33 ?ae33 ?ar33); (case as33 => exact fun _ _ => rfl); (case ae33 => ((with_reducible refine' ExpS.fn ?x32 ?o32 ?a32); (case x32 => (refine' NamS.blt ?nxq29 ?nbq29 ?nnq29 ?neq29 ?ndq29; (case nxq29 => k_is); (case nbq29 => first | boot_by_name | rfl | kernel_rfl | boot_fast); (case nnq29 => decide); (case neq29 => (intros; first | exact rfl | (with_unfolding_all rfl) | decide)); (case ndq29 => first | exact rfl | (with_unfolding_all rfl) | decide | kernel_rfl))); (case o32 => with_reducible exact FunS.len); (case a32 => ((with_reducible refine' ArgS.cons ?as31 ?ae31 ?ar31); (case as31 => exact fun _ _ => rfl); (case ae31 => ((with_reducible refine' ExpS.name ?n1q30 ?n2q30 ?n3q30); (case n1q30 => exact rfl); (case n2q30 => exact rfl); (case n3q30 => first | exact rfl | (with_unfolding_all rfl) | decide | kernel_rfl))); (case ar31 => with_reducible exact ArgS.nil))))); (case ar33 => with_reducible exact ArgS.nil))))))); (case ar38 => ((with_reducible refine' ArgS.cons ?as37 ?ae37 ?ar37); (case as37 => exact fun _ _ => rfl); (case ae37 => ((with_reducible refine' ExpS.list ?a36 ?h36); (case a36 => with_reducible exact ArgS.nil); (case h36 => exact Nat.le_of_ble_eq_true rfl))); (case ar37 => with_reducible exact ArgS.nil))))))); (case h40 => exact Nat.le_of_ble_eq_true rfl))))
theorem law3_t : ∀ st, lawRec.body[3]? = some st → ExcS w mean mg mb zs (.fn lawRec.scope lawN) st law3B := by
  intro st hst
  delta law3B lawN
  dsimp only [lawRec, recOf] at hst ⊢
  simp only [List.getElem?_cons_succ, List.getElem?_cons_zero, Option.some.injEq] at hst
  subst hst
  ((with_reducible refine' ExcS.swp2 ?u49 ?y49 ?k49 ?v49 ?z49 ?l49 ?s49 ?r49 ?a49); (case s49 => (intros; first | exact rfl | (with_unfolding_all rfl) | decide)); (case r49 => (intros; first | exact rfl | (with_unfolding_all rfl) | decide)); (case y49 => exact rfl); (case z49 => exact rfl); (case u49 => first | exact rfl | (with_unfolding_all rfl) | decide | kernel_rfl); (case v49 => first | exact rfl | (with_unfolding_all rfl) | decide | kernel_rfl); (case k49 => (intros; first | exact rfl | (with_unfolding_all rfl) | decide)); (case l49 => (intros; first | exact rfl | (with_unfolding_all rfl) | decide)); (case a49 => ((with_reducible refine' ExpS.tup ?a48 ?h48); (case a48 => ((with_reducible refine' ArgS.cons ?as47 ?ae47 ?ar47); (case as47 => exact fun _ _ => rfl); (case ae47 => ((with_reducible refine' ExpS.fn ?x45 ?o45 ?a45); (case x45 => (refine' NamS.blt ?nxq42 ?nbq42 ?nnq42 ?neq42 ?ndq42; (case nxq42 => k_is); (case nbq42 => first | boot_by_name | rfl | kernel_rfl | boot_fast); (case nnq42 => decide); (case neq42 => (intros; first | exact rfl | (with_unfolding_all rfl) | decide)); (case ndq42 => first | exact rfl | (with_unfolding_all rfl) | decide | kernel_rfl))); (case o45 => with_reducible exact FunS.len); (case a45 => ((with_reducible refine' ArgS.cons ?as44 ?ae44 ?ar44); (case as44 => exact fun _ _ => rfl); (case ae44 => ((with_reducible refine' ExpS.name ?n1q43 ?n2q43 ?n3q43); (case n1q43 => exact rfl); (case n2q43 => exact rfl); (case n3q43 => first | exact rfl | (with_unfolding_all rfl) | decide | kernel_rfl))); (case ar44 => with_reducible exact ArgS.nil))))); (case ar47 => ((with_reducible refine' ArgS.cons ?as46 ?ae46 ?ar46); (case as46 => exact fun _ _ => rfl); (case ae46 => with_reducible exact ExpS.non); (case ar46 => with_reducible exact ArgS.nil))))); (case h48 => exact Nat.le_of_ble_eq_true rfl))))
theorem law4_t : ∀ st, lawRec.body[4]? = some st → ExcS w mean mg mb zs (.fn lawRec.scope lawN) st law4B := by
  intro st hst
  delta law4B lawN
  dsimp only [lawRec, recOf] at hst ⊢
  simp only [List.getElem?_cons_succ, List.getElem?_cons_zero, Option.some.injEq] at hst
  subst hst
  ((with_reducible refine' ExcS.for ?h115 ?t115 ?a115 ?b115); (case h115 => exact fun _ _ => rfl); (case t115 => ((with_reducible refine' AsgS.name ?u50 ?y50 ?k50); (case y50 => exact rfl); (case u50 => first | exact rfl | (with_unfolding_all rfl) | decide | kernel_rfl); (case k50 => (intros; first | exact rfl | (with_unfolding_all rfl) | decide)))); (case a115 => ((with_reducible refine' ExpS.name ?n1q51 ?n2q51 ?n3q51); (case n1q51 => exact rfl); (case n2q51 => exact rfl); (case n3q51 => first | exact rfl | (with_unfolding_all rfl) | decide | kernel_rfl))); (case b115 => ((with_reducible refine' BdyS.cons ?a114 ?b114); (case a114 => ((with_reducible refine' ExcS.asg1 ?u60 ?y60 ?k60 ?s60 ?a60); (case y60 => exact rfl); (case u60 => first | exact rfl | (with_unfolding_all rfl) | decide | kernel_rfl); (case k60 => (intros; first | exact rfl | (with_unfolding_all rfl) | decide)); (case s60 => (intros; first | exact rfl | (with_unfolding_all rfl) | decide)); (case a60 => ((with_reducible refine' ExpS.call ?x59 ?k59 ?a59); (case x59 => (refine' NamS.glob ?nxq52 (by first | exact .inl rfl | exact .inr rfl) ?neq52 ?ndq52; (case nxq52 => k_is); (case neq52 => (intros; first | exact rfl | (with_unfolding_all rfl) | decide)); (case ndq52 => first | exact rfl | (with_unfolding_all rfl) | decide | kernel_rfl))); (case k59 => k_is); (case a59 => ((with_reducible refine' ArgS.cons ?as58 ?ae58 ?ar58); (case as58 => exact fun _ _ => rfl); (case ae58 => ((with_reducible refine' ExpS.bin ?o55 ?a55 ?b55); (case o55 => with_reducible exact BinS.mul); (case a55 => ((with_reducible refine' ExpS.int 5 ?r53); (case r53 => exact rfl))); (case b55 => ((with_reducible refine' ExpS.name ?n1q54 ?n2q54 ?n3q54); (case n1q54 => exact rfl); (case n2q54 => exact rfl); (case n3q54 => first | exact rfl | (with_unfolding_all rfl) | decide | kernel_rfl))))); (case ar58 => ((with_reducible refine' ArgS.cons ?as57 ?ae57 ?ar57); (case as57 => exact fun _ _ => rfl); (case ae57 => ((with_reducible refine' ExpS.int 4 ?r56); (case r56 => exact rfl))); (case ar57 => with_reducible exact ArgS.nil))))))))); (case b114 => ((with_reducible refine' BdyS.cons ?a113 ?b113); (case a113 => ((with_reducible refine' ExcS.expr ?a69 ?i69 ?s69); (case i69 => (intros; first | exact rfl | (with_unfolding_all rfl) | decide)); (case s69 => (intros; first | exact rfl | (with_unfolding_all rfl) | decide)); (case a69 => ((with_reducible refine' ExpS.call ?x68 ?k68 ?a68); (case x68 => (refine' NamS.glob ?nxq61 (by first | exact .inl rfl | exact .inr rfl) ?neq61 ?ndq61; (case nxq61 => k_is); (case neq61 => (intros; first | exact rfl | (with_unfolding_all rfl) | decide)); (case ndq61 => first | exact rfl | (with_unfolding_all rfl) | decide | kernel_rfl))); (case k68 => k_is); (case a68 => ((with_reducible refine' ArgS.cons ?as67 ?ae67 ?ar67); (case as67 => exact fun _ _ => rfl); (case ae67 => ((with_reducible refine' ExpS.name ?n1q62 ?n2q62 ?n3q62); (case n1q62 => exact rfl); (case n2q62 => exact rfl); (case n3q62 => first | exact rfl | (with_unfolding_all rfl) | decide | kernel_rfl))); (case ar67 => ((with_reducible refine' ArgS.cons ?as66 ?ae66 ?ar66); (case as66 => exact fun _ _ => rfl); (case ae66 => ((with_reducible refine' ExpS.name ?n1q63 ?n2q63 ?n3q63); (case n1q63 => exact rfl); (case n2q63 => exact rfl); (case n3q63 => first | exact rfl | (with_unfolding_all rfl) | decide | kernel_rfl))); (case ar66 => ((with_reducible refine' ArgS.cons ?as65 ?ae65 ?ar65); (case as65 => exact fun _ _ => rfl); (case ae65 => ((with_reducible refine' ExpS.name ?n1q64 ?n2q64 ?n3q64); (case n1q64 => exact rfl); (case n2q64 => exact rfl); (case n3q64 => first | exact rfl | (with_unfolding_all rfl) | decide | kernel_rfl))); (case ar65 => with_reducible exact ArgS.nil))))))))))); (case b113 => ((with_reducible refine' BdyS.cons ?a112 ?b112); (case a112 => ((with_reducible refine' ExcS.expr ?a80 ?i80 ?s80); (case i80 => (intros; first | exact rfl | (with_unfolding_all rfl) | decide)); (case s80 => (intros; first | exact rfl | (with_unfolding_all rfl) | decide)); (case a80 => ((with_reducible refine' ExpS.append ?a79 ?b79 ?h79 ?m79); (case h79 => exact fun _ _ => rfl); (case m79 => exact fun _ => ⟨_, rfl⟩); (case a79 => ((with_reducible refine' ExpS.name ?n1q70 ?n2q70 ?n3q70); (case n1q70 => exact rfl); (case n2q70 => exact rfl); (case n3q70 => first | exact rfl | (with_unfolding_all rfl) | decide | kernel_rfl))); (case b79 => ((with_reducible refine' ExpS.bin ?o78 ?a78 ?b78); (case o78 => with_reducible exact BinS.sub); (case a78 => ((with_reducible refine' ExpS.bin ?o73 ?a73 ?b73); (case o73 => with_reducible exact BinS.mul); (case a73 => ((with_reducible refine' ExpS.int 5 ?r71); (case r71 => exact rfl))); (case b73 => ((with_reducible refine' ExpS.name ?n1q72 ?n2q72 ?n3q72); (case n1q72 => exact rfl); (case n2q72 => exact rfl); (case n3q72 => first | exact rfl | (with_unfolding_all rfl) | decide | kernel_rfl))))); (case b78 => ((with_reducible refine' ExpS.call ?x77 ?k77 ?a77); (case x77 => (refine' NamS.glob ?nxq74 (by first | exact .inl rfl | exact .inr rfl) ?neq74 ?ndq74; (case nxq74 => k_is); (case neq74 => (intros; first | exact rfl | (with_unfolding_all rfl) | decide)); (case ndq74 => first | exact rfl | (with_unfolding_all rfl) | decide | kernel_rfl))); (case k77 => k_is); (case a77 => ((with_reducible refine' ArgS.cons ?as76 ?ae76 ?ar76); (case as76 => exact fun _ _ => rfl); (case ae76 => ((with_reducible refine' ExpS.name ?n1q75 ?n2q75 ?n3q75); (case n1q75 => exact rfl); (case n2q75 => exact rfl); (case n3q75 => first | exact rfl | (with_unfolding_all rfl) | decide | kernel_rfl))); (case ar76 => with_reducible exact ArgS.nil))))))))))); (case b112 => ((with_reducible refine' BdyS.cons ?a111 ?b111); (case a111 => ((with_reducible refine' ExcS.if ?t110 ?a110 ?b110); (case t110 => ((with_reducible refine' TstS.or ?a107 ?b107); (case a107 => ((with_reducible refine' TstS.cmp ?o88 ?a88 ?b88 ?m88); (case o88 => with_reducible exact CmpS.ne); (case a88 => ((with_reducible refine' ExpS.call ?x84 ?k84 ?a84); (case x84 => (refine' NamS.glob ?nxq81 (by first | exact .inl rfl | exact .inr rfl) ?neq81 ?ndq81; (case nxq81 => k_is); (case neq81 => (intros; first | exact rfl | (with_unfolding_all rfl) | decide)); (case ndq81 => first | exact rfl | (with_unfolding_all rfl) | decide | kernel_rfl))); (case k84 => k_is); (case a84 => ((with_reducible refine' ArgS.cons ?as83 ?ae83 ?ar83); (case as83 => exact fun _ _ => rfl); (case ae83 => ((with_reducible refine' ExpS.name ?n1q82 ?n2q82 ?n3q82); (case n1q82 => exact rfl); (case n2q82 => exact rfl); (case n3q82 => first | exact rfl | (with_unfolding_all rfl) | decide | kernel_rfl))); (case ar83 => with_reducible exact ArgS.nil))))); (case b88 => ((with_reducible refine' ExpS.list ?a87 ?h87); (case a87 => ((with_reducible refine' ArgS.cons ?as86 ?ae86 ?ar86); (case as86 => exact fun _ _ => rfl); (case ae86 => ((with_reducible refine' ExpS.name ?n1q85 ?n2q85 ?n3q85); (case n1q85 => exact rfl); (case n2q85 => exact rfl); (case n3q85 => first | exact rfl | (with_unfolding_all rfl) | decide | kernel_rfl))); (case ar86 => with_reducible exact ArgS.nil))); (case h87 => exact Nat.le_of_ble_eq_true rfl))); (case m88 => first | exact rfl | (with_unfolding_all rfl) | decide | kernel_rfl))); (case b107 => ((with_reducible refine' TstS.or ?a106 ?b106); (case a106 => ((with_reducible refine' TstS.cmp ?o99 ?a99 ?b99 ?m99); (case o99 => with_reducible exact CmpS.ne); (case a99 => ((with_reducible refine' ExpS.last 1 ?l90 ?q90 ?a90); (case l90 => decide); (case q90 => exact rfl); (case a90 => ((with_reducible refine' ExpS.name ?n1q89 ?n2q89 ?n3q89); (case n1q89 => exact rfl); (case n2q89 => exact rfl); (case n3q89 => first | exact rfl | (with_unfolding_all rfl) | decide | kernel_rfl))))); (case b99 => ((with_reducible refine' ExpS.item ?a98 ?b98 ?h98); (case a98 => ((with_reducible refine' ExpS.call ?x96 ?k96 ?a96); (case x96 => (refine' NamS.glob ?nxq91 (by first | exact .inl rfl | exact .inr rfl) ?neq91 ?ndq91; (case nxq91 => k_is); (case neq91 => (intros; first | exact rfl | (with_unfolding_all rfl) | decide)); (case ndq91 => first | exact rfl | (with_unfolding_all rfl) | decide | kernel_rfl))); (case k96 => k_is); (case a96 => ((with_reducible refine' ArgS.cons ?as95 ?ae95 ?ar95); (case as95 => exact fun _ _ => rfl); (case ae95 => ((with_reducible refine' ExpS.name ?n1q92 ?n2q92 ?n3q92); (case n1q92 => exact rfl); (case n2q92 => exact rfl); (case n3q92 => first | exact rfl | (with_unfolding_all rfl) | decide | kernel_rfl))); (case ar95 => ((with_reducible refine' ArgS.cons ?as94 ?ae94 ?ar94); (case as94 => exact fun _ _ => rfl); (case ae94 => ((with_reducible refine' ExpS.name ?n1q93 ?n2q93 ?n3q93); (case n1q93 => exact rfl); (case n2q93 => exact rfl); (case n3q93 => first | exact rfl | (with_unfolding_all rfl) | decide | kernel_rfl))); (case ar94 => with_reducible exact ArgS.nil))))))); (case h98 => exact fun _ _ => rfl); (case b98 => ((with_reducible refine' ExpS.int 1 ?r97); (case r97 => exact rfl))))); (case m99 => first | exact rfl | (with_unfolding_all rfl) | decide | kernel_rfl))); (case b106 => ((with_reducible refine' TstS.or ?a105 ?b105); (case a105 => ((with_reducible refine' TstS.cmp ?o104 ?a104 ?b104 ?m104); (case o104 => with_reducible exact CmpS.ne); (case a104 => ((with_reducible refine' ExpS.attr 7 ?a102 ?h102); (case h102 => (refine' ⟨?a1q101, ?a2q101, ?a3q101, ?a5q101⟩; (case a1q101 => k_is); (case a2q101 => k_is); (case a3q101 => k_is); (case a5q101 => (intros; rename some _ = some _ => h9; cases h9; with_unfolding_all rfl)))); (case a102 => ((with_reducible refine' ExpS.name ?n1q100 ?n2q100 ?n3q100); (case n1q100 => exact rfl); (case n2q100 => exact rfl); (case n3q100 => first | exact rfl | (with_unfolding_all rfl) | decide | kernel_rfl))))); (case b104 => ((with_reducible refine' ExpS.int 0 ?r103); (case r103 => exact rfl))); (case m104 => first | exact rfl | (with_unfolding_all rfl) | decide | kernel_rfl))); (case b105 => with_reducible exact TstS.or0))))))); (case a110 => ((with_reducible refine' BdyS.cons ?a109 ?b109); (case a109 => ((with_reducible refine' ExcS.ret ?a108); (case a108 => with_reducible exact ExpS.bool))); (case b109 => with_reducible exact BdyS.nil))); (case b110 => with_reducible exact BdyS.nil))); (case b111 => with_reducible exact BdyS.nil))))))))))
theorem law5_t : ∀ st, lawRec.body[5]? = some st → ExcS w mean mg mb zs (.fn lawRec.scope lawN) st law5B := by
  intro st hst
  delta law5B lawN
  dsimp only [lawRec, recOf] at hst ⊢
  simp only [List.getElem?_cons_succ, List.getElem?_cons_zero, Option.some.injEq] at hst
  subst hst
  ((with_reducible refine' ExcS.if ?t133 ?a133 ?b133); (case t133 => ((with_reducible refine' TstS.cmp ?o130 ?a130 ?b130 ?m130); (case o130 => with_reducible exact CmpS.ne); (case a130 => ((with_reducible refine' ExpS.fn ?x119 ?o119 ?a119); (case x119 => (refine' NamS.blt ?nxq116 ?nbq116 ?nnq116 ?neq116 ?ndq116; (case nxq116 => k_is); (case nbq116 => first | boot_by_name | rfl | kernel_rfl | boot_fast); (case nnq116 => decide); (case neq116 => (intros; first | exact rfl | (with_unfolding_all rfl) | decide)); (case ndq116 => first | exact rfl | (with_unfolding_all rfl) | decide | kernel_rfl))); (case o119 => with_reducible exact FunS.min); (case a119 => ((with_reducible refine' ArgS.cons ?as118 ?ae118 ?ar118); (case as118 => exact fun _ _ => rfl); (case ae118 => ((with_reducible refine' ExpS.name ?n1q117 ?n2q117 ?n3q117); (case n1q117 => exact rfl); (case n2q117 => exact rfl); (case n3q117 => first | exact rfl | (with_unfolding_all rfl) | decide | kernel_rfl))); (case ar118 => with_reducible exact ArgS.nil))))); (case b130 => ((with_reducible refine' ExpS.call ?x129 ?k129 ?a129); (case x129 => (refine' NamS.glob ?nxq120 (by first | exact .inl rfl | exact .inr rfl) ?neq120 ?ndq120; (case nxq120 => k_is); (case neq120 => (intros; first | exact rfl | (with_unfolding_all rfl) | decide)); (case ndq120 => first | exact rfl | (with_unfolding_all rfl) | decide | kernel_rfl))); (case k129 => k_is); (case a129 => ((with_reducible refine' ArgS.cons ?as128 ?ae128 ?ar128); (case as128 => exact fun _ _ => rfl); (case ae128 => ((with_reducible refine' ExpS.compL (i := _) ?k127 ?s127 ?h127 ?a127 ?b127); (case k127 => first | exact CapS.no fun _ => rfl | (refine' CapS.one ?kq121 ?nq121 ?xq121 ?jq121; (case kq121 => exact rfl); (case nq121 => exact rfl); (case xq121 => decide); (case jq121 => decide))); (case s127 => exact ⟨by decide, rfl, by decide, rfl⟩); (case h127 => exact fun _ _ => rfl); (case a127 => ((with_reducible refine' ExpS.name ?n1q122 ?n2q122 ?n3q122); (case n1q122 => exact rfl); (case n2q122 => exact rfl); (case n3q122 => first | exact rfl | (with_unfolding_all rfl) | decide | kernel_rfl))); (case b127 => ((with_reducible refine' ExpS.fn ?x126 ?o126 ?a126); (case x126 => (refine' NamS.bltB ?nxq123 ?nbq123 ?nnq123 ?nsq123 ?neq123 ?ndq123; (case nxq123 => k_is); (case nbq123 => first | boot_by_name | rfl | kernel_rfl | boot_fast); (case nnq123 => decide); (case nsq123 => first | exact rfl | (with_unfolding_all rfl) | decide | kernel_rfl); (case neq123 => (intros; first | exact rfl | (with_unfolding_all rfl) | decide)); (case ndq123 => first | exact rfl | (with_unfolding_all rfl) | decide | kernel_rfl))); (case o126 => with_reducible exact FunS.len); (case a126 => ((with_reducible refine' ArgS.cons ?as125 ?ae125 ?ar125); (case as125 => exact fun _ _ => rfl); (case ae125 => ((with_reducible refine' ExpS.nameB ?n1q124 ?n4q124 ?n2q124 ?n3q124); (case n1q124 => exact rfl); (case n4q124 => exact rfl); (case n2q124 => (intros; first | exact rfl | (with_unfolding_all rfl) | decide)); (case n3q124 => first | exact rfl | (with_unfolding_all rfl) | decide | kernel_rfl))); (case ar125 => with_reducible exact ArgS.nil))))))); (case ar128 => with_reducible exact ArgS.nil))))); (case m130 => first | exact rfl | (with_unfolding_all rfl) | decide | kernel_rfl))); (case a133 => ((with_reducible refine' BdyS.cons ?a132 ?b132); (case a132 => ((with_reducible refine' ExcS.ret ?a131); (case a131 => with_reducible exact ExpS.bool))); (case b132 => with_reducible exact BdyS.nil))); (case b133 => with_reducible exact BdyS.nil))
theorem law6_t : ∀ st, lawRec.body[6]? = some st → ExcS w mean mg mb zs (.fn lawRec.scope lawN) st law6B := by
  intro st hst
  delta law6B lawN
  dsimp only [lawRec, recOf] at hst ⊢
  simp only [List.getElem?_cons_succ, List.getElem?_cons_zero, Option.some.injEq] at hst
  subst hst
  ((with_reducible refine' ExcS.if ?t164 ?a164 ?b164); (case t164 => ((with_reducible refine' TstS.or ?a161 ?b161); (case a161 => ((with_reducible refine' TstS.cmp ?o142 ?a142 ?b142 ?m142); (case o142 => with_reducible exact CmpS.ne); (case a142 => ((with_reducible refine' ExpS.call ?x137 ?k137 ?a137); (case x137 => (refine' NamS.glob ?nxq134 (by first | exact .inl rfl | exact .inr rfl) ?neq134 ?ndq134; (case nxq134 => k_is); (case neq134 => (intros; first | exact rfl | (with_unfolding_all rfl) | decide)); (case ndq134 => first | exact rfl | (with_unfolding_all rfl) | decide | kernel_rfl))); (case k137 => k_is); (case a137 => ((with_reducible refine' ArgS.cons ?as136 ?ae136 ?ar136); (case as136 => exact fun _ _ => rfl); (case ae136 => ((with_reducible refine' ExpS.name ?n1q135 ?n2q135 ?n3q135); (case n1q135 => exact rfl); (case n2q135 => exact rfl); (case n3q135 => first | exact rfl | (with_unfolding_all rfl) | decide | kernel_rfl))); (case ar136 => with_reducible exact ArgS.nil))))); (case b142 => ((with_reducible refine' ExpS.bin ?o141 ?a141 ?b141); (case o141 => with_reducible exact BinS.sub); (case a141 => ((with_reducible refine' ExpS.last 1 ?l139 ?q139 ?a139); (case l139 => decide); (case q139 => exact rfl); (case a139 => ((with_reducible refine' ExpS.name ?n1q138 ?n2q138 ?n3q138); (case n1q138 => exact rfl); (case n2q138 => exact rfl); (case n3q138 => first | exact rfl | (with_unfolding_all rfl) | decide | kernel_rfl))))); (case b141 => ((with_reducible refine' ExpS.name ?n1q140 ?n2q140 ?n3q140); (case n1q140 => exact rfl); (case n2q140 => exact rfl); (case n3q140 => first | exact rfl | (with_unfolding_all rfl) | decide | kernel_rfl))))); (case m142 => first | exact rfl | (with_unfolding_all rfl) | decide | kernel_rfl))); (case b161 => ((with_reducible refine' TstS.or ?a160 ?b160); (case a160 => ((with_reducible refine' TstS.cmp ?o150 ?a150 ?b150 ?m150); (case o150 => with_reducible exact CmpS.ne); (case a150 => ((with_reducible refine' ExpS.call ?x146 ?k146 ?a146); (case x146 => (refine' NamS.glob ?nxq143 (by first | exact .inl rfl | exact .inr rfl) ?neq143 ?ndq143; (case nxq143 => k_is); (case neq143 => (intros; first | exact rfl | (with_unfolding_all rfl) | decide)); (case ndq143 => first | exact rfl | (with_unfolding_all rfl) | decide | kernel_rfl))); (case k146 => k_is); (case a146 => ((with_reducible refine' ArgS.cons ?as145 ?ae145 ?ar145); (case as145 => exact fun _ _ => rfl); (case ae145 => ((with_reducible refine' ExpS.name ?n1q144 ?n2q144 ?n3q144); (case n1q144 => exact rfl); (case n2q144 => exact rfl); (case n3q144 => first | exact rfl | (with_unfolding_all rfl) | decide | kernel_rfl))); (case ar145 => with_reducible exact ArgS.nil))))); (case b150 => ((with_reducible refine' ExpS.bin ?o149 ?a149 ?b149); (case o149 => with_reducible exact BinS.mul); (case a149 => ((with_reducible refine' ExpS.int 4 ?r147); (case r147 => exact rfl))); (case b149 => ((with_reducible refine' ExpS.name ?n1q148 ?n2q148 ?n3q148); (case n1q148 => exact rfl); (case n2q148 => exact rfl); (case n3q148 => first | exact rfl | (with_unfolding_all rfl) | decide | kernel_rfl))))); (case m150 => first | exact rfl | (with_unfolding_all rfl) | decide | kernel_rfl))); (case b160 => ((with_reducible refine' TstS.or ?a159 ?b159); (case a159 => ((with_reducible refine' TstS.cmp ?o158 ?a158 ?b158 ?m158); (case o158 => with_reducible exact CmpS.ne); (case a158 => ((with_reducible refine' ExpS.call ?x154 ?k154 ?a154); (case x154 => (refine' NamS.glob ?nxq151 (by first | exact .inl rfl | exact .inr rfl) ?neq151 ?ndq151; (case nxq151 => k_is); (case neq151 => (intros; first | exact rfl | (with_unfolding_all rfl) | decide)); (case ndq151 => first | exact rfl | (with_unfolding_all rfl) | decide | kernel_rfl))); (case k154 => k_is); (case a154 => ((with_reducible refine' ArgS.cons ?as153 ?ae153 ?ar153); (case as153 => exact fun _ _ => rfl); (case ae153 => ((with_reducible refine' ExpS.name ?n1q152 ?n2q152 ?n3q152); (case n1q152 => exact rfl); (case n2q152 => exact rfl); (case n3q152 => first | exact rfl | (with_unfolding_all rfl) | decide | kernel_rfl))); (case ar153 => with_reducible exact ArgS.nil))))); (case b158 => ((with_reducible refine' ExpS.list ?a157 ?h157); (case a157 => ((with_reducible refine' ArgS.cons ?as156 ?ae156 ?ar156); (case as156 => exact fun _ _ => rfl); (case ae156 => ((with_reducible refine' ExpS.name ?n1q155 ?n2q155 ?n3q155); (case n1q155 => exact rfl); (case n2q155 => exact rfl); (case n3q155 => first | exact rfl | (with_unfolding_all rfl) | decide | kernel_rfl))); (case ar156 => with_reducible exact ArgS.nil))); (case h157 => exact Nat.le_of_ble_eq_true rfl))); (case m158 => first | exact rfl | (with_unfolding_all rfl) | decide | kernel_rfl))); (case b159 => with_reducible exact TstS.or0))))))); (case a164 => ((with_reducible refine' BdyS.cons ?a163 ?b163); (case a163 => ((with_reducible refine' ExcS.ret ?a162); (case a162 => with_reducible exact ExpS.bool))); (case b163 => with_reducible exact BdyS.nil))); (case b164 => with_reducible exact BdyS.nil))
theorem law7_t : ∀ st, lawRec.body[7]? = some st → ExcS w mean mg mb zs (.fn lawRec.scope lawN) st law7B := by
  intro st hst
  delta law7B lawN
  dsimp only [lawRec, recOf] at hst ⊢
  simp only [List.getElem?_cons_succ, List.getElem?_cons_zero, Option.some.injEq] at hst
  subst hst
  ((with_reducible refine' ExcS.swp2 ?u187 ?y187 ?k187 ?v187 ?z187 ?l187 ?s187 ?r187 ?a187); (case s187 => (intros; first | exact rfl | (with_unfolding_all rfl) | decide)); (case r187 => (intros; first | exact rfl | (with_unfolding_all rfl) | decide)); (case y187 => exact rfl); (case z187 => exact rfl); (case u187 => first | exact rfl | (with_unfolding_all rfl) | decide | kernel_rfl); (case v187 => first | exact rfl | (with_unfolding_all rfl) | decide | kernel_rfl); (case k187 => (intros; first | exact rfl | (with_unfolding_all rfl) | decide)); (case l187 => (intros; first | exact rfl | (with_unfolding_all rfl) | decide)); (case a187 => ((with_reducible refine' ExpS.tup ?a186 ?h186); (case a186 => ((with_reducible refine' ArgS.cons ?as185 ?ae185 ?ar185); (case as185 => exact fun _ _ => rfl); (case ae185 => ((with_reducible refine' ExpS.item ?a175 ?b175 ?h175); (case a175 => ((with_reducible refine' ExpS.name ?n1q165 ?n2q165 ?n3q165); (case n1q165 => exact rfl); (case n2q165 => exact rfl); (case n3q165 => first | exact rfl | (with_unfolding_all rfl) | decide | kernel_rfl))); (case h175 => exact fun _ _ => rfl); (case b175 => ((with_reducible refine' ExpS.call ?x174 ?k174 ?a174); (case x174 => (refine' NamS.glob ?nxq166 (by first | exact .inl rfl | exact .inr rfl) ?neq166 ?ndq166; (case nxq166 => k_is); (case neq166 => (intros; first | exact rfl | (with_unfolding_all rfl) | decide)); (case ndq166 => first | exact rfl | (with_unfolding_all rfl) | decide | kernel_rfl))); (case k174 => k_is); (case a174 => ((with_reducible refine' ArgS.cons ?as173 ?ae173 ?ar173); (case as173 => exact fun _ _ => rfl); (case ae173 => ((with_reducible refine' ExpS.cell ?n1q167 ?n2q167 ?n3q167); (case n1q167 => exact rfl); (case n2q167 => exact rfl); (case n3q167 => first | exact rfl | (with_unfolding_all rfl) | decide | kernel_rfl))); (case ar173 => ((with_reducible refine' ArgS.cons ?as172 ?ae172 ?ar172); (case as172 => exact fun _ _ => rfl); (case ae172 => ((with_reducible refine' ExpS.fn ?x171 ?o171 ?a171); (case x171 => (refine' NamS.blt ?nxq168 ?nbq168 ?nnq168 ?neq168 ?ndq168; (case nxq168 => k_is); (case nbq168 => first | boot_by_name | rfl | kernel_rfl | boot_fast); (case nnq168 => decide); (case neq168 => (intros; first | exact rfl | (with_unfolding_all rfl) | decide)); (case ndq168 => first | exact rfl | (with_unfolding_all rfl) | decide | kernel_rfl))); (case o171 => with_reducible exact FunS.len); (case a171 => ((with_reducible refine' ArgS.cons ?as170 ?ae170 ?ar170); (case as170 => exact fun _ _ => rfl); (case ae170 => ((with_reducible refine' ExpS.name ?n1q169 ?n2q169 ?n3q169); (case n1q169 => exact rfl); (case n2q169 => exact rfl); (case n3q169 => first | exact rfl | (with_unfolding_all rfl) | decide | kernel_rfl))); (case ar170 => with_reducible exact ArgS.nil))))); (case ar172 => with_reducible exact ArgS.nil))))))))); (case ar185 => ((with_reducible refine' ArgS.cons ?as184 ?ae184 ?ar184); (case as184 => exact fun _ _ => rfl); (case ae184 => ((with_reducible refine' ExpS.call ?x183 ?k183 ?a183); (case x183 => (refine' NamS.glob ?nxq176 (by first | exact .inl rfl | exact .inr rfl) ?neq176 ?ndq176; (case nxq176 => k_is); (case neq176 => (intros; first | exact rfl | (with_unfolding_all rfl) | decide)); (case ndq176 => first | exact rfl | (with_unfolding_all rfl) | decide | kernel_rfl))); (case k183 => k_is); (case a183 => ((with_reducible refine' ArgS.cons ?as182 ?ae182 ?ar182); (case as182 => exact fun _ _ => rfl); (case ae182 => ((with_reducible refine' ExpS.bin ?o179 ?a179 ?b179); (case o179 => with_reducible exact BinS.mul); (case a179 => ((with_reducible refine' ExpS.int 2 ?r177); (case r177 => exact rfl))); (case b179 => ((with_reducible refine' ExpS.name ?n1q178 ?n2q178 ?n3q178); (case n1q178 => exact rfl); (case n2q178 => exact rfl); (case n3q178 => first | exact rfl | (with_unfolding_all rfl) | decide | kernel_rfl))))); (case ar182 => ((with_reducible refine' ArgS.cons ?as181 ?ae181 ?ar181); (case as181 => exact fun _ _ => rfl); (case ae181 => ((with_reducible refine' ExpS.int 4 ?r180); (case r180 => exact rfl))); (case ar181 => with_reducible exact ArgS.nil))))))); (case ar184 => with_reducible exact ArgS.nil))))); (case h186 => exact Nat.le_of_ble_eq_true rfl))))
theorem law8_t : ∀ st, lawRec.body[8]? = some st → ExcS w mean mg mb zs (.fn lawRec.scope lawN) st law8B := by
  intro st hst
  delta law8B lawN
  dsimp only [lawRec, recOf] at hst ⊢
  simp only [List.getElem?_cons_succ, List.getElem?_cons_zero, Option.some.injEq] at hst
  subst hst
  ((with_reducible refine' ExcS.expr ?a196 ?i196 ?s196); (case i196 => (intros; first | exact rfl | (with_unfolding_all rfl) | decide)); (case s196 => (intros; first | exact rfl | (with_unfolding_all rfl) | decide)); (case a196 => ((with_reducible refine' ExpS.call ?x195 ?k195 ?a195); (case x195 => (refine' NamS.glob ?nxq188 (by first | exact .inl rfl | exact .inr rfl) ?neq188 ?ndq188; (case nxq188 => k_is); (case neq188 => (intros; first | exact rfl | (with_unfolding_all rfl) | decide)); (case ndq188 => first | exact rfl | (with_unfolding_all rfl) | decide | kernel_rfl))); (case k195 => k_is); (case a195 => ((with_reducible refine' ArgS.cons ?as194 ?ae194 ?ar194); (case as194 => exact fun _ _ => rfl); (case ae194 => ((with_reducible refine' ExpS.name ?n1q189 ?n2q189 ?n3q189); (case n1q189 => exact rfl); (case n2q189 => exact rfl); (case n3q189 => first | exact rfl | (with_unfolding_all rfl) | decide | kernel_rfl))); (case ar194 => ((with_reducible refine' ArgS.cons ?as193 ?ae193 ?ar193); (case as193 => exact fun _ _ => rfl); (case ae193 => ((with_reducible refine' ExpS.name ?n1q190 ?n2q190 ?n3q190); (case n1q190 => exact rfl); (case n2q190 => exact rfl); (case n3q190 => first | exact rfl | (with_unfolding_all rfl) | decide | kernel_rfl))); (case ar193 => ((with_reducible refine' ArgS.cons ?as192 ?ae192 ?ar192); (case as192 => exact fun _ _ => rfl); (case ae192 => ((with_reducible refine' ExpS.name ?n1q191 ?n2q191 ?n3q191); (case n1q191 => exact rfl); (case n2q191 => exact rfl); (case n3q191 => first | exact rfl | (with_unfolding_all rfl) | decide | kernel_rfl))); (case ar192 => with_reducible exact ArgS.nil))))))))))
theorem law9_t : ∀ st, lawRec.body[9]? = some st → ExcS w mean mg mb zs (.fn lawRec.scope lawN) st law9B := by
  intro st hst
  delta law9B lawN
  dsimp only [lawRec, recOf] at hst ⊢
  simp only [List.getElem?_cons_succ, List.getElem?_cons_zero, Option.some.injEq] at hst
  subst hst
  ((with_reducible refine' ExcS.if ?t215 ?a215 ?b215); (case t215 => ((with_reducible refine' TstS.or ?a212 ?b212); (case a212 => ((with_reducible refine' TstS.cmp ?o204 ?a204 ?b204 ?m204); (case o204 => with_reducible exact CmpS.ne); (case a204 => ((with_reducible refine' ExpS.call ?x200 ?k200 ?a200); (case x200 => (refine' NamS.glob ?nxq197 (by first | exact .inl rfl | exact .inr rfl) ?neq197 ?ndq197; (case nxq197 => k_is); (case neq197 => (intros; first | exact rfl | (with_unfolding_all rfl) | decide)); (case ndq197 => first | exact rfl | (with_unfolding_all rfl) | decide | kernel_rfl))); (case k200 => k_is); (case a200 => ((with_reducible refine' ArgS.cons ?as199 ?ae199 ?ar199); (case as199 => exact fun _ _ => rfl); (case ae199 => ((with_reducible refine' ExpS.name ?n1q198 ?n2q198 ?n3q198); (case n1q198 => exact rfl); (case n2q198 => exact rfl); (case n3q198 => first | exact rfl | (with_unfolding_all rfl) | decide | kernel_rfl))); (case ar199 => with_reducible exact ArgS.nil))))); (case b204 => ((with_reducible refine' ExpS.list ?a203 ?h203); (case a203 => ((with_reducible refine' ArgS.cons ?as202 ?ae202 ?ar202); (case as202 => exact fun _ _ => rfl); (case ae202 => ((with_reducible refine' ExpS.name ?n1q201 ?n2q201 ?n3q201); (case n1q201 => exact rfl); (case n2q201 => exact rfl); (case n3q201 => first | exact rfl | (with_unfolding_all rfl) | decide | kernel_rfl))); (case ar202 => with_reducible exact ArgS.nil))); (case h203 => exact Nat.le_of_ble_eq_true rfl))); (case m204 => first | exact rfl | (with_unfolding_all rfl) | decide | kernel_rfl))); (case b212 => ((with_reducible refine' TstS.or ?a211 ?b211); (case a211 => ((with_reducible refine' TstS.not ?a210); (case a210 => ((with_reducible refine' TstS.val ?a209 ?h209); (case a209 => ((with_reducible refine' ExpS.call ?x208 ?k208 ?a208); (case x208 => (refine' NamS.glob ?nxq205 (by first | exact .inl rfl | exact .inr rfl) ?neq205 ?ndq205; (case nxq205 => k_is); (case neq205 => (intros; first | exact rfl | (with_unfolding_all rfl) | decide)); (case ndq205 => first | exact rfl | (with_unfolding_all rfl) | decide | kernel_rfl))); (case k208 => k_is); (case a208 => ((with_reducible refine' ArgS.cons ?as207 ?ae207 ?ar207); (case as207 => exact fun _ _ => rfl); (case ae207 => ((with_reducible refine' ExpS.name ?n1q206 ?n2q206 ?n3q206); (case n1q206 => exact rfl); (case n2q206 => exact rfl); (case n3q206 => first | exact rfl | (with_unfolding_all rfl) | decide | kernel_rfl))); (case ar207 => with_reducible exact ArgS.nil))))); (case h209 => exact fun _ _ => rfl))))); (case b211 => with_reducible exact TstS.or0))))); (case a215 => ((with_reducible refine' BdyS.cons ?a214 ?b214); (case a214 => ((with_reducible refine' ExcS.ret ?a213); (case a213 => with_reducible exact ExpS.bool))); (case b214 => with_reducible exact BdyS.nil))); (case b215 => with_reducible exact BdyS.nil))
theorem law10_t : ∀ st, lawRec.body[10]? = some st → ExcS w mean mg mb zs (.fn lawRec.scope lawN) st law10B := by
  intro st hst
  delta law10B lawN
  dsimp only [lawRec, recOf] at hst ⊢
  simp only [List.getElem?_cons_succ, List.getElem?_cons_zero, Option.some.injEq] at hst
  subst hst
  ((with_reducible refine' ExcS.asg1 ?u226 ?y226 ?k226 ?s226 ?a226); (case y226 => exact rfl); (case u226 => first | exact rfl | (with_unfolding_all rfl) | decide | kernel_rfl); (case k226 => (intros; first | exact rfl | (with_unfolding_all rfl) | decide)); (case s226 => (intros; first | exact rfl | (with_unfolding_all rfl) | decide)); (case a226 => ((with_reducible refine' ExpS.call ?x225 ?k225 ?a225); (case x225 => (refine' NamS.glob ?nxq216 (by first | exact .inl rfl | exact .inr rfl) ?neq216 ?ndq216; (case nxq216 => k_is); (case neq216 => (intros; first | exact rfl | (with_unfolding_all rfl) | decide)); (case ndq216 => first | exact rfl | (with_unfolding_all rfl) | decide | kernel_rfl))); (case k225 => k_is); (case a225 => ((with_reducible refine' ArgS.cons ?as224 ?ae224 ?ar224); (case as224 => exact fun _ _ => rfl); (case ae224 => ((with_reducible refine' ExpS.bin ?o221 ?a221 ?b221); (case o221 => with_reducible exact BinS.sub); (case a221 => ((with_reducible refine' ExpS.bin ?o219 ?a219 ?b219); (case o219 => with_reducible exact BinS.mul); (case a219 => ((with_reducible refine' ExpS.int 2 ?r217); (case r217 => exact rfl))); (case b219 => ((with_reducible refine' ExpS.name ?n1q218 ?n2q218 ?n3q218); (case n1q218 => exact rfl); (case n2q218 => exact rfl); (case n3q218 => first | exact rfl | (with_unfolding_all rfl) | decide | kernel_rfl))))); (case b221 => ((with_reducible refine' ExpS.int 1 ?r220); (case r220 => exact rfl))))); (case ar224 => ((with_reducible refine' ArgS.cons ?as223 ?ae223 ?ar223); (case as223 => exact fun _ _ => rfl); (case ae223 => ((with_reducible refine' ExpS.int 4 ?r222); (case r222 => exact rfl))); (case ar223 => with_reducible exact ArgS.nil))))))))
theorem law12_t : ∀ st, lawRec.body[12]? = some st → ExcS w mean mg mb zs (.fn lawRec.scope lawN) st law12B := by
  intro st hst
  delta law12B lawN
  dsimp only [lawRec, recOf] at hst ⊢
  simp only [List.getElem?_cons_succ, List.getElem?_cons_zero, Option.some.injEq] at hst
  subst hst
  ((with_reducible refine' ExcS.asg1 ?u231 ?y231 ?k231 ?s231 ?a231); (case y231 => exact rfl); (case u231 => first | exact rfl | (with_unfolding_all rfl) | decide | kernel_rfl); (case k231 => (intros; first | exact rfl | (with_unfolding_all rfl) | decide)); (case s231 => (intros; first | exact rfl | (with_unfolding_all rfl) | decide)); (case a231 => ((with_reducible refine' ExpS.call ?x230 ?k230 ?a230); (case x230 => (refine' NamS.glob ?nxq227 (by first | exact .inl rfl | exact .inr rfl) ?neq227 ?ndq227; (case nxq227 => k_is); (case neq227 => (intros; first | exact rfl | (with_unfolding_all rfl) | decide)); (case ndq227 => first | exact rfl | (with_unfolding_all rfl) | decide | kernel_rfl))); (case k230 => k_is); (case a230 => ((with_reducible refine' ArgS.cons ?as229 ?ae229 ?ar229); (case as229 => exact fun _ _ => rfl); (case ae229 => ((with_reducible refine' ExpS.name ?n1q228 ?n2q228 ?n3q228); (case n1q228 => exact rfl); (case n2q228 => exact rfl); (case n3q228 => first | exact rfl | (with_unfolding_all rfl) | decide | kernel_rfl))); (case ar229 => with_reducible exact ArgS.nil))))))
theorem law13_t : ∀ st, lawRec.body[13]? = some st → ExcS w mean mg mb zs (.fn lawRec.scope lawN) st law13B := by
  intro st hst
  delta law13B lawN
  dsimp only [lawRec, recOf] at hst ⊢
  simp only [List.getElem?_cons_succ, List.getElem?_cons_zero, Option.some.injEq] at hst
  subst hst
  ((with_reducible refine' ExcS.ret ?a249); (case a249 => ((with_reducible refine' ExpS.and ?a248 ?b248); (case a248 => ((with_reducible refine' ExpS.cmp ?o237 ?a237 ?b237 ?m237); (case o237 => with_reducible exact CmpS.eq); (case a237 => ((with_reducible refine' ExpS.fn ?x235 ?o235 ?a235); (case x235 => (refine' NamS.blt ?nxq232 ?nbq232 ?nnq232 ?neq232 ?ndq232; (case nxq232 => k_is); (case nbq232 => first | boot_by_name | rfl | kernel_rfl | boot_fast); (case nnq232 => decide); (case neq232 => (intros; first | exact rfl | (with_unfolding_all rfl) | decide)); (case ndq232 => first | exact rfl | (with_unfolding_all rfl) | decide | kernel_rfl))); (case o235 => with_reducible exact FunS.len); (case a235 => ((with_reducible refine' ArgS.cons ?as234 ?ae234 ?ar234); (case as234 => exact fun _ _ => rfl); (case ae234 => ((with_reducible refine' ExpS.name ?n1q233 ?n2q233 ?n3q233); (case n1q233 => exact rfl); (case n2q233 => exact rfl); (case n3q233 => first | exact rfl | (with_unfolding_all rfl) | decide | kernel_rfl))); (case ar234 => with_reducible exact ArgS.nil))))); (case b237 => ((with_reducible refine' ExpS.int 2 ?r236); (case r236 => exact rfl))); (case m237 => first | exact rfl | (with_unfolding_all rfl) | decide | kernel_rfl))); (case b248 => ((with_reducible refine' ExpS.and ?a247 ?b247); (case a247 => ((with_reducible refine' ExpS.cmp ?o241 ?a241 ?b241 ?m241); (case o241 => with_reducible exact CmpS.eq); (case a241 => ((with_reducible refine' ExpS.join ?b239 ?h239 ?m239); (case h239 => exact fun _ _ => rfl); (case m239 => exact fun _ => ⟨_, rfl⟩); (case b239 => ((with_reducible refine' ExpS.name ?n1q238 ?n2q238 ?n3q238); (case n1q238 => exact rfl); (case n2q238 => exact rfl); (case n3q238 => first | exact rfl | (with_unfolding_all rfl) | decide | kernel_rfl))))); (case b241 => ((with_reducible refine' ExpS.name ?n1q240 ?n2q240 ?n3q240); (case n1q240 => exact rfl); (case n2q240 => exact rfl); (case n3q240 => first | exact rfl | (with_unfolding_all rfl) | decide | kernel_rfl))); (case m241 => first | exact rfl | (with_unfolding_all rfl) | decide | kernel_rfl))); (case b247 => ((with_reducible refine' ExpS.and1 ?a246); (case a246 => ((with_reducible refine' ExpS.call ?x245 ?k245 ?a245); (case x245 => (refine' NamS.glob ?nxq242 (by first | exact .inl rfl | exact .inr rfl) ?neq242 ?ndq242; (case nxq242 => k_is); (case neq242 => (intros; first | exact rfl | (with_unfolding_all rfl) | decide)); (case ndq242 => first | exact rfl | (with_unfolding_all rfl) | decide | kernel_rfl))); (case k245 => k_is); (case a245 => ((with_reducible refine' ArgS.cons ?as244 ?ae244 ?ar244); (case as244 => exact fun _ _ => rfl); (case ae244 => ((with_reducible refine' ExpS.name ?n1q243 ?n2q243 ?n3q243); (case n1q243 => exact rfl); (case n2q243 => exact rfl); (case n3q243 => first | exact rfl | (with_unfolding_all rfl) | decide | kernel_rfl))); (case ar244 => with_reducible exact ArgS.nil))))))))))))
end
end
section
noncomputable section
noncomputable def tryR (m : List V) (r : R) : R := R.rec (motive := fun _ => R) (fun _ s => .rt (.b false) s) (fun _ _ => .bad) (fun _ _ => .bad) (fun s => .nx m s) (fun n _ ih => .ch n ih) .bad r
/-- try: e; return False  except BasicError: the code is 'OS', on -/
noncomputable def tryW (W : Wd) : Wd := fun c m s => tryR m (W c m s)
end
theorem name_gone {M : Model} {A : Around} {E : Value → Shared → Prop} {s : Shared} {h₀ : Heap} {L a : Addr} {m : Str → Option Value} {news : List (Addr × Obj)} {name n : Str} {scope : Scope} {cd : Value} {cl : List (Str × Addr)} {pos : Pos} {Q : Unit → Shared → Prop}
    (F : Fr h₀ L s.heap m) (N : News h₀ L s.heap news) (hk : scope.kind = .function) (hl : (envX name scope L a cd cl).kindOf n = some .local)
    (h : ∀ h' v, Fr h₀ L h' (fun x => if x = n then v else m x) → News h₀ L h' news → Q () { s with heap := h', toks := s.toks + 1 }) :
    wpAny M A (do bindName (envX name scope L a cd cl) n .none; unbindBehindTheSuite (envX name scope L a cd cl) n pos) Q E s :=
  wpAny_nameGoes_keeps hl F.ns (by show (scope.kind == .class || (scope.kind == .module && _)) = false; rw [hk]; rfl) fun h' v hn hs => h h' v (F.set hn hs) fun p hp => ⟨(hs.2 _ (N p hp).2.1).trans (N p hp).1, (N p hp).2⟩
theorem code_get_K {prog : Program} {w : World} {A : Around} {E : Value → Shared → Prop} {s : Shared} {h₀ : Heap} {L : Addr} {m : Str → Option Value} {K : Frag}
    {nm q : Str} {N : Addr} {bs : List Value} {sn : List Str} {sub : List Value} {ab : Bool} {col : Option Bool} {dd : Option Addr} {k0 k1 k2 k3 k5 : Option Value} {newId : String} {e dx : Addr} {vs : Array Value} {sl : Array (Option Value)} {h1 h2 : Int} {kc kt tc : Tok} {x : Str} {l : Value} {expr : Bool} {Q : Value → Shared → Prop}
    (X₀ : K.In h₀) (hC : K.lookup 34 = some (excClassObj nm q 34 N bs [.type "Exception", .type "BaseException", .type "object"] true sn sub ab col dd k0 k1 k2 k3 k5 newId)) (hok : nsOkIn K N = true) (hga : nsIn K N "__getattribute__" = some none) (hgh : nsIn K N "__getattr__" = some none) (hna : nsIn K N (Str.ofString "code") = some none)
    (F : Fr h₀ L s.heap m) (hx : s.heap.get? e = some ⟨.ref 34, some dx, .fields vs, sl⟩) (hd : s.heap.get? dx = some (excD h1 h2 kc kt (.str x tc) l)) (hq : Q (.str x tc) { s with toks := s.toks + 1 }) :
    wpAny (model prog w) A (getAttr (.ref e) (Str.ofString "code") expr) Q E s := by
  have X := X₀.keeps F.keep
  obtain ⟨hh, g, d, tk, os⟩ := s
  exact code_get (X _ _ hC) (.of_isNs (isNs_of_in X hok)) (ns_none_of X (.of_isNs (isNs_of_in X hok)) hga) (ns_none_of X (.of_isNs (isNs_of_in X hok)) hgh) (ns_none_of X (.of_isNs (isNs_of_in X hok)) hna) hx hd hq
section
variable {w : World} {mean : ExcName → Option Value} {mg mb : Str → Option Value} {zs : List Int}
theorem tryR_post {κ : Kp} {K : Kx} {m : List V} {φ : List Addr} {s : Shared} {Q : Flow → Shared → Prop} {E : Value → Shared → Prop} {Q' E' : Value → Shared → Prop}
    (hv : ∀ σ' φ' h' tk' rv, φ <+: φ' → K.Sta zs φ' σ' h' → PostS zs κ K φ' { s with heap := h', toks := tk' } Q E (.rt (.b false) σ') → Q' rv { s with heap := h', toks := tk' })
    (he : ∀ σ' φ' h' tk' e, φ <+: φ' → K.Fly zs φ' σ' e h' → PostS zs κ K φ' { s with heap := h', toks := tk' } Q E (.nx m σ') → E' (.ref e) { s with heap := h', toks := tk' }) :
    ∀ {r : R}, PostS zs κ K φ s Q E (tryR m r) → PostV zs K φ s Q' E' r
  | .v _ σ', P => fun φ' h' tk' rv p S _ => hv σ' φ' h' tk' rv p S (PostS.later p P)
  | .ec σ', P => fun φ' h' tk' e p Y => he σ' φ' h' tk' e p Y (PostS.later p P)
  | .ch _ _, P => fun i hi => tryR_post hv he (P i hi)
  | .nx _ _, P => P
  | .rt _ _, P => P
  | .bad, P => P
/-- try: e; return False  except x as n: if n.code != 'OS': .. -/
theorem try_gen {cs : Scope} {nm : Nms} {e : Expr} {W : Wd} {x n : Str} {b : List Stmt} {k1 k2 : Nat} {p1 p2 p3 p4 p5 p6 p7 p8 np hp tp : Pos} {cnm q : Str} {Nn : Addr} {bs : List Value} {sn : List Str} {sub : List Value} {ab : Bool} {col : Option Bool} {dd : Option Addr} {c0 c1 c2 c3 c5 : Option Value} {newId : String}
    (he : ExpS w mean mg mb zs (.fn cs nm) e W) (hi : ∀ cn L a ccd cl, interactive (envX cn cs L a ccd cl) = false) (hs : ∀ cn L a ccd cl, swapsWith e none p1.line (envX cn cs L a ccd cl) = pure false)
    (ex : nsIn (Mine.hd.heap_39 w.params) mainGlobals x = some (some (.ref 34))) (hx1 : exmOne (Mine.hd.heap_39 w.params) (.ref 34) (.ref 34) = some true) (hlo : ∀ cn L a ccd cl, (envX cn cs L a ccd cl).kindOf n = some .local) (hxk : ∀ cn L a ccd cl, (envX cn cs L a ccd cl).kindOf x = some .globalImplicit) (hd : (x == Str.ofString "__debug__") = false) (hdn : (n == Str.ofString "__debug__") = false) (hnm : nm.lookup n = none)
    (hC : (Mine.hd.heap_39 w.params).lookup 34 = some (excClassObj cnm q 34 Nn bs [.type "Exception", .type "BaseException", .type "object"] true sn sub ab col dd c0 c1 c2 c3 c5 newId)) (hok : nsOkIn (Mine.hd.heap_39 w.params) Nn = true) (hga : nsIn (Mine.hd.heap_39 w.params) Nn "__getattribute__" = some none) (hgh : nsIn (Mine.hd.heap_39 w.params) Nn "__getattr__" = some none) (hna : nsIn (Mine.hd.heap_39 w.params) Nn (Str.ofString "code") = some none) (hm : behindInMarks .NotEq (.Constant (.str (Str.ofString "OS")) k2 p6) = false) :
    ∀ n' c, CallOk w mean mg mb zs c n' → ∀ (K : Kx) m φ σ s Q E, K.outer = [] → K.Good w mean mg mb n' → K.Ok (.fn cs nm) m φ → K.Sta zs φ σ s.heap → PostS zs (.fn cs nm) K φ s Q E (tryW W c m σ) →
      wpAny (Mdl w) K.A (exec (.Try [.Expr e p1, .Return (some (.Constant (.bool false) k1 p2)) p3] [.ExceptHandler (some (.Name x np)) (some n) [.If (.Compare (.Attribute (.Name n p4) (Str.ofString "code") p5) [.NotEq] [.Constant (.str (Str.ofString "OS")) k2 p6] p7) b [] p8] hp] [] [] tp) K.ev) Q E s := by
  intro n' c hc K m φ σ s Q E ho G O S P
  refine wpAny_Try_except (wpAny_execs_cons (wpAny_Expr_any (he n' c hc K m φ σ s _ _ G O S (tryR_post ?_ ?_ P)) (env_of (P := fun env => interactive env = false) hi O) (env_of (P := fun env => swapsWith e none p1.line env = pure false) hs O)))
  · intro σ' φ' h' tk' rv p S' P'
    refine wpAny_execs_cons (wpAny_Return_some (Constant_bool ?_))
    exact P' φ' h' tk' K.mm _ (List.prefix_refl _) S' rfl
  · intro σ' φ' h' tk' ea p Y P'
    obtain ⟨h₁, led₁, B, dx, od, led', Y, F, N, Ld, h1, h2, kc, kt, tc, l, rfl⟩ := Y
    obtain ⟨e1, e2, O⟩ := O
    rw [e2]
    rw [ho] at Y
    have hfr : K.A.frames = some [K.en] := by show some (K.en :: K.outer) = _; rw [ho]
    refine caught_M (rest := []) (m := K.mm) hfr F N (fun a ha => by obtain ⟨q, hq, e⟩ := List.mem_map.mp ha; exact ⟨q, hq, e⟩) (fun _ h => nomatch h) Y G.X (topRead_of G.T) ex hx1 ?_ G.k (by rw [e1]; exact hlo ..) (by rw [e1]; exact hxk ..) hd
    intro h10 tk10 vs10 sl10 F10 N10
    refine wpAny_execs_cons (wpAny_If (wpAny_isTrue_Compare1 (Attribute_Name_ (nameX_L F10 (by rw [if_pos rfl]) ?_ G.k (by rw [e1]; exact hlo ..) hdn)) hm))
    refine code_get_K (K := Mine.hd.heap_39 w.params) G.X hC hok hga hgh hna F10 (N10 _ (.head _)).1 (N10 _ (.tail _ (.head _))).1 ?_
    refine wpAny_Constant_str (ne_str (wpAny_truthy_bool ?_))
    rw [show (Str.ofString "OS" != Str.ofString "OS") = false from by decide +kernel]
    refine wpAny_execs_nil (wpAny_execs_nil ?_)
    refine name_gone (news := K.xl ++ led') F10 (fun q hq => N10 q (.tail _ (.tail _ (by rw [List.append_nil]; exact hq)))) G.k (by rw [e1]; exact hlo ..) ?_
    intro h11 gone F11 N11
    refine P' φ' h11 _ (fun x => if x = n then gone else if x = n then some (Value.ref ea) else K.mm x) (List.prefix_refl _) ⟨e1, e2, fun z i v hv => ⟨fun hz hu => ?_, fun hz k hk => ?_⟩⟩ ⟨F11, led', ⟨Ld.ad, Ld.nd, Ld.xl, Ld.pn, Ld.ob⟩, N11⟩
    · obtain ⟨rv, g1, g2⟩ := (O z i v hv).1 hz hu
      have hz' : z ≠ n := fun e => by rw [e, hnm] at hz; cases hz
      exact ⟨rv, by show (if z = n then _ else if z = n then _ else K.mm z) = _; rw [if_neg hz', if_neg hz']; exact g1, g2.mono p⟩
    · obtain ⟨cc, g1, g2⟩ := (O z i v hv).2 hz k hk
      exact ⟨cc, pre_get p g1, g2⟩
theorem fill_now3 (w : World) : Mine.hd.heap_39 w.params = Mine.hd.heap_39 w.params ∧ PySem.Challenge.rw_xm0013_01 = PySem.Challenge.rw_xm0013_01 := by
  k_fill
  exact ⟨rfl, rfl⟩
theorem law11_t : ∀ st, lawRec.body[11]? = some st → ∀ n c, CallOk w mean mg mb zs c n → ∀ (K : Kx) m φ σ s Q E, K.outer = [] → K.Good w mean mg mb n → K.Ok (.fn lawRec.scope lawN) m φ → K.Sta zs φ σ s.heap → PostS zs (.fn lawRec.scope lawN) K φ s Q E (tryW (calW 151 [varW 7, varW 8, varW 2]) c m σ) → wpAny (Mdl w) K.A (exec st K.ev) Q E s := by
  intro st hst
  delta lawN
  dsimp only [lawRec, recOf] at hst ⊢
  simp only [List.getElem?_cons_succ, List.getElem?_cons_zero, Option.some.injEq] at hst
  subst hst
  refine' try_gen ?he ?hi ?hs ?ex ?hx1 ?hlo ?hxk ?hd ?hdn ?hnm ?hC ?hok ?hga ?hgh ?hna ?hm
  case he => ((with_reducible refine' ExpS.call ?x8 ?k8 ?a8); (case x8 => (refine' NamS.glob ?nxq1 (by first | exact .inl rfl | exact .inr rfl) ?neq1 ?ndq1; (case nxq1 => k_is); (case neq1 => (intros; first | exact rfl | (with_unfolding_all rfl) | decide)); (case ndq1 => first | exact rfl | (with_unfolding_all rfl) | decide | kernel_rfl))); (case k8 => k_is); (case a8 => ((with_reducible refine' ArgS.cons ?as7 ?ae7 ?ar7); (case as7 => exact fun _ _ => rfl); (case ae7 => ((with_reducible refine' ExpS.name ?n1q2 ?n2q2 ?n3q2); (case n1q2 => exact rfl); (case n2q2 => exact rfl); (case n3q2 => first | exact rfl | (with_unfolding_all rfl) | decide | kernel_rfl))); (case ar7 => ((with_reducible refine' ArgS.cons ?as6 ?ae6 ?ar6); (case as6 => exact fun _ _ => rfl); (case ae6 => ((with_reducible refine' ExpS.name ?n1q3 ?n2q3 ?n3q3); (case n1q3 => exact rfl); (case n2q3 => exact rfl); (case n3q3 => first | exact rfl | (with_unfolding_all rfl) | decide | kernel_rfl))); (case ar6 => ((with_reducible refine' ArgS.cons ?as5 ?ae5 ?ar5); (case as5 => exact fun _ _ => rfl); (case ae5 => ((with_reducible refine' ExpS.name ?n1q4 ?n2q4 ?n3q4); (case n1q4 => exact rfl); (case n2q4 => exact rfl); (case n3q4 => first | exact rfl | (with_unfolding_all rfl) | decide | kernel_rfl))); (case ar5 => with_reducible exact ArgS.nil))))))))
  case hi => (intros; first | exact rfl | (with_unfolding_all rfl) | decide)
  case hs => (intros; first | exact rfl | (with_unfolding_all rfl) | decide)
  case ex => k_is
  case hx1 => first | kernel_rfl | rfl | decide +kernel
  case hlo => (intros; first | exact rfl | (with_unfolding_all rfl) | decide)
  case hxk => (intros; first | exact rfl | (with_unfolding_all rfl) | decide)
  case hd => first | exact rfl | (with_unfolding_all rfl) | decide | kernel_rfl
  case hdn => first | exact rfl | (with_unfolding_all rfl) | decide | kernel_rfl
  case hnm => first | exact rfl | (with_unfolding_all rfl) | decide | kernel_rfl
  case hC => exact rfl
  case hok => kernel_rfl
  case hga => k_is
  case hgh => k_is
  case hna => k_is
  case hm => first | exact rfl | (with_unfolding_all rfl) | decide | kernel_rfl
end
end
end
section
theorem fill_now4 (w : World) : Mine.hd.heap_39 w.params = Mine.hd.heap_39 w.params ∧ PySem.Challenge.rw_xm0013_01 = PySem.Challenge.rw_xm0013_01 := by
  k_fill
  exact ⟨rfl, rfl⟩
section
variable (w : World) (mean : ExcName → Option Value) (mg mb : Str → Option Value)
/-- the law's first statement -/
theorem law0 {st : Stmt} {r : List Stmt} {h₀ : Heap} {L f sc : Addr} {cd : Value} {s : Shared} {Q : Flow → Shared → Prop} {E : Value → Shared → Prop} {oc : Obj} {vs : List Value} {ns : List Int}
    (hst : lawRec.body[0]? = some st) (B : Below callerA h₀ [] h₀) (F : Fr h₀ L s.heap (fun y => if y = Str.ofString "script" then some (.ref sc) else none)) (X : (Mine.hd.heap_39 w.params).In h₀)
    (N : News h₀ L s.heap [(L + 1, oc)]) (T : Top Mine.hd.view_39 (looseW Mine.hd.view_39 [Str.ofString "BasicError"]) mean mg mb h₀) (hoc : oc.data = Data.cell none) (hsc : h₀.IsList sc vs.toArray) (hi : IntsAre vs ns) (hz : ns.length ≤ 63)
    (hret : ∀ (bag ls : Addr) (oc' : Obj) (tp : Tok) (ub ul : Nat) (ws : List Value) (h' : Heap) (tk' : Nat),
      Fr h₀ L h' (fun y => if y = Str.ofString "script" then some (.ref sc) else none) → oc'.data = Data.cell (some (.ref bag)) → News h₀ L h' [(bag, W.listOf #[.ref ls, .int 0 tp] ub), (ls, W.listOf ws.toArray ul), (L + 1, oc')] → IntsAre ws (ns.take 6) → @Ne Nat bag ls → @Ne Nat bag (L + 1) → @Ne Nat ls (L + 1) → wpAny (model PySem.Challenge.rw_xm0013_01.row.prog w) (callerA.deeper (envOfC lawRec.name lawRec.scope L f cd)) (execs r (envOfC lawRec.name lawRec.scope L f cd)) Q E { s with heap := h', toks := tk' }) :
    wpAny (model PySem.Challenge.rw_xm0013_01.row.prog w) (callerA.deeper (envOfC lawRec.name lawRec.scope L f cd)) (execs (st :: r) (envOfC lawRec.name lawRec.scope L f cd)) Q E s := by
  revert X
  k_fill
  intro X
  dsimp only [lawRec, recOf] at hst hret ⊢
  simp only [List.getElem?_cons_succ, List.getElem?_cons_zero, Option.some.injEq] at hst
  subst hst
  k_steps
  rename Fr _ _ _ _ => F9
  rename News _ _ _ _ => N9
  rename IntsAre _ (List.take 6 ns) => I9
  rename _ = Data.cell (some _) => d9
  rename _ ∧ _ => l9
  exact hret _ _ _ _ _ _ _ _ _ F9 d9 N9 I9 (Nat.ne_of_gt l9.1) (Nat.ne_of_gt l9.2) (Nat.ne_of_gt (by assumption))
end
end
section
noncomputable section
noncomputable def lawB : Wd := seqW law1B (seqW law2B (seqW law3B (seqW law4B (seqW law5B (seqW law6B (seqW law7B (seqW law8B (seqW law9B (seqW law10B (seqW (tryW (calW 151 [varW 7, varW 8, varW 2])) (seqW law12B (seqW law13B nopW))))))))))))
noncomputable def okT (x : V) : Bool := V.rec (motive := fun _ => Bool) false (fun _ => false) (fun b => b) false (fun _ => false) (fun _ => false) x
noncomputable def allN (n : Nat) (f : Nat → Bool) : Bool := Nat.rec (motive := fun _ => Bool) true (fun i ih => Bool.rec false ih (f i)) n
/-- all drawn ways end in True -/
noncomputable def okR (r : R) : Bool := R.rec (motive := fun _ => Bool) (fun _ _ => false) (fun _ _ => false) (fun x _ => okT x) (fun _ => false) (fun n _ ih => allN n ih) false r
noncomputable def lawR : R := lawB (calF 16) [.u, .r 0, .u, .u, .u, .u, .u, .u, .u, .u, .u, .u] (.mk 3 (upd (upd (upd (.sg 0 .lf .lf) 0 (.cel (.r 2))) 1 .raw) 2 (.lst [.r 1, .n 0])) [])
end
section
variable {w : World} {mean : ExcName → Option Value} {mg mb : Str → Option Value} {zs : List Int}
theorem allN_all : ∀ {n : Nat} {f : Nat → Bool}, allN n f = true → ∀ i, i < n → f i = true
  | n + 1, f, h, i, hi => by
    have e : allN (n + 1) f = Bool.rec false (allN n f) (f n) := rfl
    rw [e] at h
    cases hf : f n with
    | false => rw [hf] at h; cases h
    | true =>
      rw [hf] at h
      by_cases e : i = n
      · rw [e]; exact hf
      · exact allN_all h i (by omega)
theorem okR_post {κ : Kp} {K : Kx} {φ : List Addr} {s : Shared} {Q : Flow → Shared → Prop} {E : Value → Shared → Prop} (hQ : ∀ h' tk' mm', Fr K.g K.L h' mm' → Q (.ret (.bool true)) { s with heap := h', toks := tk' }) : ∀ {r : R}, okR r = true → PostS zs κ K φ s Q E r
  | .rt x σ', h => fun φ' h' tk' mm' rv p S r => by
    cases x with
    | b y =>
      replace h : y = true := h
      subst h
      cases r
      exact hQ h' tk' mm' S.1
    | _ => exact nomatch (show false = true from h)
  | .ch n k, h => fun i hi => okR_post hQ (allN_all (f := fun i => okR (k i)) h i hi)
  | .v _ _, h => nomatch (show false = true from h)
  | .nx _ _, h => nomatch (show false = true from h)
  | .ec _, h => nomatch (show false = true from h)
  | .bad, h => nomatch (show false = true from h)
noncomputable def ExcL (w : World) (mean : ExcName → Option Value) (mg mb : Str → Option Value) (zs : List Int) (st : Stmt) (M : Wd) : Prop := ∀ n c, CallOk w mean mg mb zs c n → ∀ (K : Kx) m φ σ s Q E, K.outer = [] → K.Good w mean mg mb n → K.Ok (.fn lawRec.scope lawN) m φ → K.Sta zs φ σ s.heap → PostS zs (.fn lawRec.scope lawN) K φ s Q E (M c m σ) → wpAny (Mdl w) K.A (exec st K.ev) Q E s
noncomputable def BdyL (w : World) (mean : ExcName → Option Value) (mg mb : Str → Option Value) (zs : List Int) (l : List Stmt) (M : Wd) : Prop := ∀ n c, CallOk w mean mg mb zs c n → ∀ (K : Kx) m φ σ s Q E, K.outer = [] → K.Good w mean mg mb n → K.Ok (.fn lawRec.scope lawN) m φ → K.Sta zs φ σ s.heap → PostS zs (.fn lawRec.scope lawN) K φ s Q E (M c m σ) → wpAny (Mdl w) K.A (execs l K.ev) Q E s
theorem BdyL.nil : BdyL w mean mg mb zs [] nopW := fun n c hc K m φ σ s Q E _ G O S P => BdyS.nil n c hc K m φ σ s Q E G O S P
theorem BdyL.cons {st : Stmt} {l : List Stmt} {A B : Wd} (ha : ExcL w mean mg mb zs st A) (hb : BdyL w mean mg mb zs l B) : BdyL w mean mg mb zs (st :: l) (seqW A B) := by
  intro n c hc K m φ σ s Q E ho G O S P
  refine wpAny_execs_cons (ha n c hc K m φ σ s _ E ho G O S (PostS.bnds P ?_ fun _ _ h => h))
  intro m' σ' φ' h' tk' mm' p O' S' P'
  exact hb n c hc (K.wm mm') m' φ' σ' _ Q E ho (G.later mm') O' S' P'
theorem ExcL.of {st : Stmt} {A : Wd} (h : ExcS w mean mg mb zs (.fn lawRec.scope lawN) st A) : ExcL w mean mg mb zs st A := fun n c hc K m φ σ s Q E _ G O S P => h n c hc K m φ σ s Q E G O S P
theorem body_split : ∃ s0 s1 s2 s3 s4 s5 s6 s7 s8 s9 s10 s11 s12 s13 : Stmt, lawRec.body = [s0, s1, s2, s3, s4, s5, s6, s7, s8, s9, s10, s11, s12, s13] := ⟨_, _, _, _, _, _, _, _, _, _, _, _, _, _, rfl⟩
theorem law_rest {s0 s1 s2 s3 s4 s5 s6 s7 s8 s9 s10 s11 s12 s13 : Stmt} (e : lawRec.body = [s0, s1, s2, s3, s4, s5, s6, s7, s8, s9, s10, s11, s12, s13]) : BdyL w mean mg mb zs [s1, s2, s3, s4, s5, s6, s7, s8, s9, s10, s11, s12, s13] lawB :=
  .cons (.of (law1_t _ (by rw [e]; rfl))) (.cons (.of (law2_t _ (by rw [e]; rfl))) (.cons (.of (law3_t _ (by rw [e]; rfl))) (.cons (.of (law4_t _ (by rw [e]; rfl))) (.cons (.of (law5_t _ (by rw [e]; rfl))) (.cons (.of (law6_t _ (by rw [e]; rfl))) (.cons (.of (law7_t _ (by rw [e]; rfl)))
    (.cons (.of (law8_t _ (by rw [e]; rfl))) (.cons (.of (law9_t _ (by rw [e]; rfl))) (.cons (.of (law10_t _ (by rw [e]; rfl))) (.cons (law11_t _ (by rw [e]; rfl)) (.cons (.of (law12_t _ (by rw [e]; rfl))) (.cons (.of (law13_t _ (by rw [e]; rfl))) .nil))))))))))))
end
end
section
theorem look_mem {x : Str} {y : Bool × Nat} : ∀ {l : List (Str × Bool × Nat)}, l.lookup x = some y → ∃ i : Nat, l[i]? = some (x, y)
  | (a, b) :: l, h => by
    rw [List.lookup_cons] at h
    cases e : x == a with
    | true => rw [e] at h; cases h; rw [eq_of_beq e]; exact ⟨0, rfl⟩
    | false => rw [e] at h; obtain ⟨i, h⟩ := look_mem h; exact ⟨i + 1, h⟩
theorem one_only {a : Str} {b : Bool} {k : Nat} {x : Str} {b' : Bool} (hk : k ≠ 1) (h : some (a, b, k) = some (x, b', 1)) : False := hk (congrArg (fun p => p.2.2) (Option.some.inj h))
theorem one_is {a : Str} {b : Bool} {x : Str} {b' : Bool} (h : some (a, b, 1) = some (x, b', 1)) : x = a ∧ b' = b := by
  have h := Option.some.inj h
  exact ⟨(congrArg (fun p => p.1) h).symm, (congrArg (fun p => p.2.1) h).symm⟩
theorem lawN_one {x : Str} {b : Bool} (h : lawN.lookup x = some (b, 1)) : x = Str.ofString "bag" ∧ b = true := by
  obtain ⟨i, h⟩ := look_mem h
  match i, h with
  | 0, h => exact (one_only (by decide) h).elim
  | 1, h => exact one_is h
  | 2, h => exact (one_only (by decide) h).elim
  | 3, h => exact (one_only (by decide) h).elim
  | 4, h => exact (one_only (by decide) h).elim
  | 5, h => exact (one_only (by decide) h).elim
  | 6, h => exact (one_only (by decide) h).elim
  | 7, h => exact (one_only (by decide) h).elim
  | 8, h => exact (one_only (by decide) h).elim
  | 9, h => exact (one_only (by decide) h).elim
  | i + 10, h => exact nomatch (show (none : Option (Str × Bool × Nat)) = some (x, b, 1) from h)
end
section
section
variable (w : World) (mean : ExcName → Option Value) (mg mb : Str → Option Value)
theorem first_six {ns : List Int} (h : ns.length ≤ 63) : (ns.take 6).length ≤ 100 := by rw [List.length_take]; omega
theorem law_walk {h₀ : Heap} {L f sc : Addr} {cd : Value} {s : Shared} {Q : Flow → Shared → Prop} {E : Value → Shared → Prop} {oc : Obj} {vs : List Value} {ns : List Int}
    (B : Below callerA h₀ [] h₀) (F : Fr h₀ L s.heap (fun y => if y = Str.ofString "script" then some (.ref sc) else none)) (X : (Mine.hd.heap_39 w.params).In h₀)
    (N : News h₀ L s.heap [(L + 1, oc)]) (T : Top Mine.hd.view_39 (looseW Mine.hd.view_39 [Str.ofString "BasicError"]) mean mg mb h₀)
    (hoc : oc.data = Data.cell none) (hsc : h₀.IsList sc vs.toArray) (hi : IntsAre vs ns) (hz : ns.length ≤ 63) (hrun : okR lawR = true) (hret : ∀ h' tk' m', Fr h₀ L h' m' → Q (.ret (.bool true)) { s with heap := h', toks := tk' }) :
    wpAny (model PySem.Challenge.rw_xm0013_01.row.prog w) (callerA.deeper (envOfC lawRec.name lawRec.scope L f cd)) (execs lawRec.body (envOfC lawRec.name lawRec.scope L f cd)) Q E s := by
  obtain ⟨s0, s1, s2, s3, s4, s5, s6, s7, s8, s9, s10, s11, s12, s13, e⟩ := body_split
  rw [e]
  refine law0 w mean mg mb (by rw [e]; rfl) B F X N T hoc hsc hi hz ?_
  intro bag ls oc' tp ub ul ws h' tk' F' hd' N' I' n1 n2 n3
  let A : Around := callerA.deeper (envOfC lawRec.name lawRec.scope L f cd)
  let K : Kx := { dp := A.depth, un := A.units, gd := A.guards, cn := lawRec.name, cs := lawRec.scope, a := f, ccd := cd, cl := [(Str.ofString "bag", L + 1)], outer := [], A₀ := callerA, base := h₀, g := h₀, L := L, mm := fun y => if y = Str.ofString "script" then some (.ref sc) else none, xl := [], pn := [], ev := envOfC lawRec.name lawRec.scope L f cd }
  refine law_rest (zs := ns.take 6) e 16 (calF 16) (call_ok (first_six hz) 16) K [.u, .r 0, .u, .u, .u, .u, .u, .u, .u, .u, .u, .u] [L + 1, ls, bag] (.mk 3 (upd (upd (upd (.sg 0 .lf .lf) 0 (.cel (.r 2))) 1 .raw) 2 (.lst [.r 1, .n 0])) []) { s with heap := h', toks := tk' } Q E rfl ⟨B, X, T, rfl, Nat.le_of_ble_eq_true rfl, Nat.le_of_ble_eq_true rfl⟩ ⟨rfl, rfl, ?_⟩ ⟨F', [(L + 1, oc'), (ls, W.listOf ws.toArray ul), (bag, W.listOf #[.ref ls, .int 0 tp] ub)], ⟨rfl, ?_, fun _ h => (nomatch h), fun _ h => (nomatch h), _, rfl, ?_⟩, ?_⟩ ?_
  · intro x i v hv
    by_cases e1 : i = 1
    · subst e1
      cases hv
      refine ⟨fun h => ?_, fun h k hk => ?_⟩
      · obtain ⟨_, h⟩ := lawN_one h
        cases h
      · obtain ⟨rfl, _⟩ := lawN_one h
        cases hk
        exact ⟨L + 1, rfl, rfl⟩
    · have hu : v = .u := by
        rcases i with _ | _ | _ | _ | _ | _ | _ | _ | _ | _ | _ | _ | i
        · cases hv; rfl
        · exact (e1 rfl).elim
        all_goals cases hv
        all_goals rfl
      subst hu
      exact ⟨fun _ h => (h rfl).elim, fun _ k hk => nomatch hk⟩
  · refine List.nodup_cons.mpr ⟨?_, List.nodup_cons.mpr ⟨?_, List.nodup_cons.mpr ⟨List.not_mem_nil, List.nodup_nil⟩⟩⟩
    · intro h
      rcases List.mem_cons.mp h with e | h
      · exact n3 e.symm
      · exact n2 (List.mem_singleton.mp h).symm
    · intro h
      exact n1 (List.mem_singleton.mp h).symm
  · intro k o h
    rcases lookO_upd _ _ _ _ _ h with ⟨rfl, rfl⟩ | ⟨_, h⟩
    · exact ⟨_, rfl, _, ub, rfl, .cons ⟨ls, rfl, rfl⟩ (.cons ⟨tp, rfl⟩ .nil), by decide⟩
    rcases lookO_upd _ _ _ _ _ h with ⟨rfl, rfl⟩ | ⟨_, h⟩
    · exact ⟨_, rfl, _, ul, rfl, I'⟩
    rcases lookO_upd _ _ _ _ _ h with ⟨rfl, rfl⟩ | ⟨_, h⟩
    · exact ⟨_, rfl, _, hd', bag, rfl, rfl⟩
    exfalso
    rw [lookO_sg] at h
    cases hb : Nat.ble 0 k <;> rw [hb] at h <;> cases h
  · refine news_sub N' fun p hp => ?_
    rcases List.mem_cons.mp hp with rfl | hp
    · exact .tail _ (.tail _ (.head _))
    rcases List.mem_cons.mp hp with rfl | hp
    · exact .tail _ (.head _)
    · rw [List.mem_singleton.mp hp]; exact .head _
  · exact okR_post (K := K) (s := { s with heap := h', toks := tk' }) (fun h'' tk'' mm' F'' => hret h'' tk'' mm' F'') hrun
end
end
section
noncomputable section
/-- the i-th way that a draw may go -/
noncomputable def sub (r : R) (i : Nat) : R := R.rec (motive := fun _ => R) (fun _ _ => .bad) (fun _ _ => .bad) (fun _ _ => .bad) (fun _ => .bad) (fun _ k _ => k i) .bad r
noncomputable def wid (r : R) : Nat := R.rec (motive := fun _ => Nat) (fun _ _ => 0) (fun _ _ => 0) (fun _ _ => 0) (fun _ => 0) (fun n _ _ => n) 0 r
noncomputable def atR (r : R) (l : List Nat) : R := List.rec (motive := fun _ => R → R) (fun r => r) (fun i _ ih r => ih (sub r i)) l r
end
theorem all_allN {f : Nat → Bool} : ∀ {n : Nat}, (∀ i, i < n → f i = true) → allN n f = true
  | 0, _ => rfl
  | n + 1, h => by
    show Bool.rec false (allN n f) (f n) = true
    rw [h n (Nat.lt_succ_self n)]
    exact all_allN fun i hi => h i (Nat.lt_succ_of_lt hi)
theorem okR_sub {r : R} {n : Nat} (hn : wid r = n) (h0 : 0 < n) (h : ∀ i, i < n → okR (sub r i) = true) : okR r = true := by
  cases r with
  | ch m k => cases hn; exact all_allN (f := fun i => okR (k i)) h
  | _ => cases hn; exact absurd h0 (Nat.lt_irrefl 0)
theorem two {P : Nat → Prop} (a : P 0) (b : P 1) : ∀ i, i < 2 → P i
  | 0, _ => a
  | 1, _ => b
theorem three {P : Nat → Prop} (a : P 0) (b : P 1) (c : P 2) : ∀ i, i < 3 → P i
  | 0, _ => a
  | 1, _ => b
  | 2, _ => c
theorem r0000 : okR (atR lawR [0, 0, 0, 0]) = true := by kernel_rfl
theorem r0001 : okR (atR lawR [0, 0, 0, 1]) = true := by kernel_rfl
theorem r0002 : okR (atR lawR [0, 0, 0, 2]) = true := by kernel_rfl
theorem r000 : okR (atR lawR [0, 0, 0]) = true := okR_sub (n := 3) (by kernel_rfl) (Nat.succ_pos _) (three r0000 r0001 r0002)
theorem r0010 : okR (atR lawR [0, 0, 1, 0]) = true := by kernel_rfl
theorem r0011 : okR (atR lawR [0, 0, 1, 1]) = true := by kernel_rfl
theorem r0012 : okR (atR lawR [0, 0, 1, 2]) = true := by kernel_rfl
theorem r001 : okR (atR lawR [0, 0, 1]) = true := okR_sub (n := 3) (by kernel_rfl) (Nat.succ_pos _) (three r0010 r0011 r0012)
theorem r0020 : okR (atR lawR [0, 0, 2, 0]) = true := by kernel_rfl
theorem r0021 : okR (atR lawR [0, 0, 2, 1]) = true := by kernel_rfl
theorem r0022 : okR (atR lawR [0, 0, 2, 2]) = true := by kernel_rfl
theorem r002 : okR (atR lawR [0, 0, 2]) = true := okR_sub (n := 3) (by kernel_rfl) (Nat.succ_pos _) (three r0020 r0021 r0022)
theorem r00 : okR (atR lawR [0, 0]) = true := okR_sub (n := 3) (by kernel_rfl) (Nat.succ_pos _) (three r000 r001 r002)
theorem r0100 : okR (atR lawR [0, 1, 0, 0]) = true := by kernel_rfl
theorem r0101 : okR (atR lawR [0, 1, 0, 1]) = true := by kernel_rfl
theorem r0102 : okR (atR lawR [0, 1, 0, 2]) = true := by kernel_rfl
theorem r010 : okR (atR lawR [0, 1, 0]) = true := okR_sub (n := 3) (by kernel_rfl) (Nat.succ_pos _) (three r0100 r0101 r0102)
theorem r0110 : okR (atR lawR [0, 1, 1, 0]) = true := by kernel_rfl
theorem r0111 : okR (atR lawR [0, 1, 1, 1]) = true := by kernel_rfl
theorem r0112 : okR (atR lawR [0, 1, 1, 2]) = true := by kernel_rfl
theorem r011 : okR (atR lawR [0, 1, 1]) = true := okR_sub (n := 3) (by kernel_rfl) (Nat.succ_pos _) (three r0110 r0111 r0112)
theorem r0120 : okR (atR lawR [0, 1, 2, 0]) = true := by kernel_rfl
theorem r0121 : okR (atR lawR [0, 1, 2, 1]) = true := by kernel_rfl
theorem r0122 : okR (atR lawR [0, 1, 2, 2]) = true := by kernel_rfl
theorem r012 : okR (atR lawR [0, 1, 2]) = true := okR_sub (n := 3) (by kernel_rfl) (Nat.succ_pos _) (three r0120 r0121 r0122)
theorem r01 : okR (atR lawR [0, 1]) = true := okR_sub (n := 3) (by kernel_rfl) (Nat.succ_pos _) (three r010 r011 r012)
theorem r0200 : okR (atR lawR [0, 2, 0, 0]) = true := by kernel_rfl
theorem r0201 : okR (atR lawR [0, 2, 0, 1]) = true := by kernel_rfl
theorem r0202 : okR (atR lawR [0, 2, 0, 2]) = true := by kernel_rfl
theorem r020 : okR (atR lawR [0, 2, 0]) = true := okR_sub (n := 3) (by kernel_rfl) (Nat.succ_pos _) (three r0200 r0201 r0202)
theorem r0210 : okR (atR lawR [0, 2, 1, 0]) = true := by kernel_rfl
theorem r0211 : okR (atR lawR [0, 2, 1, 1]) = true := by kernel_rfl
theorem r0212 : okR (atR lawR [0, 2, 1, 2]) = true := by kernel_rfl
theorem r021 : okR (atR lawR [0, 2, 1]) = true := okR_sub (n := 3) (by kernel_rfl) (Nat.succ_pos _) (three r0210 r0211 r0212)
theorem r0220 : okR (atR lawR [0, 2, 2, 0]) = true := by kernel_rfl
theorem r0221 : okR (atR lawR [0, 2, 2, 1]) = true := by kernel_rfl
theorem r0222 : okR (atR lawR [0, 2, 2, 2]) = true := by kernel_rfl
theorem r022 : okR (atR lawR [0, 2, 2]) = true := okR_sub (n := 3) (by kernel_rfl) (Nat.succ_pos _) (three r0220 r0221 r0222)
theorem r02 : okR (atR lawR [0, 2]) = true := okR_sub (n := 3) (by kernel_rfl) (Nat.succ_pos _) (three r020 r021 r022)
theorem r0 : okR (atR lawR [0]) = true := okR_sub (n := 3) (by kernel_rfl) (Nat.succ_pos _) (three r00 r01 r02)
theorem r10000 : okR (atR lawR [1, 0, 0, 0, 0]) = true := by kernel_rfl
theorem r10001 : okR (atR lawR [1, 0, 0, 0, 1]) = true := by kernel_rfl
theorem r10002 : okR (atR lawR [1, 0, 0, 0, 2]) = true := by kernel_rfl
theorem r1000 : okR (atR lawR [1, 0, 0, 0]) = true := okR_sub (n := 3) (by kernel_rfl) (Nat.succ_pos _) (three r10000 r10001 r10002)
theorem r10010 : okR (atR lawR [1, 0, 0, 1, 0]) = true := by kernel_rfl
theorem r10011 : okR (atR lawR [1, 0, 0, 1, 1]) = true := by kernel_rfl
theorem r10012 : okR (atR lawR [1, 0, 0, 1, 2]) = true := by kernel_rfl
theorem r1001 : okR (atR lawR [1, 0, 0, 1]) = true := okR_sub (n := 3) (by kernel_rfl) (Nat.succ_pos _) (three r10010 r10011 r10012)
theorem r10020 : okR (atR lawR [1, 0, 0, 2, 0]) = true := by kernel_rfl
theorem r10021 : okR (atR lawR [1, 0, 0, 2, 1]) = true := by kernel_rfl
theorem r10022 : okR (atR lawR [1, 0, 0, 2, 2]) = true := by kernel_rfl
theorem r1002 : okR (atR lawR [1, 0, 0, 2]) = true := okR_sub (n := 3) (by kernel_rfl) (Nat.succ_pos _) (three r10020 r10021 r10022)
theorem r100 : okR (atR lawR [1, 0, 0]) = true := okR_sub (n := 3) (by kernel_rfl) (Nat.succ_pos _) (three r1000 r1001 r1002)
theorem r10100 : okR (atR lawR [1, 0, 1, 0, 0]) = true := by kernel_rfl
theorem r10101 : okR (atR lawR [1, 0, 1, 0, 1]) = true := by kernel_rfl
theorem r10102 : okR (atR lawR [1, 0, 1, 0, 2]) = true := by kernel_rfl
theorem r1010 : okR (atR lawR [1, 0, 1, 0]) = true := okR_sub (n := 3) (by kernel_rfl) (Nat.succ_pos _) (three r10100 r10101 r10102)
theorem r10110 : okR (atR lawR [1, 0, 1, 1, 0]) = true := by kernel_rfl
theorem r10111 : okR (atR lawR [1, 0, 1, 1, 1]) = true := by kernel_rfl
theorem r10112 : okR (atR lawR [1, 0, 1, 1, 2]) = true := by kernel_rfl
theorem r1011 : okR (atR lawR [1, 0, 1, 1]) = true := okR_sub (n := 3) (by kernel_rfl) (Nat.succ_pos _) (three r10110 r10111 r10112)
theorem r10120 : okR (atR lawR [1, 0, 1, 2, 0]) = true := by kernel_rfl
theorem r10121 : okR (atR lawR [1, 0, 1, 2, 1]) = true := by kernel_rfl
theorem r10122 : okR (atR lawR [1, 0, 1, 2, 2]) = true := by kernel_rfl
theorem r1012 : okR (atR lawR [1, 0, 1, 2]) = true := okR_sub (n := 3) (by kernel_rfl) (Nat.succ_pos _) (three r10120 r10121 r10122)
theorem r101 : okR (atR lawR [1, 0, 1]) = true := okR_sub (n := 3) (by kernel_rfl) (Nat.succ_pos _) (three r1010 r1011 r1012)
theorem r10200 : okR (atR lawR [1, 0, 2, 0, 0]) = true := by kernel_rfl
theorem r10201 : okR (atR lawR [1, 0, 2, 0, 1]) = true := by kernel_rfl
theorem r10202 : okR (atR lawR [1, 0, 2, 0, 2]) = true := by kernel_rfl
theorem r1020 : okR (atR lawR [1, 0, 2, 0]) = true := okR_sub (n := 3) (by kernel_rfl) (Nat.succ_pos _) (three r10200 r10201 r10202)
theorem r10210 : okR (atR lawR [1, 0, 2, 1, 0]) = true := by kernel_rfl
theorem r10211 : okR (atR lawR [1, 0, 2, 1, 1]) = true := by kernel_rfl
theorem r10212 : okR (atR lawR [1, 0, 2, 1, 2]) = true := by kernel_rfl
theorem r1021 : okR (atR lawR [1, 0, 2, 1]) = true := okR_sub (n := 3) (by kernel_rfl) (Nat.succ_pos _) (three r10210 r10211 r10212)
theorem r10220 : okR (atR lawR [1, 0, 2, 2, 0]) = true := by kernel_rfl
theorem r10221 : okR (atR lawR [1, 0, 2, 2, 1]) = true := by kernel_rfl
theorem r10222 : okR (atR lawR [1, 0, 2, 2, 2]) = true := by kernel_rfl
theorem r1022 : okR (atR lawR [1, 0, 2, 2]) = true := okR_sub (n := 3) (by kernel_rfl) (Nat.succ_pos _) (three r10220 r10221 r10222)
theorem r102 : okR (atR lawR [1, 0, 2]) = true := okR_sub (n := 3) (by kernel_rfl) (Nat.succ_pos _) (three r1020 r1021 r1022)
theorem r10 : okR (atR lawR [1, 0]) = true := okR_sub (n := 3) (by kernel_rfl) (Nat.succ_pos _) (three r100 r101 r102)
theorem r11000 : okR (atR lawR [1, 1, 0, 0, 0]) = true := by kernel_rfl
theorem r11001 : okR (atR lawR [1, 1, 0, 0, 1]) = true := by kernel_rfl
theorem r11002 : okR (atR lawR [1, 1, 0, 0, 2]) = true := by kernel_rfl
theorem r1100 : okR (atR lawR [1, 1, 0, 0]) = true := okR_sub (n := 3) (by kernel_rfl) (Nat.succ_pos _) (three r11000 r11001 r11002)
theorem r11010 : okR (atR lawR [1, 1, 0, 1, 0]) = true := by kernel_rfl
theorem r11011 : okR (atR lawR [1, 1, 0, 1, 1]) = true := by kernel_rfl
theorem r11012 : okR (atR lawR [1, 1, 0, 1, 2]) = true := by kernel_rfl
theorem r1101 : okR (atR lawR [1, 1, 0, 1]) = true := okR_sub (n := 3) (by kernel_rfl) (Nat.succ_pos _) (three r11010 r11011 r11012)
theorem r11020 : okR (atR lawR [1, 1, 0, 2, 0]) = true := by kernel_rfl
theorem r11021 : okR (atR lawR [1, 1, 0, 2, 1]) = true := by kernel_rfl
theorem r11022 : okR (atR lawR [1, 1, 0, 2, 2]) = true := by kernel_rfl
theorem r1102 : okR (atR lawR [1, 1, 0, 2]) = true := okR_sub (n := 3) (by kernel_rfl) (Nat.succ_pos _) (three r11020 r11021 r11022)
theorem r110 : okR (atR lawR [1, 1, 0]) = true := okR_sub (n := 3) (by kernel_rfl) (Nat.succ_pos _) (three r1100 r1101 r1102)
theorem r11100 : okR (atR lawR [1, 1, 1, 0, 0]) = true := by kernel_rfl
theorem r11101 : okR (atR lawR [1, 1, 1, 0, 1]) = true := by kernel_rfl
theorem r11102 : okR (atR lawR [1, 1, 1, 0, 2]) = true := by kernel_rfl
theorem r1110 : okR (atR lawR [1, 1, 1, 0]) = true := okR_sub (n := 3) (by kernel_rfl) (Nat.succ_pos _) (three r11100 r11101 r11102)
theorem r11110 : okR (atR lawR [1, 1, 1, 1, 0]) = true := by kernel_rfl
theorem r11111 : okR (atR lawR [1, 1, 1, 1, 1]) = true := by kernel_rfl
theorem r11112 : okR (atR lawR [1, 1, 1, 1, 2]) = true := by kernel_rfl
theorem r1111 : okR (atR lawR [1, 1, 1, 1]) = true := okR_sub (n := 3) (by kernel_rfl) (Nat.succ_pos _) (three r11110 r11111 r11112)
theorem r11120 : okR (atR lawR [1, 1, 1, 2, 0]) = true := by kernel_rfl
theorem r11121 : okR (atR lawR [1, 1, 1, 2, 1]) = true := by kernel_rfl
theorem r11122 : okR (atR lawR [1, 1, 1, 2, 2]) = true := by kernel_rfl
theorem r1112 : okR (atR lawR [1, 1, 1, 2]) = true := okR_sub (n := 3) (by kernel_rfl) (Nat.succ_pos _) (three r11120 r11121 r11122)
theorem r111 : okR (atR lawR [1, 1, 1]) = true := okR_sub (n := 3) (by kernel_rfl) (Nat.succ_pos _) (three r1110 r1111 r1112)
theorem r11200 : okR (atR lawR [1, 1, 2, 0, 0]) = true := by kernel_rfl
theorem r11201 : okR (atR lawR [1, 1, 2, 0, 1]) = true := by kernel_rfl
theorem r11202 : okR (atR lawR [1, 1, 2, 0, 2]) = true := by kernel_rfl
theorem r1120 : okR (atR lawR [1, 1, 2, 0]) = true := okR_sub (n := 3) (by kernel_rfl) (Nat.succ_pos _) (three r11200 r11201 r11202)
theorem r11210 : okR (atR lawR [1, 1, 2, 1, 0]) = true := by kernel_rfl
theorem r11211 : okR (atR lawR [1, 1, 2, 1, 1]) = true := by kernel_rfl
theorem r11212 : okR (atR lawR [1, 1, 2, 1, 2]) = true := by kernel_rfl
theorem r1121 : okR (atR lawR [1, 1, 2, 1]) = true := okR_sub (n := 3) (by kernel_rfl) (Nat.succ_pos _) (three r11210 r11211 r11212)
theorem r11220 : okR (atR lawR [1, 1, 2, 2, 0]) = true := by kernel_rfl
theorem r11221 : okR (atR lawR [1, 1, 2, 2, 1]) = true := by kernel_rfl
theorem r11222 : okR (atR lawR [1, 1, 2, 2, 2]) = true := by kernel_rfl
theorem r1122 : okR (atR lawR [1, 1, 2, 2]) = true := okR_sub (n := 3) (by kernel_rfl) (Nat.succ_pos _) (three r11220 r11221 r11222)
theorem r112 : okR (atR lawR [1, 1, 2]) = true := okR_sub (n := 3) (by kernel_rfl) (Nat.succ_pos _) (three r1120 r1121 r1122)
theorem r11 : okR (atR lawR [1, 1]) = true := okR_sub (n := 3) (by kernel_rfl) (Nat.succ_pos _) (three r110 r111 r112)
theorem r12000 : okR (atR lawR [1, 2, 0, 0, 0]) = true := by kernel_rfl
theorem r12001 : okR (atR lawR [1, 2, 0, 0, 1]) = true := by kernel_rfl
theorem r12002 : okR (atR lawR [1, 2, 0, 0, 2]) = true := by kernel_rfl
theorem r1200 : okR (atR lawR [1, 2, 0, 0]) = true := okR_sub (n := 3) (by kernel_rfl) (Nat.succ_pos _) (three r12000 r12001 r12002)
theorem r12010 : okR (atR lawR [1, 2, 0, 1, 0]) = true := by kernel_rfl
theorem r12011 : okR (atR lawR [1, 2, 0, 1, 1]) = true := by kernel_rfl
theorem r12012 : okR (atR lawR [1, 2, 0, 1, 2]) = true := by kernel_rfl
theorem r1201 : okR (atR lawR [1, 2, 0, 1]) = true := okR_sub (n := 3) (by kernel_rfl) (Nat.succ_pos _) (three r12010 r12011 r12012)
theorem r12020 : okR (atR lawR [1, 2, 0, 2, 0]) = true := by kernel_rfl
theorem r12021 : okR (atR lawR [1, 2, 0, 2, 1]) = true := by kernel_rfl
theorem r12022 : okR (atR lawR [1, 2, 0, 2, 2]) = true := by kernel_rfl
theorem r1202 : okR (atR lawR [1, 2, 0, 2]) = true := okR_sub (n := 3) (by kernel_rfl) (Nat.succ_pos _) (three r12020 r12021 r12022)
theorem r120 : okR (atR lawR [1, 2, 0]) = true := okR_sub (n := 3) (by kernel_rfl) (Nat.succ_pos _) (three r1200 r1201 r1202)
theorem r12100 : okR (atR lawR [1, 2, 1, 0, 0]) = true := by kernel_rfl
theorem r12101 : okR (atR lawR [1, 2, 1, 0, 1]) = true := by kernel_rfl
theorem r12102 : okR (atR lawR [1, 2, 1, 0, 2]) = true := by kernel_rfl
theorem r1210 : okR (atR lawR [1, 2, 1, 0]) = true := okR_sub (n := 3) (by kernel_rfl) (Nat.succ_pos _) (three r12100 r12101 r12102)
theorem r12110 : okR (atR lawR [1, 2, 1, 1, 0]) = true := by kernel_rfl
theorem r12111 : okR (atR lawR [1, 2, 1, 1, 1]) = true := by kernel_rfl
theorem r12112 : okR (atR lawR [1, 2, 1, 1, 2]) = true := by kernel_rfl
theorem r1211 : okR (atR lawR [1, 2, 1, 1]) = true := okR_sub (n := 3) (by kernel_rfl) (Nat.succ_pos _) (three r12110 r12111 r12112)
theorem r12120 : okR (atR lawR [1, 2, 1, 2, 0]) = true := by kernel_rfl
theorem r12121 : okR (atR lawR [1, 2, 1, 2, 1]) = true := by kernel_rfl
theorem r12122 : okR (atR lawR [1, 2, 1, 2, 2]) = true := by kernel_rfl
theorem r1212 : okR (atR lawR [1, 2, 1, 2]) = true := okR_sub (n := 3) (by kernel_rfl) (Nat.succ_pos _) (three r12120 r12121 r12122)
theorem r121 : okR (atR lawR [1, 2, 1]) = true := okR_sub (n := 3) (by kernel_rfl) (Nat.succ_pos _) (three r1210 r1211 r1212)
theorem r12200 : okR (atR lawR [1, 2, 2, 0, 0]) = true := by kernel_rfl
theorem r12201 : okR (atR lawR [1, 2, 2, 0, 1]) = true := by kernel_rfl
theorem r12202 : okR (atR lawR [1, 2, 2, 0, 2]) = true := by kernel_rfl
theorem r1220 : okR (atR lawR [1, 2, 2, 0]) = true := okR_sub (n := 3) (by kernel_rfl) (Nat.succ_pos _) (three r12200 r12201 r12202)
theorem r12210 : okR (atR lawR [1, 2, 2, 1, 0]) = true := by kernel_rfl
theorem r12211 : okR (atR lawR [1, 2, 2, 1, 1]) = true := by kernel_rfl
theorem r12212 : okR (atR lawR [1, 2, 2, 1, 2]) = true := by kernel_rfl
theorem r1221 : okR (atR lawR [1, 2, 2, 1]) = true := okR_sub (n := 3) (by kernel_rfl) (Nat.succ_pos _) (three r12210 r12211 r12212)
theorem r12220 : okR (atR lawR [1, 2, 2, 2, 0]) = true := by kernel_rfl
theorem r12221 : okR (atR lawR [1, 2, 2, 2, 1]) = true := by kernel_rfl
theorem r12222 : okR (atR lawR [1, 2, 2, 2, 2]) = true := by kernel_rfl
theorem r1222 : okR (atR lawR [1, 2, 2, 2]) = true := okR_sub (n := 3) (by kernel_rfl) (Nat.succ_pos _) (three r12220 r12221 r12222)
theorem r122 : okR (atR lawR [1, 2, 2]) = true := okR_sub (n := 3) (by kernel_rfl) (Nat.succ_pos _) (three r1220 r1221 r1222)
theorem r12 : okR (atR lawR [1, 2]) = true := okR_sub (n := 3) (by kernel_rfl) (Nat.succ_pos _) (three r120 r121 r122)
theorem r1 : okR (atR lawR [1]) = true := okR_sub (n := 3) (by kernel_rfl) (Nat.succ_pos _) (three r10 r11 r12)
theorem r : okR (atR lawR []) = true := okR_sub (n := 2) (by kernel_rfl) (Nat.succ_pos _) (two r0 r1)
end
end Mine
theorem PySem.Challenge.cw_xm0013_01_holds : PySem.Challenge.rw_xm0013_01.Holds := by
  refine Mine.hd ?_
  k_go0
  rename Fr _ _ _ _ => F0
  rename News _ _ _ _ => N0
  rename Top _ _ _ _ _ _ => T0
  rename Below _ _ _ _ => B0
  rename IntsAre _ _ => I0
  rename Heap.IsList _ _ _ => L0
  rename Frag.In _ _ => X0
  refine Mine.law_walk _ _ _ _ B0 F0 X0 N0 T0 ?_ L0 I0 ?_ Mine.r ?_
  · rename _ = Data.cell _ => d0
    exact d0
  · omega
  · intro h' tk' m' F'
    k_steps
