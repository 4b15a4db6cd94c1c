import PyProof.Rows.All
import Wide.All
import OpenK.AllK
import Wide.FinOn
import PySem.Challenge.RW_xm0013_01
open PySem PySem.W PySem.Spec PySem.Calls PyProof.Rows
set_option linter.all false
set_option Elab.async false
set_option maxRecDepth 100000
set_option maxHeartbeats 8000000
namespace Mine
open_top hd for PySem.Challenge.rw_xm0013_01

section
/-- the ints of a place -/
def sl (ns : List Int) (a l : Int) : List Int := (ns.drop a.toNat).take l.toNat
/-- ints with some of them written over -/
def wr (ns : List Int) (a : Nat) (ms : List Int) : List Int := ns.take a ++ ms ++ ns.drop (a + ms.length)
theorem wr_length {ns : List Int} {a : Nat} {ms : List Int} (h : a + ms.length ≤ ns.length) : (wr ns a ms).length = ns.length := by
  simp only [wr, List.length_append, List.length_take, List.length_drop]; omega
theorem wr_nil (ns : List Int) (a : Nat) : wr ns a [] = ns := by simp [wr]
theorem wr_get {ns : List Int} {a : Nat} {ms : List Int} (h : a + ms.length ≤ ns.length) (i : Nat) : (wr ns a ms)[i]? = if i < a then ns[i]? else if i < a + ms.length then ms[i - a]? else ns[i]? := by
  have e : min a ns.length = a := by omega
  simp only [wr, List.getElem?_append, List.length_append, List.length_take, e, List.getElem?_take, List.getElem?_drop]
  by_cases h1 : i < a
  · have h2 : i < a + ms.length := by omega
    simp [h1, h2]
  · by_cases h2 : i < a + ms.length
    · simp [h1, h2]
    · simp only [h1, h2, if_false]
      congr 1; omega
theorem wr_snoc {ns : List Int} {a : Nat} {ms : List Int} {x : Int} (h : a + ms.length < ns.length) : (wr ns a ms).set (a + ms.length) x = wr ns a (ms ++ [x]) := by
  apply List.ext_getElem?
  intro i
  have hl := wr_length (ns := ns) (a := a) (ms := ms) (by omega)
  rw [List.getElem?_set, hl, wr_get (by omega), wr_get (by simp; omega)]
  simp only [List.length_append, List.length_cons, List.length_nil]
  by_cases h1 : a + ms.length = i
  · subst h1
    have h2 : ¬ a + ms.length < a := by omega
    have h3 : a + ms.length < a + (ms.length + (0 + 1)) := by omega
    have h4 : a + ms.length - a = ms.length := by omega
    simp only [if_true, h, h2, h3, if_false, h4]
    simp
  · simp only [h1, if_false]
    by_cases h2 : i < a
    · simp [h2]
    · by_cases h3 : i < a + ms.length
      · have h4 : i < a + (ms.length + (0 + 1)) := by omega
        simp only [h2, h3, h4, if_true, if_false]
        rw [List.getElem?_append_left (by omega)]
      · have h4 : ¬ i < a + (ms.length + (0 + 1)) := by omega
        simp only [h2, h3, h4, if_false]
theorem sl_get (ns : List Int) (a l : Int) (i : Nat) : (sl ns a l)[i]? = if i < l.toNat then ns[a.toNat + i]? else none := by
  simp only [sl, List.getElem?_take, List.getElem?_drop]
theorem sl_length {ns : List Int} {a l : Int} (h0 : 0 ≤ a) (h1 : 0 ≤ l) (h2 : a + l ≤ ns.length) : ((sl ns a l).length : Int) = l := by
  simp only [sl, List.length_take, List.length_drop]; omega
theorem sl_wr_self {ns ms : List Int} {a l : Int} (h0 : 0 ≤ a) (hl : (ms.length : Int) = l) (h1 : a + l ≤ ns.length) : sl (wr ns a.toNat ms) a l = ms := by
  apply List.ext_getElem?
  intro i
  rw [sl_get, wr_get (by omega)]
  have h2 : ¬ a.toNat + i < a.toNat := by omega
  simp only [h2, if_false]
  by_cases h3 : i < l.toNat
  · have h4 : a.toNat + i < a.toNat + ms.length := by omega
    simp only [h3, h4, if_true]
    congr 1; omega
  · simp only [h3, if_false]
    rw [List.getElem?_eq_none (by omega)]
theorem sl_wr_off {ns ms : List Int} {a b l : Int} (h0 : 0 ≤ a) (hb : 0 ≤ b) (h1 : a + ms.length ≤ ns.length) (h2 : b + l ≤ a ∨ a + ms.length ≤ b) : sl (wr ns a.toNat ms) b l = sl ns b l := by
  apply List.ext_getElem?
  intro i
  rw [sl_get, sl_get, wr_get (by omega)]
  by_cases h3 : i < l.toNat
  · simp only [h3, if_true]
    rcases h2 with h2 | h2
    · have h4 : b.toNat + i < a.toNat := by omega
      simp [h4]
    · have h4 : ¬ b.toNat + i < a.toNat := by omega
      have h5 : ¬ b.toNat + i < a.toNat + ms.length := by omega
      simp [h4, h5]
  · simp [h3]
theorem wr_all {P : Int → Prop} {ns ms : List Int} {a : Nat} (h : ∀ x ∈ ns, P x) (hm : ∀ x ∈ ms, P x) : ∀ x ∈ wr ns a ms, P x := fun x hx => by
  simp only [wr, List.mem_append] at hx
  rcases hx with (hx | hx) | hx
  · exact h x (List.mem_of_mem_take hx)
  · exact hm x hx
  · exact h x (List.mem_of_mem_drop hx)
theorem sl_all {P : Int → Prop} {ns : List Int} {a l : Int} (h : ∀ x ∈ ns, P x) : ∀ x ∈ sl ns a l, P x := fun x hx => h x (List.mem_of_mem_drop (List.mem_of_mem_take hx))
end


/-- all that stood, but at the addresses `as`, stands as it stood -/
def KeepBut (as : List Addr) (h h' : Heap) : Prop := ∀ b o, h.get? b = some o → b ∉ as → h'.get? b = some o

theorem KeepBut.fr {as : List Addr} {h g h' : Heap} {L : Addr} {m : Str → Option Value} (k : KeepBut as h g) (F : Fr g L h' m) : KeepBut as h h' := fun b o e n => F.keep b o (k b o e n)

/-- a call of a def of the text: what it hands back, what it leaves of the ledger; all else stands -/
abbrev Ctr (w : World) (mean : ExcName → Option Value) (mg mb : Str → Option Value) (d : Nat) (f : Addr) (vs : List Value) (led : List (Addr × Obj)) (Post : Heap → Value → List (Addr × Obj) → Prop) : Prop :=
  ∀ (dp un : Nat) (gd : Option (List Code)) (cn : Str) (cs : Scope) (a : Addr) (ccd : Value) (cl : List (Str × Addr)) (outer : List Env) (A₀ : Around) (base h₀ : Heap) (L : Addr) (m : Str → Option Value) (s : Shared) (Q E : Value → Shared → Prop),
    Below A₀ base outer h₀ → Fr h₀ L s.heap m → (Mine.hd.heap_39 w.params).In h₀ → News h₀ L s.heap led → Top Mine.hd.view_39 (looseW Mine.hd.view_39 [Str.ofString "BasicError"]) mean mg mb h₀ → cs.kind = .function →
    dp + d < recursionLimit → un + 8 * d < cLine →
    (∀ r led' h' tk', Fr h₀ L h' m → News h₀ L h' led' → KeepBut (led.map (·.1)) s.heap h' → Post s.heap r led' → Q r { s with heap := h', toks := tk' }) →
    wpAny (model PySem.Challenge.rw_xm0013_01.row.prog w) (ktrTop dp un gd cn cs L a ccd cl outer) (call (.ref f) vs) Q E s

section
variable {prog : Program} {w : World} {A₀ A : Around} {s : Shared} {base h₀ : Heap} {outer : List Env} {L : Addr} {m mg mb : Str → Option Value} {env : Env} {led : List (Addr × Obj)} {K : Frag} {p : Program} {loose : List Str} {mean : ExcName → Option Value}
  {R : Result → Shared → Prop} {name qual : Str} {params : Arguments} {body : List Stmt} {scope : Scope} {dV kV doc pm cdv ct oc : Value} {an od : Option Addr} {osl : Array (Option Value)} {f : Addr} {args : Args} {binds : List (Str × Value)}

/-- entering a def with a part of the ledger: the rest of the heap lies in the ground -/
theorem enter_def (B : Below A₀ base outer h₀) (F : Fr h₀ L s.heap m) (X₀ : K.In h₀) (N : News h₀ L s.heap led) (T : Top p loose mean mg mb h₀) (hA : A.frames = some (env :: outer)) (hf : env.frame = some L) (hke : env.scope.kind = .function)
    (ho : K.lookup f = some ⟨oc, od, .func (fnOf name qual params body scope dV kV doc pm an cdv ct), osl⟩) (hcd : codeIn K cdv qual = true) (hroom : A.depth < recursionLimit)
    (hbind : BindsTo s (fnOf name qual params body scope dV kV doc pm an cdv ct) args binds) (hloc : ∀ y ∈ binds, scope.names.lookup y.1 = some .local)
    (h : ∀ g L' h₁, s.heap.objs.size ≤ L' → KeepBut (led.map (·.1)) s.heap g → AllLt s.heap.objs.size led → Fr g L' h₁ (fun y => binds.reverse.lookup y) → News g L' h₁ led → Below A base (env :: outer) g → K.In g → Top p loose mean mg mb g →
      wpAny (model prog w) (A.deeper (envOf qual scope L' f cdv)) (execs body (envOf qual scope L' f cdv))
        (fun fl s' => LeaveK h₀ L m g R (match fl with | .ret v => v | _ => .none) s')
        (fun e s' => wpAny (model prog w) (A.deeper (envOf qual scope L' f cdv)) (leaving (envOf qual scope L' f cdv) e) (fun _ s'' => R (.error e) s'') (fun e' s'' => R (.error e') s'') s')
        { s with heap := h₁, toks := s.toks + binds.length })
    (hco : scope.isCoroutine = false) (hgen : scope.isGenerator = false) (hk : scope.kind = .function)
    (hcell : ∀ x ∈ scope.names, x.2 ≠ .cell) : codeAny (model prog w) A (.call (.ref f) args) R s := by
  obtain ⟨FG, BG, st, lv⟩ := groundX (R := R) B F N hA hf hke
  have X := X₀.keeps F.keep
  refine codeAny_call_def (fd := fnOf name qual params body scope dV kV doc pm an cdv ct) (body := body) (binds := binds) hroom (X _ _ ho) rfl (T.nolimit.keeps F.keep) (codeRec_of X hcd) rfl hbind hcell hloc (fun h₁ hns hk₁ => ?_) hco hgen hk
  exact wpAny_mono (h _ s.heap.objs.size h₁ (Nat.le_refl _) (fun b o e n => hideAll_get _ e n) (allLt_of fun p hp => Heap.lt_size (N p hp).1) ⟨hns, fun b o e => hk₁ b o (of_hideAll _ e), Nat.le_of_eq (hideAll_size _ _)⟩
    (fun p hp => ⟨hk₁ _ _ (N p hp).1, Nat.ne_of_lt (Heap.lt_size (N p hp).1), hideAll_none _ (List.mem_map_of_mem hp)⟩) BG (X₀.keeps st) (T.keeps st)) (fun fl s' hl => lv _ _ hl) fun _ _ y => y

theorem enter_defC (B : Below A₀ base outer h₀) (F : Fr h₀ L s.heap m) (X₀ : K.In h₀) (N : News h₀ L s.heap led) (T : Top p loose mean mg mb h₀) (hA : A.frames = some (env :: outer)) (hf : env.frame = some L) (hke : env.scope.kind = .function)
    (ho : K.lookup f = some ⟨oc, od, .func (fnOf name qual params body scope dV kV doc pm an cdv ct), osl⟩) (hcd : codeIn K cdv qual = true) (hroom : A.depth < recursionLimit)
    (hbind : BindsTo s (fnOf name qual params body scope dV kV doc pm an cdv ct) args binds) (hkind : (binds.all fun y => scope.names.lookup y.1 == some .local || scope.names.lookup y.1 == some .cell) = true)
    (hnd : ((cellsFrom 0 scope.names []).map (·.1)).Nodup)
    (h : ∀ g L' h₁ tk cells, s.heap.objs.size ≤ L' → KeepBut (led.map (·.1)) s.heap g → AllLt s.heap.objs.size led → Fr g L' h₁ (bindL (envOfC qual scope L' f cdv).kindOf binds fun _ => none) → News g L' h₁ (cells ++ led) →
      CellsAre (bindC (envOfC qual scope L' f cdv).kindOf binds fun _ => none) (cellsFrom (L' + 1) scope.names []) cells → Below A base (env :: outer) g → K.In g → Top p loose mean mg mb g →
      wpAny (model prog w) (A.deeper (envOfC qual scope L' f cdv)) (execs body (envOfC qual scope L' f cdv))
        (fun fl s' => LeaveK h₀ L m g R (match fl with | .ret v => v | _ => .none) s')
        (fun e s' => wpAny (model prog w) (A.deeper (envOfC qual scope L' f cdv)) (leaving (envOfC qual scope L' f cdv) e) (fun _ s'' => R (.error e) s'') (fun e' s'' => R (.error e') s'') s')
        { s with heap := h₁, toks := tk })
    (hco : scope.isCoroutine = false) (hgen : scope.isGenerator = false) (hk : scope.kind = .function) : codeAny (model prog w) A (.call (.ref f) args) R s := by
  obtain ⟨FG, BG, st, lv⟩ := groundX (R := R) B F N hA hf hke
  have X := X₀.keeps F.keep
  refine codeAny_call_function hroom (X _ _ ho) rfl hco hgen rfl (codeRec_of X hcd) (hbind _ _ _ _ ?_)
  refine wpAny_newFunctionEnv_cells hk (kindsX hkind _) fun env' he s' x => ?_
  subst he
  refine ⟨(T.nolimit.keeps F.keep).keeps x.toInCall.keep, codeAny_func ?_⟩
  obtain ⟨h₁, tk, rfl, _⟩ := x.done
  have hk₁ := x.toInCall.keep
  obtain ⟨cells, NC, Y⟩ := Cl.news (h₀ := s.heap) (Nat.le_refl _) fun n c hm => ⟨x.cell n c (lookup_of_mem_nodup (cellsFrom_names scope.names 0 (s.heap.objs.size + 1) [] [] rfl ▸ hnd) hm), x.above n c hm⟩
  refine wpAny_mono (h _ s.heap.objs.size h₁ tk cells (Nat.le_refl _) (fun b o e n => hideAll_get _ e n) (allLt_of fun p hp => Heap.lt_size (N p hp).1) ⟨x.toInCall.ns, fun b o e => hk₁ b o (of_hideAll _ e), Nat.le_of_eq (hideAll_size _ _)⟩ (fun p hp => ?_) Y BG (X₀.keeps st) (T.keeps st)) (fun fl s' hl => lv _ _ hl) fun _ _ y => y
  rcases List.mem_append.mp hp with hp | hp
  · refine ⟨(NC p hp).1, (NC p hp).2.1, ?_⟩
    cases q : (hideAll s.heap (led.map (·.1))).get? p.1 with
    | none => rfl
    | some o => have := of_hideAll _ q; rw [(NC p hp).2.2] at this; cases this
  · exact ⟨hk₁ _ _ (N p hp).1, Nat.ne_of_lt (Heap.lt_size (N p hp).1), hideAll_none _ (List.mem_map_of_mem hp)⟩
end

/-- what a call left, beside what it did not touch -/
theorem news_on {h₀ h h' : Heap} {L : Addr} {big led' rest : List (Addr × Obj)} {as : List Addr} (N : News h₀ L h big) (kp : KeepBut as h h') (N' : News h₀ L h' led') (hs : ∀ p ∈ rest, p ∈ big) (ho : ∀ p ∈ rest, p.1 ∉ as) : News h₀ L h' (led' ++ rest) := fun p hp => by
  rcases List.mem_append.mp hp with hp | hp
  · exact N' p hp
  · exact ⟨kp _ _ (N p (hs p hp)).1 (ho p hp), (N p (hs p hp)).2⟩

theorem news_sub {h₀ h : Heap} {L : Addr} {big led : List (Addr × Obj)} (N : News h₀ L h big) (hs : ∀ p ∈ led, p ∈ big) : News h₀ L h led := fun p hp => N p (hs p hp)

theorem fresh_of {as : List Addr} {h g h' : Heap} {L D : Addr} {o : Obj} {news : List (Addr × Obj)} (kb : KeepBut as h g) (N : News g L h' news) (hm : (D, o) ∈ news) (hn : D ∉ as) : h.get? D = none := by
  cases e : h.get? D with
  | none => rfl
  | some o' => have := (N _ hm).2.2; rw [kb _ _ e hn] at this; cases this
theorem off_fresh {h₀ h : Heap} {L D : Addr} : ∀ {led : List (Addr × Obj)}, News h₀ L h led → h.get? D = none → LCg.Off1 D led
  | [], _, _ => trivial
  | p :: r, N, hD => ⟨fun e => (by have := (N p (.head _)).1; rw [show p.1 = D from e, hD] at this; cases this), off_fresh (fun q hq => N q (.tail _ hq)) hD⟩

/-- the ledger less a part of it -/
inductive Rest (led : List (Addr × Obj)) : List (Addr × Obj) → List (Addr × Obj) → Prop
  | nil : Rest led [] []
  | drop {p r r'} : p ∈ led → Rest led r r' → Rest led (p :: r) r'
  | keep {p r r'} : (∀ q ∈ led, q.1 ≠ p.1) → Rest led r r' → Rest led (p :: r) (p :: r')
  | tail {r} : (∀ p ∈ r, ∀ q ∈ led, q.1 ≠ p.1) → Rest led r r
theorem Rest.mem {led : List (Addr × Obj)} {b r : List (Addr × Obj)} (h : Rest led b r) : ∀ p ∈ r, p ∈ b ∧ ∀ q ∈ led, q.1 ≠ p.1 := by
  induction h with
  | nil => exact fun _ h => nomatch h
  | drop _ _ ih => exact fun p hp => ⟨.tail _ (ih p hp).1, (ih p hp).2⟩
  | keep hn _ ih =>
    intro p hp
    rcases List.mem_cons.mp hp with rfl | hp
    · exact ⟨.head _, hn⟩
    · exact ⟨.tail _ (ih p hp).1, (ih p hp).2⟩
  | tail h => exact fun p hp => ⟨hp, h p hp⟩
theorem Rest.off {led : List (Addr × Obj)} {b r : List (Addr × Obj)} (h : Rest led b r) : ∀ p ∈ r, p.1 ∉ led.map (·.1) := fun p hp hm => by
  obtain ⟨q, hq, e⟩ := List.mem_map.mp hm
  exact (h.mem p hp).2 q hq e

/-- a contract at a call: a part of the ledger goes in, the rest stands -/
theorem use {w : World} {mean : ExcName → Option Value} {mg mb : Str → Option Value} {d : Nat} {f : Addr} {vs : List Value} {led : List (Addr × Obj)} {Post : Heap → Value → List (Addr × Obj) → Prop}
    {dp un : Nat} {gd : Option (List Code)} {cn : Str} {cs : Scope} {a : Addr} {ccd : Value} {cl : List (Str × Addr)} {outer : List Env} {A₀ : Around} {base h₀ : Heap} {L : Addr} {m : Str → Option Value} {s : Shared} {Q E : Value → Shared → Prop} {big rest : List (Addr × Obj)}
    (C : Ctr w mean mg mb d f vs led Post) (B : Below A₀ base outer h₀) (F : Fr h₀ L s.heap m) (X : (Mine.hd.heap_39 w.params).In h₀) (N : News h₀ L s.heap big) (T : Top Mine.hd.view_39 (looseW Mine.hd.view_39 [Str.ofString "BasicError"]) mean mg mb h₀) (hk : cs.kind = .function)
    (hd : dp + d < recursionLimit) (hu : un + 8 * d < cLine) (hs : ∀ p ∈ led, p ∈ big) (hr : Rest led big rest)
    (k : ∀ r led' h' tk', Fr h₀ L h' m → News h₀ L h' (led' ++ rest) → Post s.heap r led' → News h₀ L s.heap big → Q r { s with heap := h', toks := tk' }) :
    wpAny (model PySem.Challenge.rw_xm0013_01.row.prog w) (ktrTop dp un gd cn cs L a ccd cl outer) (call (.ref f) vs) Q E s :=
  C dp un gd cn cs a ccd cl outer A₀ base h₀ L m s Q E B F X (news_sub N hs) T hk hd hu fun r led' h' tk' F' N' kb P => k r led' h' tk' F' (news_on N kb N' (fun p hp => (hr.mem p hp).1) hr.off) P N

/-- a goal that the walk leaves alone -/
def Halt (P : Prop) : Prop := P
theorem halt {P : Prop} (h : Halt P) : P := h

structure Hk where
  h1 : Int
  h2 : Int
  h3 : Int
  h4 : Int
  h5 : Int
  h6 : Int
  h7 : Int
  h8 : Int
  k1 : Tok
  k2 : Tok
  k3 : Tok
  k4 : Tok
  k5 : Tok
  k6 : Tok
  k7 : Tok
  k8 : Tok

abbrev spE (H : Hk) (oc hd wt : Addr) (n fr cl : Int) (t1 t2 t3 t4 t5 : Tok) : List DictEntry :=
  [⟨H.h1, .str (Str.ofString "size") H.k1, .int n t1⟩, ⟨H.h2, .str (Str.ofString "octets") H.k2, .ref oc⟩, ⟨H.h3, .str (Str.ofString "low") H.k3, .int 0 t2⟩, ⟨H.h4, .str (Str.ofString "free") H.k4, .int fr t3⟩,
   ⟨H.h5, .str (Str.ofString "held") H.k5, .ref hd⟩, ⟨H.h6, .str (Str.ofString "waiting") H.k6, .ref wt⟩, ⟨H.h7, .str (Str.ofString "most_waiting") H.k7, .int 4 t4⟩, ⟨H.h8, .str (Str.ofString "collections") H.k8, .int cl t5⟩]

/-- the ledger's part of a space: itself, its dict, its octets, its held names, its waiting list -/
abbrev spL (sp dx oc hd wt : Addr) (H : Hk) (n fr cl : Int) (t1 t2 t3 t4 t5 : Tok) (vs : Array Value) (u : Nat) (ws : Array Value) (u' : Nat) : List (Addr × Obj) :=
  [(sp, instObj 54 dx), (dx, dictOf (spE H oc hd wt n fr cl t1 t2 t3 t4 t5) 8), (oc, listOf vs u), (hd, dictOf [] 0), (wt, listOf ws u')]


section
variable {prog : Program} {w : World} {A : Around} {E : Value → Shared → Prop} {s : Shared} {env : Env} {h₀ : Heap} {target : Expr} {body : List Stmt} {Q : Flow → Shared → Prop}

theorem AllObj.mono : ∀ {ws : List (Addr × String)} {k k' : List (Addr × Obj) → Prop}, AllObj ws k → (∀ its, k its → k' its) → AllObj ws k'
  | [], _, _, h, f => f [] h
  | _ :: _, _, _, h, f => fun o ho => AllObj.mono (h o ho) fun its => f _

/-- a loop over an iterator's items: what holds between the turns -/
theorem items_ind {ws : List (Addr × String)} {keep : List (Addr × Obj)} (J : Nat → (Str → Option Value) → List (Addr × Obj) → Prop) (xs : List Itm)
    (step : ∀ i a m news, xs[i]? = some a → J i m news → ∀ v h tk, a.Is v h → Fr h₀ env.locals h m → AllObj ws (fun its => News h₀ env.locals h (its ++ news) →
      wpAny (model prog w) A (assign target env v) (fun _ s₂ => wpAny (model prog w) A (execs body env) (UnrPostW h₀ env.locals { s with heap := h, toks := tk } its (fun m' n' => SubL keep n' ∧ J (i + 1) m' n') Q) E s₂) E { s with heap := h, toks := tk }))
    (done : ∀ m news, J xs.length m news → ∀ h tk, Fr h₀ env.locals h m → News h₀ env.locals h news → Q .next { s with heap := h, toks := tk }) :
    ∀ k i m news, i + k = xs.length → J i m news → ItemsRest prog w A E h₀ env target body Q s ws keep (xs.drop i) m news := by
  intro k
  induction k with
  | zero =>
    intro i m news hi hJ
    have e : i = xs.length := by omega
    subst e
    rw [List.drop_length]
    exact ItemsRest.zero (done m news hJ)
  | succ k ih =>
    intro i m news hi hJ
    have hlt : i < xs.length := by omega
    rw [List.drop_eq_getElem_cons hlt]
    intro v h tk hv F
    refine AllObj.mono (step i xs[i] m news (List.getElem?_eq_getElem hlt) hJ v h tk hv F) fun its g N => ?_
    refine wpAny_mono (g N) (fun _ s₂ h₂ => wpAny_mono h₂ (fun f s₃ h₃ => ?_) fun _ _ e => e) fun _ _ e => e
    cases f with
    | ret v => exact h₃
    | brk => exact h₃
    | next => obtain ⟨a, b, c, d, e, f, g, o, k1, k2⟩ := h₃; exact ⟨a, b, c, d, e, f, g, o, k1, ih (i + 1) c d (by omega) k2⟩
    | cont => obtain ⟨a, b, c, d, e, f, g, o, k1, k2⟩ := h₃; exact ⟨a, b, c, d, e, f, g, o, k1, ih (i + 1) c d (by omega) k2⟩

theorem items_ind0 {ws : List (Addr × String)} {keep : List (Addr × Obj)} (J : Nat → (Str → Option Value) → List (Addr × Obj) → Prop) {xs : List Itm} {m₀ : Str → Option Value} {news₀ : List (Addr × Obj)} (h0 : J 0 m₀ news₀)
    (step : ∀ i a m news, xs[i]? = some a → J i m news → ∀ v h tk, a.Is v h → Fr h₀ env.locals h m → AllObj ws (fun its => News h₀ env.locals h (its ++ news) →
      wpAny (model prog w) A (assign target env v) (fun _ s₂ => wpAny (model prog w) A (execs body env) (UnrPostW h₀ env.locals { s with heap := h, toks := tk } its (fun m' n' => SubL keep n' ∧ J (i + 1) m' n') Q) E s₂) E { s with heap := h, toks := tk }))
    (done : ∀ m news, J xs.length m news → ∀ h tk, Fr h₀ env.locals h m → News h₀ env.locals h news → Q .next { s with heap := h, toks := tk }) :
    ItemsRest prog w A E h₀ env target body Q s ws keep xs m₀ news₀ := by
  have := items_ind (keep := keep) (ws := ws) J xs step done xs.length 0 m₀ news₀ (by omega) h0
  simpa using this
end

section
variable {prog : Program} {w : World} {A : Around} {E : Value → Shared → Prop} {s : Shared} {env : Env} {h₀ : Heap} {target : Expr} {body : List Stmt} {Q : Flow → Shared → Prop}
def Turn2 (y1 y2 : Str) (m₀ m' : Str → Option Value) (P : Prop) : Prop := (∀ z, z ≠ y1 → z ≠ y2 → m' z = m₀ z) ∧ P
/-- a loop that stores two names at most and turns the ledger -/
theorem items_ind2 {ws : List (Addr × String)} {keep : List (Addr × Obj)} (y1 y2 : Str) (J : Nat → List (Addr × Obj) → Prop) {xs : List Itm} {m₀ : Str → Option Value} {news₀ : List (Addr × Obj)} (h0 : J 0 news₀)
    (step : ∀ i a (u : Str → Option Value) news, xs[i]? = some a → J i news → ∀ v h tk, a.Is v h → Fr h₀ env.locals h (fun z => if z = y1 then u z else if z = y2 then u z else m₀ z) → AllObj ws (fun its => News h₀ env.locals h (its ++ news) →
      wpAny (model prog w) A (assign target env v) (fun _ s₂ => wpAny (model prog w) A (execs body env) (UnrPostW h₀ env.locals { s with heap := h, toks := tk } its (fun m' n' => SubL keep n' ∧ Turn2 y1 y2 m₀ m' (J (i + 1) n')) Q) E s₂) E { s with heap := h, toks := tk }))
    (done : ∀ (u : Str → Option Value) news, J xs.length news → ∀ h tk, Fr h₀ env.locals h (fun z => if z = y1 then u z else if z = y2 then u z else m₀ z) → News h₀ env.locals h news → Q .next { s with heap := h, toks := tk }) :
    ItemsRest prog w A E h₀ env target body Q s ws keep xs m₀ news₀ := by
  have put : ∀ m : Str → Option Value, (∀ z, z ≠ y1 → z ≠ y2 → m z = m₀ z) → m = fun z => if z = y1 then m z else if z = y2 then m z else m₀ z := fun m h => by
    funext z
    by_cases h1 : z = y1
    · simp [h1]
    · by_cases h2 : z = y2
      · simp [h2]
      · simp [h1, h2, h z h1 h2]
  refine items_ind0 (fun i m news => (∀ z, z ≠ y1 → z ≠ y2 → m z = m₀ z) ∧ J i news) ⟨fun _ _ _ => rfl, h0⟩ ?_ ?_
  · rintro i a m news ha ⟨hm, hJ⟩ v h tk hv F
    rw [put m hm] at F
    exact step i a m news ha hJ v h tk hv F
  · rintro m news ⟨hm, hJ⟩ h tk F N
    rw [put m hm] at F
    exact done m news hJ h tk F N
end

section
open LCg
variable {prog : Program} {w : World} {A : Around} {s : Shared} {h₀ : Heap} {L : Addr} {m : Str → Option Value} {env : Env}

theorem CompEnd.mono {s₁ : Shared} {I C D : Addr} {oI oC oD : Obj} {S : List (Addr × Obj) → Prop} {r r' : Value → List (Addr × Obj) → Prop} {y : Value} {s₂ : Shared} (h : CompEnd h₀ L m s₁ I oI C oC D oD S r y s₂) (f : ∀ n, r y n → r' y n) :
    CompEnd h₀ L m s₁ I oI C oC D oD S r' y s₂ := by
  obtain ⟨a, b, c, e1, e2, e3, e4, e5, e6⟩ := h
  exact ⟨a, b, c, e1, e2, e3, e4, e5, f _ e6⟩

/-- a block over a list: what holds between its items -/
theorem comp_ind {elt : Expr} {x : Str} {scope : Scope} {cl : List (Str × Addr)} {S : List (Addr × Obj) → Prop} {P : Nat → Value → Prop} {Fin : List Value → List (Addr × Obj) → Prop} {n : Nat} (J : Nat → List Value → List (Addr × Obj) → Prop)
    (step : ∀ i ys news, i < n → J i ys news → ∀ v I oI C oC D m₂ h tk (E' : Value → Shared → Prop), P i v → NsObj oC m₂ → m₂ x = some v → Fr h₀ L h m → News h₀ L h ((I, oI) :: (C, oC) :: (D, lst ys) :: news) → Off3 I C D news → ((@Ne Nat I C) ∧ (@Ne Nat I D) ∧ (@Ne Nat C D)) →
      wpAny (model prog w) A (eval elt (compEnvC scope cl C env)) (CompEnd h₀ L m { s with heap := h, toks := tk } I oI C oC D (lst ys) S (fun y news' => J (i + 1) (ys ++ [y]) news')) E' { s with heap := h, toks := tk })
    (fin : ∀ ys news, J n ys news → Fin ys news) : ∀ k i ys news, i + k = n → J i ys news → CompRest prog w A h₀ L m env elt x scope cl s S P Fin k i ys news := by
  intro k
  induction k with
  | zero =>
    intro i ys news hi hJ
    have e : i = n := by omega
    subst e
    exact CompRest.zero (fin ys news hJ)
  | succ k ih =>
    intro i ys news hi hJ
    refine CompRest.succ fun v I oI C oC D m₂ h tk E' a b c F N o ne => wpAny_mono (step i ys news (by omega) hJ v I oI C oC D m₂ h tk E' a b c F N o ne) (fun y s₂ h₂ => ?_) fun _ _ e => e
    exact CompEnd.mono h₂ fun nn hn => ih (i + 1) _ _ (by omega) hn

theorem comp_ind0 {elt : Expr} {x : Str} {scope : Scope} {cl : List (Str × Addr)} {S : List (Addr × Obj) → Prop} {P : Nat → Value → Prop} {Fin : List Value → List (Addr × Obj) → Prop} {n : Nat} {news₀ : List (Addr × Obj)} (J : Nat → List Value → List (Addr × Obj) → Prop)
    (h0 : J 0 [] news₀)
    (step : ∀ i ys news, i < n → J i ys news → ∀ v I oI C oC D m₂ h tk (E' : Value → Shared → Prop), P i v → NsObj oC m₂ → m₂ x = some v → Fr h₀ L h m → News h₀ L h ((I, oI) :: (C, oC) :: (D, lst ys) :: news) → Off3 I C D news → ((@Ne Nat I C) ∧ (@Ne Nat I D) ∧ (@Ne Nat C D)) →
      wpAny (model prog w) A (eval elt (compEnvC scope cl C env)) (CompEnd h₀ L m { s with heap := h, toks := tk } I oI C oC D (lst ys) S (fun y news' => J (i + 1) (ys ++ [y]) news')) E' { s with heap := h, toks := tk })
    (fin : ∀ ys news, J n ys news → Fin ys news) : CompRest prog w A h₀ L m env elt x scope cl s S P Fin n 0 [] news₀ :=
  comp_ind J step fin n 0 [] news₀ (by omega) h0

def Same (news₀ news' : List (Addr × Obj)) (P : Prop) : Prop := (∀ p ∈ news₀, p ∈ news') ∧ P
theorem Off3.sub {I C D : Addr} {a b : List (Addr × Obj)} (h : Off3 I C D b) (hs : ∀ p ∈ a, p ∈ b) : Off3 I C D a := Off3.of fun p hp => Off3.mem h p (hs p hp)

/-- a block that leaves the ledger as it was -/
theorem comp_same {elt : Expr} {x : Str} {scope : Scope} {cl : List (Str × Addr)} {S : List (Addr × Obj) → Prop} {P : Nat → Value → Prop} {Fin : List Value → List (Addr × Obj) → Prop} {n : Nat} {news₀ : List (Addr × Obj)} (J : Nat → List Value → Prop)
    (h0 : J 0 []) (hS : S news₀)
    (step : ∀ i ys, i < n → J i ys → ∀ v I oI C oC D m₂ h tk (E' : Value → Shared → Prop), P i v → NsObj oC m₂ → m₂ x = some v → Fr h₀ L h m → News h₀ L h ((I, oI) :: (C, oC) :: (D, lst ys) :: news₀) → Off3 I C D news₀ → ((@Ne Nat I C) ∧ (@Ne Nat I D) ∧ (@Ne Nat C D)) →
      wpAny (model prog w) A (eval elt (compEnvC scope cl C env)) (CompEnd h₀ L m { s with heap := h, toks := tk } I oI C oC D (lst ys) S (fun y news' => Same news₀ news' (J (i + 1) (ys ++ [y])))) E' { s with heap := h, toks := tk })
    (fin : ∀ ys, J n ys → Fin ys news₀) : CompRest prog w A h₀ L m env elt x scope cl s S P Fin n 0 [] news₀ := by
  refine comp_ind0 (fun i ys news => news = news₀ ∧ J i ys) ⟨rfl, h0⟩ ?_ ?_
  · rintro i ys news hi ⟨rfl, hJ⟩ v I oI C oC D m₂ h tk E' a b c F N o ne
    refine wpAny_mono (step i ys hi hJ v I oI C oC D m₂ h tk E' a b c F N o ne) (fun y s₂ h₂ => ?_) fun _ _ e => e
    obtain ⟨h', tk', news', e1, e2, e3, e4, e5, e6, e7⟩ := h₂
    refine ⟨h', tk', news, e1, e2, fun p hp => e3 p ?_, Off3.sub e4 e6, hS, rfl, e7⟩
    rcases List.mem_cons.mp hp with rfl | hp
    · exact .head _
    rcases List.mem_cons.mp hp with rfl | hp
    · exact .tail _ (.head _)
    rcases List.mem_cons.mp hp with rfl | hp
    · exact .tail _ (.tail _ (.head _))
    · exact .tail _ (.tail _ (.tail _ (e6 p hp)))
  · rintro ys news ⟨rfl, hJ⟩
    exact fin ys hJ

theorem compEnd_same {s₁ : Shared} {I C D : Addr} {oI oC oD : Obj} {S : List (Addr × Obj) → Prop} {P : Value → Prop} {y : Value} {h : Heap} {tk : Nat} {news₀ : List (Addr × Obj)} (F : Fr h₀ L h m) (N : News h₀ L h ((I, oI) :: (C, oC) :: (D, oD) :: news₀)) (off : Off3 I C D news₀) (hS : S news₀) (hP : P y) :
    CompEnd h₀ L m s₁ I oI C oC D oD S (fun y n' => Same news₀ n' (P y)) y { s₁ with heap := h, toks := tk } := ⟨h, tk, news₀, rfl, F, N, off, hS, fun _ hp => hp, hP⟩

theorem compEnd_rest {s₁ : Shared} {I C D : Addr} {oI oC oD : Obj} {S : List (Addr × Obj) → Prop} {r : Value → List (Addr × Obj) → Prop} {y : Value} {h : Heap} {tk : Nat} {all news' : List (Addr × Obj)} (F : Fr h₀ L h m) (N : News h₀ L h all) (hI : (I, oI) ∈ all) (hC : (C, oC) ∈ all) (hD : (D, oD) ∈ all)
    (hr : Rest [(I, oI), (C, oC), (D, oD)] all news') (hS : S news') (k : r y news') : CompEnd h₀ L m s₁ I oI C oC D oD S r y { s₁ with heap := h, toks := tk } :=
  ⟨h, tk, news', rfl, F, fun p hp => by
    rcases List.mem_cons.mp hp with rfl | hp
    · exact N _ hI
    rcases List.mem_cons.mp hp with rfl | hp
    · exact N _ hC
    rcases List.mem_cons.mp hp with rfl | hp
    · exact N _ hD
    · exact N p (hr.mem p hp).1, Off3.of fun p hp => ⟨Ne.symm ((hr.mem p hp).2 _ (.head _)), Ne.symm ((hr.mem p hp).2 _ (.tail _ (.head _))), Ne.symm ((hr.mem p hp).2 _ (.tail _ (.tail _ (.head _))))⟩, hS, k⟩

theorem compEnd_keep {s₁ : Shared} {I C D : Addr} {oI oC oD : Obj} {S : List (Addr × Obj) → Prop} {r : Value → List (Addr × Obj) → Prop} {y : Value} {h : Heap} {tk : Nat} {news' : List (Addr × Obj)} (F : Fr h₀ L h m) (N : News h₀ L h ((I, oI) :: (C, oC) :: (D, oD) :: news'))
    (off : Off3 I C D news') (hS : S news') (k : r y news') : CompEnd h₀ L m s₁ I oI C oC D oD S r y { s₁ with heap := h, toks := tk } := ⟨h, tk, news', rfl, F, N, off, hS, k⟩
end

/-- two addresses differ (a word that omega does not read) -/
def NeN (a b : Nat) : Prop := a ≠ b
theorem NeN.l {a b : Nat} (h : NeN a b) : a ≠ b := h
theorem NeN.r {a b : Nat} (h : NeN b a) : a ≠ b := fun e => h e.symm
def AllNe (D : Nat) : List (Addr × Obj) → Prop
  | [] => True
  | p :: r => NeN p.1 D ∧ AllNe D r
theorem AllNe.of {D : Addr} : ∀ {l : List (Addr × Obj)}, LCg.Off1 D l → AllNe D l
  | [], _ => trivial
  | _ :: _, h => ⟨h.1, AllNe.of h.2⟩

section
open LCg
variable {prog : Program} {w : World} {A : Around} {E : Value → Shared → Prop} {s : Shared} {h₀ : Heap} {L : Addr} {m : Str → Option Value} {env : Env}

/-- the source of a block: a text of plain signs -/
def SrcS (prog : Program) (w : World) (A : Around) (h₀ : Heap) (L : Addr) (m : Str → Option Value) (env : Env) (elt : Expr) (x : Str) (scope : Scope) (cl : List (Str × Addr)) (Fin : Shared → List Value → List (Addr × Obj) → Prop) (xv : Value) (s₁ : Shared) : Prop :=
  ∃ y t news, xv = .str y t ∧ A.handled = none ∧ Fr h₀ L s₁.heap m ∧ News h₀ L s₁.heap news ∧ y.cps.all (· < 128) = true ∧ y.cps.size ≤ sizeLine ∧
    ∀ s₂ : Shared, (∃ h, s₂ = { s₁ with heap := h }) → CompRest prog w A h₀ L m env elt x scope cl s₂ (fun _ => True) (SignAt y) (Fin s₂) y.cps.size 0 [] news

theorem ListComp_S {elt iter : Expr} {x : Str} {px : Pos} {scope : Scope} {cl : List (Str × Addr)} {pos : Pos} {Q : Value → Shared → Prop} (F₀ : Fr h₀ L s.heap m)
    (hclos : closureFor scope env = pure cl) (hcell : ∀ y ∈ scope.names, y.2 ≠ .cell) (hkind : scope.kind = .function)
    (hnames : ∀ y ∈ scope.names, y.2 = .local → scope.names.lookup y.1 = some .local) (hx : scope.names.lookup x = some .local)
    (h : wpAny (model prog w) A (eval iter env) (SrcS prog w A h₀ L m env elt x scope cl (fun s₂ => FinE h₀ L m s₂ Q)) E s)
    (hs : ∀ x, foldedSetIterable iter env x = pure x := by intro _; rfl) :
    wpAny (model prog w) A (eval (.ListComp elt [⟨.Name x px, iter, [], 0⟩] scope pos) env) Q E s := by
  rw [eval_ListComp]
  refine wpAny_comprehension_free (use := none) rfl hs hclos hkind hnames (wpAny_mono h (fun xv s₁ h₁ => ?_) fun _ _ e => e)
  obtain ⟨y, t, news, rfl, hh, F, N, ha, hsz, R⟩ := h₁
  refine wpAny_pyIter_strU ?_
  have ht : strIterType y = "str_ascii_iterator" := by simp [strIterType, ha]
  rw [ht]
  refine block_U (Walks.strAscii hh s₁.heap.objs.size y t) hsz (fun i h st => by obtain ⟨o, e, _⟩ := st; exact ⟨o, e⟩) (S := fun _ => True) (fun i h h' o nw st e e' _ _ _ => by obtain ⟨o', q, r⟩ := st; rw [e] at q; cases q; exact ⟨o, e', r⟩) hcell hkind hx ⟨_, Heap.get?_push_size _ rfl, rfl, rfl⟩ (fun b hb => ?_)
    (F.keeps fun _ _ e => Heap.get?_push_of_some _ e) (N.grown fun _ _ e => Heap.get?_push_of_some _ e) (Nat.ne_of_lt F.ns.lt) (next_is_new F) (fun p hp => Nat.ne_of_lt (Heap.lt_size (N p hp).1)) trivial (R _ ⟨_, rfl⟩) ?_
  · rw [List.mem_singleton.mp hb]
    show s₁.heap.objs.size < (s₁.heap.push _).objs.size
    rw [Heap.size_push]; exact Nat.lt_succ_self _
  · intro D C h' tk m' ys news' F' N' o1 hn hC₀ hD₀ hCL hDL hCD offC fin
    refine ⟨m', hn, fun h'' hs'' => fin D h'' tk (F'.change hs'' hCL hC₀) (fun p hp => ?_) o1⟩
    refine ⟨hs''.extBut _ _ ?_ (N' p hp).1, (N' p hp).2⟩
    rcases List.mem_cons.mp hp with rfl | hp
    · exact Ne.symm hCD
    · exact offC p hp
end

section
open LCg
variable {prog : Program} {w : World} {A : Around} {E : Value → Shared → Prop} {s : Shared} {h₀ : Heap} {L : Addr} {m : Str → Option Value} {env : Env}

/-- the source of a block: an empty dict of the ledger -/
def SrcD0 (h₀ : Heap) (L : Addr) (m : Str → Option Value) (A : Around) (Fin : Shared → List Value → List (Addr × Obj) → Prop) (xv : Value) (s₁ : Shared) : Prop :=
  ∃ d news, xv = .ref d ∧ A.handled = none ∧ Fr h₀ L s₁.heap m ∧ News h₀ L s₁.heap news ∧ (d, dictOf [] 0) ∈ news ∧ (d == sysModules) = false ∧ ∀ s₂ : Shared, (∃ h, s₂ = { s₁ with heap := h }) → Fin s₂ [] news

theorem ListComp_D0 {elt iter : Expr} {x : Str} {px : Pos} {scope : Scope} {cl : List (Str × Addr)} {pos : Pos} {Q : Value → Shared → Prop} (F₀ : Fr h₀ L s.heap m)
    (hclos : closureFor scope env = pure cl) (hcell : ∀ y ∈ scope.names, y.2 ≠ .cell) (hkind : scope.kind = .function)
    (hnames : ∀ y ∈ scope.names, y.2 = .local → scope.names.lookup y.1 = some .local) (hx : scope.names.lookup x = some .local)
    (h : wpAny (model prog w) A (eval iter env) (SrcD0 h₀ L m A (fun s₂ => FinE h₀ L m s₂ Q)) E s)
    (hs : ∀ x, foldedSetIterable iter env x = pure x := by intro _; rfl) :
    wpAny (model prog w) A (eval (.ListComp elt [⟨.Name x px, iter, [], 0⟩] scope pos) env) Q E s := by
  rw [eval_ListComp]
  refine wpAny_comprehension_free (use := none) rfl hs hclos hkind hnames (wpAny_mono h (fun xv s₁ h₁ => ?_) fun _ _ e => e)
  obtain ⟨d, news, rfl, hh, F, N, hm, lo, R⟩ := h₁
  have hd := (N _ hm).1
  have hlt : d < s₁.heap.objs.size := Heap.lt_size hd
  have hD : ∀ h : Heap, h.get? d = some (dictOf [] 0) → h.DictAt (PySem.strKind prog w) d [] 0 := fun h e => ⟨_, #[], e, ⟨rfl, rfl, rfl⟩, rfl, fun e he => (by simp at he), .nil, .nil⟩
  refine wpAny_pyIter_dict (knd := PySem.strKind prog w) lo (hD _ hd) ?_
  refine block_U (elt := elt) (x := x) (P := _) (Walks.dictKeys (knd := PySem.strKind prog w) hh s₁.heap.objs.size d (Nat.ne_of_lt hlt) [] 0) (Nat.zero_le _) (fun i h st => by obtain ⟨⟨o, e, _⟩, _⟩ := st; exact ⟨o, e⟩) (S := fun nw => (d, dictOf [] 0) ∈ nw)
    (fun i h h' o nw st e e' _ N' S' => ⟨by obtain ⟨o', q, r⟩ := st.1; rw [e] at q; cases q; exact ⟨o, e', r⟩, hD _ (N' _ S').1⟩) hcell hkind hx ⟨⟨_, Heap.get?_push_size _ rfl, rfl, rfl⟩, hD _ (Heap.get?_push_of_some _ hd)⟩ (fun b hb => ?_)
    (F.keeps fun _ _ e => Heap.get?_push_of_some _ e) (N.grown fun _ _ e => Heap.get?_push_of_some _ e) (Nat.ne_of_lt F.ns.lt) (next_is_new F) (fun p hp => Nat.ne_of_lt (Heap.lt_size (N p hp).1)) hm (Fin := FinE h₀ L m { s₁ with heap := s₁.heap.push { cls := .type "dict_keyiterator", data := .fields #[.ref d, .int 0 0, .int (([] : List (Str × Value)).length) 0, .int (0 : Nat) 0] } } Q) (CompRest.zero (R _ ⟨_, rfl⟩)) ?_
  · show b < (s₁.heap.push _).objs.size
    rw [Heap.size_push]
    rcases List.mem_cons.mp hb with rfl | hb
    · exact Nat.lt_succ_self _
    · rw [List.mem_singleton.mp hb]; exact Nat.lt_succ_of_lt hlt
  · intro D C h' tk m' ys news' F' N' o1 hn hC₀ hD₀ hCL hDL hCD offC fin
    refine ⟨m', hn, fun h'' hs'' => fin D h'' tk (F'.change hs'' hCL hC₀) (fun p hp => ?_) o1⟩
    refine ⟨hs''.extBut _ _ ?_ (N' p hp).1, (N' p hp).2⟩
    rcases List.mem_cons.mp hp with rfl | hp
    · exact Ne.symm hCD
    · exact offC p hp
end

section
open KStt
theorem codes_append (x y : Str) : codes (x ++ y) = codes x ++ codes y := by
  simp [codes, Str.cps_append]
theorem codes_txt {l : List Int} (h : ∀ x ∈ l, 0 ≤ x) : codes (txt l) = l := by
  unfold codes txt
  simp only [List.map_map]
  conv => rhs; rw [← List.map_id l]
  exact List.map_congr_left fun x hx => by simp [Function.comp, Int.toNat_of_nonneg (h x hx)]
theorem codes_inj {x y : Str} (h : codes x = codes y) : x = y := by rw [← txt_codes x, ← txt_codes y, h]
theorem codes_empty : codes (Str.ofString "") = [] := by decide +kernel
theorem codes_sjoin : ∀ ys : List Str, codes (Str.join (Str.ofString "") ys) = (ys.map codes).flatten
  | [] => codes_empty
  | [x] => by simp [Str.join]
  | x :: y :: r => by
    show codes (x ++ Str.ofString "" ++ Str.join (Str.ofString "") (y :: r)) = _
    rw [codes_append, codes_append, codes_empty, codes_sjoin (y :: r)]
    simp
theorem codes_join (ys : List Str) : codes (Txt.join (Str.ofString "") ys) = (ys.map codes).flatten := by
  show codes (Builtin.Str.glued (Str.ofString "") ys) = _
  rw [StrLaws.glued_eq_join]
  exact codes_sjoin ys
theorem join_signs {ms : List Int} (h : ∀ x ∈ ms, 0 ≤ x) : Txt.join (Str.ofString "") (ms.map fun x => txt [x]) = txt ms := by
  apply codes_inj
  rw [codes_join, codes_txt h, List.map_map]
  induction ms with
  | nil => rfl
  | cons x r ih =>
    have e : codes (txt [x]) = [x] := codes_txt (by simpa using h x (.head _))
    simp only [List.map_cons, List.flatten_cons, Function.comp, e]
    rw [ih fun y hy => h y (.tail _ hy)]
    rfl
theorem signs_sum (ms : List Int) : ((ms.map fun x => txt [x]).map (·.length)).sum = ms.length := by
  induction ms with
  | nil => rfl
  | cons x r ih => simp only [List.map_cons, List.sum_cons, List.length_cons, ih, txt_length]; simp; omega
end

section
variable {prog : Program} {w : World} {A : Around} {E : Value → Shared → Prop} {s : Shared} {h₀ : Heap} {L l : Addr} {m : Str → Option Value} {news : List (Addr × Obj)} {value slice : PySem.Expr} {vs : List Value} {ns : List Int} {vl vu : Value} {x y : Int} {Q : Value → Shared → Prop}
/-- a run of a list of ints whose ends lie in it -/
theorem slice_run (F : Fr h₀ L s.heap m) (N : News h₀ L s.heap news) (hl : s.heap.IsList l vs.toArray) (pl : IsPart vl (some x)) (pu : IsPart vu (some y)) (hi : IntsAre vs ns) (h0 : 0 ≤ x) (h1 : x ≤ y) (h2 : y ≤ ns.length)
    (h : ∀ D ws ms h', Fr h₀ L h' m → News h₀ L h' ((D, listOf (List.toArray ws) 0) :: news) → (∀ p ∈ news, p.1 < D) → IntsAre ws ms → ms = sl ns x (y - x) → (ms.length : Int) = y - x → Q (.ref D) { s with heap := h' })
    (hs : subscripted slice false (.ref l) (.ref s.heap.objs.size) = operate [.ref s.heap.objs.size, .ref l] (getItem (.ref l) (.ref s.heap.objs.size))) (ht : ∀ r, letTemporaryGo value (.ref l) r = pure ()) (hz : ns.length ≤ 1000) :
    wpAny (model prog w) A (subscriptTail value slice (.ref l) (.ref s.heap.objs.size)) Q E { s with heap := s.heap.push { cls := .type "slice", data := .fields #[vl, vu, .none] } } := by
  refine kmk_slice_ints F N hl pl pu hi (kmk_run hi h0 (by omega)) rfl (fun D ws h' F' N' l1 hI _ _ => ?_) hs ht (by rw [List.size_toArray, hi.length, sizeLine_eq]; omega)
  have e : (ns.drop x.toNat).take (min y.toNat ns.length - x.toNat) = (ns.drop x.toNat).take (y - x).toNat := by congr 1; omega
  rw [e] at hI
  exact h D ws _ h' F' N' l1 hI rfl (by simp only [List.length_take, List.length_drop]; omega)
end

local macro_rules | `(tactic| walk_at "subscriptTail Name Constant ref int") => `(tactic| (k_here; kim_at))
local macro_rules | `(tactic| walk_at "NOTIN") => `(tactic| (simp only [List.map_cons, List.map_nil, List.mem_cons, List.not_mem_nil, or_false, not_or]; (try dsimp only); (repeat' (refine And.intro ?_ ?_)); all_goals k_ne))
local macro_rules | `(tactic| walk_at "REST") => `(tactic| first
  | exact Rest.nil
  | (refine' Rest.drop ?ra ?rb; (case ra => k_mem); (case rb => walk_at "REST"))
  | (refine' Rest.keep ?ra ?rb; (case ra => k_all); (case rb => walk_at "REST"))
  | fail "REST")
local macro_rules | `(tactic| walk_at "eval ListComp") => `(tactic| (k_here; (with_reducible show wpAny _ _ (eval (Expr.ListComp (Expr.Subscript _ _ _) _ _ _) _) _ _ _); (rename Fr _ _ _ _ => lF'); k_dflt (refine ListComp_D0 lF' (by with_unfolding_all rfl) (by decide) (by rfl) (by decide) (by rfl) ?_)))
local macro_rules | `(tactic| walk_at "SrcD0") => `(tactic| (k_here; refine' ⟨_, _, rfl, ?a1, ?a2, ?a3, ?a4, ?a5, ?a6⟩; (case a1 => with_unfolding_all rfl); (case a2 => k_asm); (case a3 => k_asm); (case a4 => k_mem); (case a5 => assumption); intro s9 hs9; obtain ⟨h9, e9⟩ := hs9; subst e9))
local macro_rules | `(tactic| walk_at "eval ListComp") => `(tactic| (k_here; lct_look; k_dflt (refine LCt.ListComp_T (F₀ := by k_asm) (by with_unfolding_all rfl) (by decide) (by rfl) (by decide) (by rfl) ?_)))
local macro_rules | `(tactic| k_ne) => `(tactic| (refine neN ?_; (try dsimp only); first | exact NeN.l (by with_reducible assumption) | exact NeN.r (by with_reducible assumption) | fail "no word"))
local macro_rules | `(tactic| walk_at "CompEnd") => `(tactic| (k_here; k_dflt (first
  | (refine' compEnd_keep ?F ?N ?o ?S ?_; (case F => k_asm); (case N => with_reducible assumption); (case o => with_reducible assumption); (case S => lcg_src))
  | (refine' compEnd_rest ?F ?N ?a ?b ?c ?r ?S ?_; (case F => k_asm); (case N => k_asm); (case a => k_mem); (case b => k_mem); (case c => k_mem); (case r => walk_at "REST"); (case S => lcg_src)))))
local macro_rules | `(tactic| walk_at "CompRestT") => `(tactic| (with_unfolding_all first
  | (refine LCt.CompRestT.succ ?_; intro v' I' oI' C' oC' D' m' h' tk' E' hv' hC' hx' F' N' off' ne'; clear ne'; (first | lcg_open hv' | (obtain ⟨t9', hv9'⟩ := hv'; subst hv9')))
  | refine LCt.CompRestT.zero ?_))
local macro_rules | `(tactic| walk_at "CompRest") => `(tactic| (with_unfolding_all first
  | (refine LCg.CompRest.succ ?_; intro v' I' oI' C' oC' D' m' h' tk' E' hv' hC' hx' F' N' off' ne'; clear ne'; (first | lcg_open hv' | (obtain ⟨t9', hv9'⟩ := hv'; subst hv9')))
  | refine LCg.CompRest.zero ?_))
local macro_rules | `(tactic| walk_at "FinE") => `(tactic| ((unfold LCg.FinE); intro D' h' tk' F' N' o1'; (replace o1' := AllNe.of o1'); (try simp only [AllNe, and_true] at o1'); (repeat (obtain ⟨_, o1'⟩ := o1')); (try simp only [List.nil_append, List.cons_append] at N'); (try dsimp only)))
local macro_rules | `(tactic| walk_at "FinA") => `(tactic| ((unfold LCg.FinA); intro D' h' tk' F' N' o1'; (replace o1' := AllNe.of o1'); (try simp only [AllNe, and_true] at o1'); (repeat (obtain ⟨_, o1'⟩ := o1')); (try simp only [List.nil_append, List.cons_append] at N'); (try dsimp only)))
local macro_rules | `(tactic| walk_at "subscriptTail Attribute Slice ref ref") => `(tactic| (k_here; (with_reducible show wpAny _ _ (subscriptTail _ (PySem.Expr.Slice _ _ none _) (Value.ref _) (Value.ref _)) _ _ _); k_dflt (refine' slice_run ?F ?N ?l ?p ?q ?i ?a ?b ?c ?_ ?s ?t ?z; (case F => k_asm); (case N => k_asm); (case l => kmk_list); (case p => kmk_part); (case q => kmk_part); (case i => l_ints); (case a => omega); (case b => omega); (case c => omega); (case s => with_unfolding_all rfl); (case t => kmk_pure); (case z => omega)); intro D' ws' ms' h' F' N' l1 hI' hm' hC'; (try k_lt l1); (try k_sweep)))
local macro_rules | `(tactic| walk_at "subscriptTail Name Slice ref ref") => `(tactic| (k_here; (with_reducible show wpAny _ _ (subscriptTail _ (PySem.Expr.Slice _ _ none _) (Value.ref _) (Value.ref _)) _ _ _); k_dflt (refine' slice_run ?F ?N ?l ?p ?q ?i ?a ?b ?c ?_ ?s ?t ?z; (case F => k_asm); (case N => k_asm); (case l => kmk_list); (case p => kmk_part); (case q => kmk_part); (case i => l_ints); (case a => omega); (case b => omega); (case c => omega); (case s => with_unfolding_all rfl); (case t => kmk_pure); (case z => omega)); intro D' ws' ms' h' F' N' l1 hI' hm' hC'; (try k_lt l1); (try k_sweep)))
local macro_rules | `(tactic| walk_at "SUBS") => `(tactic| first | exact fun _ h => h | exact fun _ h => .tail _ h | exact fun _ h => .tail _ (.tail _ h) | exact fun _ h => .tail _ (.tail _ (.tail _ h)) | exact fun _ h => .tail _ (.tail _ (.tail _ (.tail _ h))) | lcg_sub)
local macro_rules | `(tactic| walk_at "CompSrcT") => `(tactic| (k_here; k_dflt (refine LCt.CompSrcT.ledger (by rfl) (by k_asm) (by k_asm) (by k_mem) (by first | size_fits | exact Nat.le_of_ble_eq_true rfl) ?_; intro g')))

section
variable (w : World) (mean : ExcName → Option Value) (mg mb : Str → Option Value)
theorem free_room_c {sp dx oc hd wt : Addr} {H : Hk} {n fr c : Int} {t1 t2 t3 t4 t5 : Tok} {vs : Array Value} {u : Nat} {ws : Array Value} {u' : Nat} :
    Ctr w mean mg mb 2 87 [.ref sp] (spL sp dx oc hd wt H n fr c t1 t2 t3 t4 t5 vs u ws u')
      (fun _ r led' => led' = spL sp dx oc hd wt H n fr c t1 t2 t3 t4 t5 vs u ws u' ∧ ∃ t, r = .int fr t) := by
  unfold Ctr
  k_fill
  intro dp un gd cn cs a ccd cl outer A₀ base h₀ L m s Q E B F X N T hk hd hu hret
  (try dsimp only [spL] at N)
  (refine wpAny_call ?_; k_dflt (refine' enter_def (binds := [(Str.ofString "space", Value.ref sp)]) ?k1 ?k2 ?k3 ?k4 ?k5 ?kA ?kF ?kK ?k6 ?k7 ?k8 ?k9 ?kB ?_ ?c2 ?c3 ?c4 ?c5; (case kA => exact rfl); (case kF => exact rfl); (case kK => assumption); (case k1 => k_asm); (case k2 => k_asm); (case k3 => k_asm); (case k4 => k_asm); (case k5 => k_asm); (case k6 => k_is); (case k7 => k_is); (case k8 => ktr_room); (case k9 => exact BindsTo.of_eq rfl); (case c5 => decide); (case kB => exact locs rfl); (case c2 => exact rfl); (case c3 => exact rfl); (case c4 => exact rfl); k_whole; intro g' L' h' hL' kb' lt' F' N' B' X' T'; (try simp only [AllLt, and_true] at lt'); (try dsimp only); (try k_fold)))
  k_steps
  exact hret _ _ _ _ (by assumption) (by assumption) (KeepBut.fr (by assumption) (by assumption)) ⟨rfl, _, by rw [Int.sub_zero]⟩
end

section
variable (w : World) (mean : ExcName → Option Value) (mg mb : Str → Option Value)

local macro_rules | `(tactic| walk_at "exec For Tuple Call cons nil") => `(tactic| (k_here; refine halt ?_))
local macro_rules | `(tactic| walk_at "call type:enumerate") => `(tactic| (k_here; refine halt ?_))

theorem write_octets_c {sp dx oc hd wt os : Addr} {H : Hk} {n fr c : Int} {t1 t2 t3 t4 t5 t6 : Tok} {vs : List Value} {ns : List Int} {u : Nat} {ws : Array Value} {u' : Nat} {ia : Int} {xs : List Value} {ms : List Int} {u6 : Nat}
    (hi : IntsAre vs ns) (hx : IntsAre xs ms) (h0 : 0 ≤ ia) (h1 : ia + ms.length ≤ ns.length) (hz : ns.length ≤ 1000) (o1 : @LT.lt Nat _ dx sp) (o2 : @LT.lt Nat _ sp oc) (o3 : @LT.lt Nat _ oc hd) (o4 : @LT.lt Nat _ hd wt) (o5 : @Ne Nat os oc) :
    Ctr w mean mg mb 2 75 [.ref sp, .int ia t6, .ref os] (spL sp dx oc hd wt H n fr c t1 t2 t3 t4 t5 vs.toArray u ws u' ++ [(os, listOf xs.toArray u6)])
      (fun _ r led' => r = .none ∧ ∃ vs' ns', led' = spL sp dx oc hd wt H n fr c t1 t2 t3 t4 t5 (List.toArray vs') u ws u' ++ [(os, listOf xs.toArray u6)] ∧ IntsAre vs' ns' ∧ ns' = wr ns ia.toNat ms ∧ ns'.length = ns.length) := by
  unfold Ctr
  k_fill
  intro dp un gd cn cs a ccd cl outer A₀ base h₀ L m s Q E B F X N T hk hd' hu hret
  (try dsimp only [spL, List.cons_append, List.nil_append] at N)
  (refine wpAny_call ?_; k_dflt (refine' enter_def (binds := [(Str.ofString "space", Value.ref sp), (Str.ofString "at", Value.int ia t6), (Str.ofString "octets", Value.ref os)]) ?k1 ?k2 ?k3 ?k4 ?k5 ?kA ?kF ?kK ?k6 ?k7 ?k8 ?k9 ?kB ?_ ?c2 ?c3 ?c4 ?c5; (case kA => exact rfl); (case kF => exact rfl); (case kK => assumption); (case k1 => k_asm); (case k2 => k_asm); (case k3 => k_asm); (case k4 => k_asm); (case k5 => k_asm); (case k6 => k_is); (case k7 => k_is); (case k8 => ktr_room); (case k9 => exact BindsTo.of_eq rfl); (case c5 => decide); (case kB => exact locs rfl); (case c2 => exact rfl); (case c3 => exact rfl); (case c4 => exact rfl); k_whole; intro g' L' h' hL' kb' lt' F' N' B' X' T'; (try simp only [AllLt, and_true] at lt'); (try dsimp only); (try k_fold)))
  k_steps
  unfold Halt
  rename Fr _ _ _ _ => lF'
  with_unfolding_all refine' For_turns lF' ?_
  k_steps
  unfold Halt
  with_unfolding_all refine ktu_enum (lo := listOf xs.toArray u6) (vs := xs) (by rfl) (by assumption) (by assumption) (by k_mem) (by rfl) (by rfl) (by rfl) ?_
  intro I l1
  k_lt l1
  have hxl := hx.length
  refine items_ind2 (Str.ofString "spot") (Str.ofString "octet") (fun i news => ∃ vs', news = [(sp, instObj 54 dx), (dx, dictOf (spE H oc hd wt n fr c t1 t2 t3 t4 t5) 8), (oc, listOf (List.toArray vs') u), (hd, dictOf [] 0), (wt, listOf ws u'), (os, listOf xs.toArray u6)] ∧ IntsAre vs' (wr ns ia.toNat (ms.take i))) ⟨vs, rfl, by simpa [wr_nil] using hi⟩ ?_ ?_
  · rintro i a um news ha ⟨vs', rfl, hvs⟩ v h tk hv Fx
    have hlt : i < xs.length := by
      have := List.getElem?_eq_some_iff.mp ha
      obtain ⟨q, _⟩ := this
      rwa [enumItems_length] at q
    have hltm : i < ms.length := by omega
    obtain ⟨tx, hxi⟩ := hx.get i ms[i] (List.getElem?_eq_getElem hltm)
    have ha' := enumItems_get xs 0 i hxi
    rw [ha] at ha'
    cases ha'
    obtain ⟨T, t, rfl, hT⟩ := hv
    have hl' : vs'.length = ns.length := by rw [hvs.length, wr_length]; simp only [List.length_take]; omega
    have hn' : (wr ns ia.toNat (ms.take i)).length = ns.length := by rw [wr_length]; simp only [List.length_take]; omega
    rw [Nat.zero_add] at hT
    ktu_objs
    k_steps
    refine ⟨fun z h1 h2 => by simp only [h1, h2, if_false], ?_⟩
    refine ⟨_, rfl, ?_⟩
    have e1 : (ia + (i : Int)).toNat = ia.toNat + (ms.take i).length := by simp only [List.length_take]; omega
    have e2 : ms.take (i + 1) = ms.take i ++ [ms[i]] := by rw [List.take_add_one, List.getElem?_eq_getElem hltm]; rfl
    rw [e2, ← wr_snoc (by simp only [List.length_take]; omega), ← e1]
    assumption
  · rintro um news ⟨vs', rfl, hvs⟩ h tk Fx Nx
    k_steps
    rw [enumItems_length, hxl, List.take_length] at hvs
    exact hret _ _ _ _ (by assumption) (by assumption) (KeepBut.fr (by assumption) Fx) ⟨rfl, vs', _, rfl, hvs, rfl, wr_length (by omega)⟩
end

section
variable (w : World) (mean : ExcName → Option Value) (mg mb : Str → Option Value)
open KStt LCg
theorem ints_snoc {ys : List Value} {ns : List Int} {x : Int} {t : Tok} (h : IntsAre ys ns) : IntsAre (ys ++ [.int x t]) (ns ++ [x]) := h.append (.cons x t .nil)

local macro_rules | `(tactic| walk_at "eval ListComp") => `(tactic| (k_here; refine halt ?_))
local macro_rules | `(tactic| walk_at "SrcS") => `(tactic| (k_here; refine halt ?_))
theorem octets_of_c {x : Str} {t : Tok} (ha : x.cps.all (· < 128) = true) (hz : x.length ≤ 1000) :
    Ctr w mean mg mb 2 63 [.str x t] [] (fun hp r led' => ∃ D vs, r = .ref D ∧ led' = [(D, listOf (List.toArray vs) vs.length)] ∧ hp.get? D = none ∧ IntsAre vs (codes x)) := by
  unfold Ctr
  k_fill
  intro dp un gd cn cs a ccd cl outer A₀ base h₀ L m s Q E B F X N T hk hd' hu hret
  (refine wpAny_call ?_; k_dflt (refine' enter_def (binds := [(Str.ofString "text", Value.str x t)]) ?k1 ?k2 ?k3 ?k4 ?k5 ?kA ?kF ?kK ?k6 ?k7 ?k8 ?k9 ?kB ?_ ?c2 ?c3 ?c4 ?c5; (case kA => exact rfl); (case kF => exact rfl); (case kK => assumption); (case k1 => k_asm); (case k2 => k_asm); (case k3 => k_asm); (case k4 => k_asm); (case k5 => k_asm); (case k6 => k_is); (case k7 => k_is); (case k8 => ktr_room); (case k9 => exact BindsTo.of_eq rfl); (case c5 => decide); (case kB => exact locs rfl); (case c2 => exact rfl); (case c3 => exact rfl); (case c4 => exact rfl); k_whole; intro g' L' h' hL' kb' lt' F' N' B' X' T'; (try simp only [AllLt, and_true] at lt'); (try dsimp only); (try k_fold)))
  k_steps
  unfold Halt
  rename Fr _ _ _ _ => lF'
  k_dflt (refine ListComp_S lF' (by with_unfolding_all rfl) (by decide) (by rfl) (by decide) (by rfl) ?_)
  k_steps
  unfold Halt
  refine ⟨x, t, [], rfl, by with_unfolding_all rfl, by assumption, by assumption, ha, by simp only [Str.length] at hz; rw [sizeLine_eq]; omega, ?_⟩
  rintro s₂ ⟨hp, rfl⟩
  refine comp_ind0 (fun i ys news => news = [] ∧ IntsAre ys ((codes x).take i)) ⟨rfl, by simpa using IntsAre.nil⟩ ?_ ?_
  · rintro i ys news hi ⟨rfl, hys⟩ v I oI C oC D m₂ h tk E' ⟨cc, tv, hc, rfl⟩ hC hx F' N' off' ne'
    (try simp only [LCg.Off3, and_true] at off')
    k_steps
    have e : (codes x).take (i + 1) = (codes x).take i ++ [(cc : Int)] := by rw [List.take_add_one, code_at hc]; rfl
    rw [e]
    exact ints_snoc hys
  · rintro ys news ⟨rfl, hys⟩
    k_steps
    have e : (codes x).take x.cps.size = codes x := by rw [show x.cps.size = (codes x).length from (codes_length x).symm, List.take_length]
    rw [e] at hys
    exact hret _ _ _ _ (by assumption) (by assumption) (KeepBut.fr (by assumption) (by assumption)) ⟨_, ys, rfl, rfl, fresh_of (by assumption) (by assumption) (List.Mem.head _) (by simp), hys⟩
end

section
variable (w : World) (mean : ExcName → Option Value) (mg mb : Str → Option Value)
open KStt LCg

local macro_rules | `(tactic| walk_at "eval ListComp") => `(tactic| (k_here; refine halt ?_))
local macro_rules | `(tactic| walk_at "CompSrc") => `(tactic| (k_here; refine halt ?_))
local macro_rules | `(tactic| walk_at "call builtin:chr") => `(tactic| (k_here; refine chr_of_range (by with_reducible assumption) (by with_reducible assumption) ?_))
local macro_rules | `(tactic| walk_at "CompEnd") => `(tactic| (k_here; refine halt ?_))
theorem text_at_c {sp dx oc hd wt pl : Addr} {H : Hk} {n fr c : Int} {t1 t2 t3 t4 t5 t6 t7 : Tok} {vs : List Value} {ns : List Int} {u : Nat} {ws : Array Value} {u' u7 : Nat} {a l : Int}
    (hi : IntsAre vs ns) (h0 : 0 ≤ a) (h2 : 0 ≤ l) (h1 : a + l ≤ ns.length) (hz : ns.length ≤ 1000) (hr : ∀ x ∈ ns, 0 ≤ x ∧ x < 128) :
    Ctr w mean mg mb 2 68 [.ref sp, .ref pl] (spL sp dx oc hd wt H n fr c t1 t2 t3 t4 t5 vs.toArray u ws u' ++ [(pl, listOf #[.int a t6, .int l t7] u7)])
      (fun _ r led' => led' = spL sp dx oc hd wt H n fr c t1 t2 t3 t4 t5 vs.toArray u ws u' ++ [(pl, listOf #[.int a t6, .int l t7] u7)] ∧ ∃ t, r = .str (txt (sl ns a l)) t) := by
  unfold Ctr
  k_fill
  intro dp un gd cn cs a' ccd cl outer A₀ base h₀ L m s Q E B F X N T hk hd' hu hret
  (try dsimp only [spL, List.cons_append, List.nil_append] at N)
  (refine wpAny_call ?_; k_dflt (refine' enter_def (binds := [(Str.ofString "space", Value.ref sp), (Str.ofString "place", Value.ref pl)]) ?k1 ?k2 ?k3 ?k4 ?k5 ?kA ?kF ?kK ?k6 ?k7 ?k8 ?k9 ?kB ?_ ?c2 ?c3 ?c4 ?c5; (case kA => exact rfl); (case kF => exact rfl); (case kK => assumption); (case k1 => k_asm); (case k2 => k_asm); (case k3 => k_asm); (case k4 => k_asm); (case k5 => k_asm); (case k6 => k_is); (case k7 => k_is); (case k8 => ktr_room); (case k9 => exact BindsTo.of_eq rfl); (case c5 => decide); (case kB => exact locs rfl); (case c2 => exact rfl); (case c3 => exact rfl); (case c4 => exact rfl); k_whole; intro g' L' h' hL' kb' lt' F' N' B' X' T'; (try simp only [AllLt, and_true] at lt'); (try dsimp only); (try k_fold)))
  k_steps
  unfold Halt
  rename Fr _ _ _ _ => lF'
  k_dflt (refine ListComp_U lF' (by with_unfolding_all rfl) (by decide) (by rfl) (by decide) (by rfl) ?_)
  k_steps
  unfold Halt
  rename List Value => ws9
  rename List Int => ms
  rename IntsAre _ _ => hI
  rename ms = _ => hmd
  rename (_ : Int) = a + l - a => hml
  have hms : ms.length ≤ 1000 := by omega
  have hmr : ∀ x ∈ ms, 0 ≤ x ∧ x < 128 := fun x hx => sl_all hr x (hmd ▸ hx)
  have hmd' : sl ns a l = ms := by rw [hmd]; congr 1; omega
  k_dflt (refine LCg.CompSrc.ledger (by rfl) (by k_asm) (by k_asm) (by k_mem) ?_ ?_)
  · rw [List.size_toArray, hI.length, sizeLine_eq]; omega
  intro g
  refine comp_same (fun i ys => StrsAre ys ((ms.take i).map fun x => txt [x])) (by simpa using StrsAre.nil) (Or.inr ⟨_, by k_mem, rfl, _, rfl⟩) ?_ ?_
  · intro i ys hi hys v I oI C oC D m₂ h tk E' hv hC hx F' N' off' ne'
    have hlt : i < ms.length := by rw [List.size_toArray, hI.length] at hi; exact hi
    obtain ⟨y, hy⟩ : ∃ y, ms[i]? = some y := ⟨_, List.getElem?_eq_getElem hlt⟩
    obtain ⟨tv, hvi⟩ := hI.get i y hy
    have hv' : v = .int y tv := by
      have hv2 : ws9[i]? = some v := by simpa using hv
      rw [hvi] at hv2; exact (Option.some.inj hv2).symm
    subst hv'
    have hb := hmr y (List.mem_of_getElem? hy)
    have hb1 : 0 ≤ y := hb.1
    have hb2 : y ≤ 1114111 := by omega
    clear hb hmr
    k_steps
    unfold Halt
    refine compEnd_same F' N' off' (Or.inr ⟨_, by k_mem, rfl, _, rfl⟩) ?_
    rw [List.take_add_one, hy, List.map_append]
    exact strs_snoc hys
  · intro ys hys
    k_steps
    rw [List.size_toArray, hI.length, List.take_length] at hys
    have e0 : (Str.ofString "").length = 0 := by decide +kernel
    refine join_list (by is_list) (by simpa using hys) (by rw [signs_sum, List.length_map, e0]; omega) fun t' k => ?_
    rw [join_signs fun x hx => (hmr x hx).1]
    k_steps
    exact hret _ _ _ _ (by assumption) (news_sub (by assumption) fun p hp => .tail _ (.tail _ hp)) (KeepBut.fr (by assumption) (by assumption)) ⟨rfl, t', by rw [hmd']⟩
end

section
variable (w : World) (mean : ExcName → Option Value) (mg mb : Str → Option Value)
open KStt LCg

theorem places_of1_c {sp dx oc hd wt : Addr} {H : Hk} {n fr c : Int} {t1 t2 t3 t4 t5 : Tok} {vs : Array Value} {u u' : Nat} {p1 : Addr} {s1 r1 : Tok} {u1 : Nat} {a1 l1 : Int} (h1 : 0 < l1) (lo : (hd == sysModules) = false) :
    Ctr w mean mg mb 2 80 [.ref sp] (spL sp dx oc hd wt H n fr c t1 t2 t3 t4 t5 vs u #[.ref p1] u' ++ [(p1, listOf #[.int a1 s1, .int l1 r1] u1)])
      (fun hp r led' => ∃ D, led' = (D, lst [.ref p1]) :: (spL sp dx oc hd wt H n fr c t1 t2 t3 t4 t5 vs u #[.ref p1] u' ++ [(p1, listOf #[.int a1 s1, .int l1 r1] u1)]) ∧ r = .ref D ∧ hp.get? D = none) := by
  unfold Ctr
  k_fill
  intro dp un gd cn cs a' ccd cl outer A₀ base h₀ L m s Q E B F X N T hk hd' hu hret
  (try dsimp only [spL, List.cons_append, List.nil_append] at N)
  (refine wpAny_call ?_; k_dflt (refine' enter_defC (binds := [(Str.ofString "space", Value.ref sp)]) ?k1 ?k2 ?k3 ?k4 ?k5 ?kA ?kF ?kK ?k6 ?k7 ?k8 ?k9 ?kB ?kD ?_ ?c2 ?c3 ?c4; (case kA => exact rfl); (case kF => exact rfl); (case kK => assumption); (case k1 => k_asm); (case k2 => k_asm); (case k3 => k_asm); (case k4 => k_asm); (case k5 => k_asm); (case k6 => k_is); (case k7 => k_is); (case k8 => ktr_room); (case k9 => exact BindsTo.of_eq rfl); (case kB => exact rfl); (case kD => decide +kernel); (case c2 => exact rfl); (case c3 => exact rfl); (case c4 => exact rfl); k_whole; intro g' L' h' tk' cells' hL' kb' lt' F' N' Y' B' X' T'; (replace F' : Fr g' L' h' (fun _ => none) := F'); (try simp only [AllLt, and_true] at lt'); k_cells Y'; (try simp only [List.cons_append, List.nil_append] at N'); (try dsimp only); (try k_fold)))
  k_steps
  refine hret _ _ _ _ (by k_asm) (news_sub (by assumption) ?_) (KeepBut.fr kb' (by k_asm)) ⟨_, rfl, rfl, fresh_of kb' (by assumption) (by k_mem) (by walk_at "NOTIN")⟩
  lcg_sub

theorem places_of2_c {sp dx oc hd wt : Addr} {H : Hk} {n fr c : Int} {t1 t2 t3 t4 t5 : Tok} {vs : Array Value} {u u' : Nat} {p1 p2 : Addr} {s1 r1 s2 r2 : Tok} {u1 u2 : Nat} {a1 l1 a2 l2 : Int} (h1 : 0 < l1) (h2 : 0 < l2) (lo : (hd == sysModules) = false) :
    Ctr w mean mg mb 2 80 [.ref sp] (spL sp dx oc hd wt H n fr c t1 t2 t3 t4 t5 vs u #[.ref p1, .ref p2] u' ++ [(p1, listOf #[.int a1 s1, .int l1 r1] u1), (p2, listOf #[.int a2 s2, .int l2 r2] u2)])
      (fun hp r led' => ∃ D, led' = (D, lst [.ref p1, .ref p2]) :: (spL sp dx oc hd wt H n fr c t1 t2 t3 t4 t5 vs u #[.ref p1, .ref p2] u' ++ [(p1, listOf #[.int a1 s1, .int l1 r1] u1), (p2, listOf #[.int a2 s2, .int l2 r2] u2)]) ∧ r = .ref D ∧ hp.get? D = none) := by
  unfold Ctr
  k_fill
  intro dp un gd cn cs a' ccd cl outer A₀ base h₀ L m s Q E B F X N T hk hd' hu hret
  (try dsimp only [spL, List.cons_append, List.nil_append] at N)
  (refine wpAny_call ?_; k_dflt (refine' enter_defC (binds := [(Str.ofString "space", Value.ref sp)]) ?k1 ?k2 ?k3 ?k4 ?k5 ?kA ?kF ?kK ?k6 ?k7 ?k8 ?k9 ?kB ?kD ?_ ?c2 ?c3 ?c4; (case kA => exact rfl); (case kF => exact rfl); (case kK => assumption); (case k1 => k_asm); (case k2 => k_asm); (case k3 => k_asm); (case k4 => k_asm); (case k5 => k_asm); (case k6 => k_is); (case k7 => k_is); (case k8 => ktr_room); (case k9 => exact BindsTo.of_eq rfl); (case kB => exact rfl); (case kD => decide +kernel); (case c2 => exact rfl); (case c3 => exact rfl); (case c4 => exact rfl); k_whole; intro g' L' h' tk' cells' hL' kb' lt' F' N' Y' B' X' T'; (replace F' : Fr g' L' h' (fun _ => none) := F'); (try simp only [AllLt, and_true] at lt'); k_cells Y'; (try simp only [List.cons_append, List.nil_append] at N'); (try dsimp only); (try k_fold)))
  k_steps
  refine hret _ _ _ _ (by k_asm) (news_sub (by assumption) ?_) (KeepBut.fr kb' (by k_asm)) ⟨_, rfl, rfl, fresh_of kb' (by assumption) (by k_mem) (by walk_at "NOTIN")⟩
  lcg_sub

theorem places_of3_c {sp dx oc hd wt : Addr} {H : Hk} {n fr c : Int} {t1 t2 t3 t4 t5 : Tok} {vs : Array Value} {u u' : Nat} {p1 p2 p3 : Addr} {s1 r1 s2 r2 s3 r3 : Tok} {u1 u2 u3 : Nat} {a1 l1 a2 l2 a3 l3 : Int} (h1 : 0 < l1) (h2 : 0 < l2) (h3 : 0 < l3) (lo : (hd == sysModules) = false) :
    Ctr w mean mg mb 2 80 [.ref sp] (spL sp dx oc hd wt H n fr c t1 t2 t3 t4 t5 vs u #[.ref p1, .ref p2, .ref p3] u' ++ [(p1, listOf #[.int a1 s1, .int l1 r1] u1), (p2, listOf #[.int a2 s2, .int l2 r2] u2), (p3, listOf #[.int a3 s3, .int l3 r3] u3)])
      (fun hp r led' => ∃ D, led' = (D, lst [.ref p1, .ref p2, .ref p3]) :: (spL sp dx oc hd wt H n fr c t1 t2 t3 t4 t5 vs u #[.ref p1, .ref p2, .ref p3] u' ++ [(p1, listOf #[.int a1 s1, .int l1 r1] u1), (p2, listOf #[.int a2 s2, .int l2 r2] u2), (p3, listOf #[.int a3 s3, .int l3 r3] u3)]) ∧ r = .ref D ∧ hp.get? D = none) := by
  unfold Ctr
  k_fill
  intro dp un gd cn cs a' ccd cl outer A₀ base h₀ L m s Q E B F X N T hk hd' hu hret
  (try dsimp only [spL, List.cons_append, List.nil_append] at N)
  (refine wpAny_call ?_; k_dflt (refine' enter_defC (binds := [(Str.ofString "space", Value.ref sp)]) ?k1 ?k2 ?k3 ?k4 ?k5 ?kA ?kF ?kK ?k6 ?k7 ?k8 ?k9 ?kB ?kD ?_ ?c2 ?c3 ?c4; (case kA => exact rfl); (case kF => exact rfl); (case kK => assumption); (case k1 => k_asm); (case k2 => k_asm); (case k3 => k_asm); (case k4 => k_asm); (case k5 => k_asm); (case k6 => k_is); (case k7 => k_is); (case k8 => ktr_room); (case k9 => exact BindsTo.of_eq rfl); (case kB => exact rfl); (case kD => decide +kernel); (case c2 => exact rfl); (case c3 => exact rfl); (case c4 => exact rfl); k_whole; intro g' L' h' tk' cells' hL' kb' lt' F' N' Y' B' X' T'; (replace F' : Fr g' L' h' (fun _ => none) := F'); (try simp only [AllLt, and_true] at lt'); k_cells Y'; (try simp only [List.cons_append, List.nil_append] at N'); (try dsimp only); (try k_fold)))
  k_steps
  refine hret _ _ _ _ (by k_asm) (news_sub (by assumption) ?_) (KeepBut.fr kb' (by k_asm)) ⟨_, rfl, rfl, fresh_of kb' (by assumption) (by k_mem) (by walk_at "NOTIN")⟩
  lcg_sub

theorem places_of4_c {sp dx oc hd wt : Addr} {H : Hk} {n fr c : Int} {t1 t2 t3 t4 t5 : Tok} {vs : Array Value} {u u' : Nat} {p1 p2 p3 p4 : Addr} {s1 r1 s2 r2 s3 r3 s4 r4 : Tok} {u1 u2 u3 u4 : Nat} {a1 l1 a2 l2 a3 l3 a4 l4 : Int} (h1 : 0 < l1) (h2 : 0 < l2) (h3 : 0 < l3) (h4 : 0 < l4) (lo : (hd == sysModules) = false) :
    Ctr w mean mg mb 2 80 [.ref sp] (spL sp dx oc hd wt H n fr c t1 t2 t3 t4 t5 vs u #[.ref p1, .ref p2, .ref p3, .ref p4] u' ++ [(p1, listOf #[.int a1 s1, .int l1 r1] u1), (p2, listOf #[.int a2 s2, .int l2 r2] u2), (p3, listOf #[.int a3 s3, .int l3 r3] u3), (p4, listOf #[.int a4 s4, .int l4 r4] u4)])
      (fun hp r led' => ∃ D, led' = (D, lst [.ref p1, .ref p2, .ref p3, .ref p4]) :: (spL sp dx oc hd wt H n fr c t1 t2 t3 t4 t5 vs u #[.ref p1, .ref p2, .ref p3, .ref p4] u' ++ [(p1, listOf #[.int a1 s1, .int l1 r1] u1), (p2, listOf #[.int a2 s2, .int l2 r2] u2), (p3, listOf #[.int a3 s3, .int l3 r3] u3), (p4, listOf #[.int a4 s4, .int l4 r4] u4)]) ∧ r = .ref D ∧ hp.get? D = none) := by
  unfold Ctr
  k_fill
  intro dp un gd cn cs a' ccd cl outer A₀ base h₀ L m s Q E B F X N T hk hd' hu hret
  (try dsimp only [spL, List.cons_append, List.nil_append] at N)
  (refine wpAny_call ?_; k_dflt (refine' enter_defC (binds := [(Str.ofString "space", Value.ref sp)]) ?k1 ?k2 ?k3 ?k4 ?k5 ?kA ?kF ?kK ?k6 ?k7 ?k8 ?k9 ?kB ?kD ?_ ?c2 ?c3 ?c4; (case kA => exact rfl); (case kF => exact rfl); (case kK => assumption); (case k1 => k_asm); (case k2 => k_asm); (case k3 => k_asm); (case k4 => k_asm); (case k5 => k_asm); (case k6 => k_is); (case k7 => k_is); (case k8 => ktr_room); (case k9 => exact BindsTo.of_eq rfl); (case kB => exact rfl); (case kD => decide +kernel); (case c2 => exact rfl); (case c3 => exact rfl); (case c4 => exact rfl); k_whole; intro g' L' h' tk' cells' hL' kb' lt' F' N' Y' B' X' T'; (replace F' : Fr g' L' h' (fun _ => none) := F'); (try simp only [AllLt, and_true] at lt'); k_cells Y'; (try simp only [List.cons_append, List.nil_append] at N'); (try dsimp only); (try k_fold)))
  k_steps
  refine hret _ _ _ _ (by k_asm) (news_sub (by assumption) ?_) (KeepBut.fr kb' (by k_asm)) ⟨_, rfl, rfl, fresh_of kb' (by assumption) (by k_mem) (by walk_at "NOTIN")⟩
  lcg_sub

theorem next_highest0_c {D : Addr} {b : Int} {t : Tok}   :
    Ctr w mean mg mb 2 94 [.ref D, .int b t] [(D, lst [])] (fun _ r led' => led' = [(D, lst [])] ∧ r = .none) := by
  unfold Ctr
  k_fill
  intro dp un gd cn cs a' ccd cl outer A₀ base h₀ L m s Q E B F X N T hk hd' hu hret
  (refine wpAny_call ?_; k_dflt (refine' enter_def (binds := [(Str.ofString "places", Value.ref D), (Str.ofString "below", Value.int b t)]) ?k1 ?k2 ?k3 ?k4 ?k5 ?kA ?kF ?kK ?k6 ?k7 ?k8 ?k9 ?kB ?_ ?c2 ?c3 ?c4 ?c5; (case kA => exact rfl); (case kF => exact rfl); (case kK => assumption); (case k1 => k_asm); (case k2 => k_asm); (case k3 => k_asm); (case k4 => k_asm); (case k5 => k_asm); (case k6 => k_is); (case k7 => k_is); (case k8 => ktr_room); (case k9 => exact BindsTo.of_eq rfl); (case c5 => decide); (case kB => exact locs rfl); (case c2 => exact rfl); (case c3 => exact rfl); (case c4 => exact rfl); k_whole; intro g' L' h' hL' kb' lt' F' N' B' X' T'; (try simp only [AllLt, and_true] at lt'); (try dsimp only); (try k_fold)))
  k_steps
  exact hret _ _ _ _ (by k_asm) (by k_asm) (KeepBut.fr kb' (by k_asm)) ⟨rfl, rfl⟩

theorem next_highest1_c {D : Addr} {b : Int} {t : Tok} {p1 : Addr} {s1 r1 : Tok} {u1 : Nat} {a1 l1 : Int} (h1 : a1 < b) :
    Ctr w mean mg mb 2 94 [.ref D, .int b t] [(D, lst [.ref p1]), (p1, listOf #[.int a1 s1, .int l1 r1] u1)] (fun _ r led' => led' = [(D, lst [.ref p1]), (p1, listOf #[.int a1 s1, .int l1 r1] u1)] ∧ r = .ref p1) := by
  unfold Ctr
  k_fill
  intro dp un gd cn cs a' ccd cl outer A₀ base h₀ L m s Q E B F X N T hk hd' hu hret
  (refine wpAny_call ?_; k_dflt (refine' enter_def (binds := [(Str.ofString "places", Value.ref D), (Str.ofString "below", Value.int b t)]) ?k1 ?k2 ?k3 ?k4 ?k5 ?kA ?kF ?kK ?k6 ?k7 ?k8 ?k9 ?kB ?_ ?c2 ?c3 ?c4 ?c5; (case kA => exact rfl); (case kF => exact rfl); (case kK => assumption); (case k1 => k_asm); (case k2 => k_asm); (case k3 => k_asm); (case k4 => k_asm); (case k5 => k_asm); (case k6 => k_is); (case k7 => k_is); (case k8 => ktr_room); (case k9 => exact BindsTo.of_eq rfl); (case c5 => decide); (case kB => exact locs rfl); (case c2 => exact rfl); (case c3 => exact rfl); (case c4 => exact rfl); k_whole; intro g' L' h' hL' kb' lt' F' N' B' X' T'; (try simp only [AllLt, and_true] at lt'); (try dsimp only); (try k_fold)))
  k_steps
  exact hret _ _ _ _ (by k_asm) (by k_asm) (KeepBut.fr kb' (by k_asm)) ⟨rfl, rfl⟩

theorem next_highest2_c {D : Addr} {b : Int} {t : Tok} {p1 p2 : Addr} {s1 r1 s2 r2 : Tok} {u1 u2 : Nat} {a1 l1 a2 l2 : Int} (h1 : a1 < b) (h2 : a2 < a1) :
    Ctr w mean mg mb 2 94 [.ref D, .int b t] [(D, lst [.ref p1, .ref p2]), (p1, listOf #[.int a1 s1, .int l1 r1] u1), (p2, listOf #[.int a2 s2, .int l2 r2] u2)] (fun _ r led' => led' = [(D, lst [.ref p1, .ref p2]), (p1, listOf #[.int a1 s1, .int l1 r1] u1), (p2, listOf #[.int a2 s2, .int l2 r2] u2)] ∧ r = .ref p1) := by
  unfold Ctr
  k_fill
  intro dp un gd cn cs a' ccd cl outer A₀ base h₀ L m s Q E B F X N T hk hd' hu hret
  (refine wpAny_call ?_; k_dflt (refine' enter_def (binds := [(Str.ofString "places", Value.ref D), (Str.ofString "below", Value.int b t)]) ?k1 ?k2 ?k3 ?k4 ?k5 ?kA ?kF ?kK ?k6 ?k7 ?k8 ?k9 ?kB ?_ ?c2 ?c3 ?c4 ?c5; (case kA => exact rfl); (case kF => exact rfl); (case kK => assumption); (case k1 => k_asm); (case k2 => k_asm); (case k3 => k_asm); (case k4 => k_asm); (case k5 => k_asm); (case k6 => k_is); (case k7 => k_is); (case k8 => ktr_room); (case k9 => exact BindsTo.of_eq rfl); (case c5 => decide); (case kB => exact locs rfl); (case c2 => exact rfl); (case c3 => exact rfl); (case c4 => exact rfl); k_whole; intro g' L' h' hL' kb' lt' F' N' B' X' T'; (try simp only [AllLt, and_true] at lt'); (try dsimp only); (try k_fold)))
  k_steps
  exact hret _ _ _ _ (by k_asm) (by k_asm) (KeepBut.fr kb' (by k_asm)) ⟨rfl, rfl⟩

theorem next_highest3_c {D : Addr} {b : Int} {t : Tok} {p1 p2 p3 : Addr} {s1 r1 s2 r2 s3 r3 : Tok} {u1 u2 u3 : Nat} {a1 l1 a2 l2 a3 l3 : Int} (h1 : a1 < b) (h2 : a2 < a1) (h3 : a3 < a2) :
    Ctr w mean mg mb 2 94 [.ref D, .int b t] [(D, lst [.ref p1, .ref p2, .ref p3]), (p1, listOf #[.int a1 s1, .int l1 r1] u1), (p2, listOf #[.int a2 s2, .int l2 r2] u2), (p3, listOf #[.int a3 s3, .int l3 r3] u3)] (fun _ r led' => led' = [(D, lst [.ref p1, .ref p2, .ref p3]), (p1, listOf #[.int a1 s1, .int l1 r1] u1), (p2, listOf #[.int a2 s2, .int l2 r2] u2), (p3, listOf #[.int a3 s3, .int l3 r3] u3)] ∧ r = .ref p1) := by
  unfold Ctr
  k_fill
  intro dp un gd cn cs a' ccd cl outer A₀ base h₀ L m s Q E B F X N T hk hd' hu hret
  (refine wpAny_call ?_; k_dflt (refine' enter_def (binds := [(Str.ofString "places", Value.ref D), (Str.ofString "below", Value.int b t)]) ?k1 ?k2 ?k3 ?k4 ?k5 ?kA ?kF ?kK ?k6 ?k7 ?k8 ?k9 ?kB ?_ ?c2 ?c3 ?c4 ?c5; (case kA => exact rfl); (case kF => exact rfl); (case kK => assumption); (case k1 => k_asm); (case k2 => k_asm); (case k3 => k_asm); (case k4 => k_asm); (case k5 => k_asm); (case k6 => k_is); (case k7 => k_is); (case k8 => ktr_room); (case k9 => exact BindsTo.of_eq rfl); (case c5 => decide); (case kB => exact locs rfl); (case c2 => exact rfl); (case c3 => exact rfl); (case c4 => exact rfl); k_whole; intro g' L' h' hL' kb' lt' F' N' B' X' T'; (try simp only [AllLt, and_true] at lt'); (try dsimp only); (try k_fold)))
  k_steps
  exact hret _ _ _ _ (by k_asm) (by k_asm) (KeepBut.fr kb' (by k_asm)) ⟨rfl, rfl⟩

theorem next_highest4_c {D : Addr} {b : Int} {t : Tok} {p1 p2 p3 p4 : Addr} {s1 r1 s2 r2 s3 r3 s4 r4 : Tok} {u1 u2 u3 u4 : Nat} {a1 l1 a2 l2 a3 l3 a4 l4 : Int} (h1 : a1 < b) (h2 : a2 < a1) (h3 : a3 < a2) (h4 : a4 < a3) :
    Ctr w mean mg mb 2 94 [.ref D, .int b t] [(D, lst [.ref p1, .ref p2, .ref p3, .ref p4]), (p1, listOf #[.int a1 s1, .int l1 r1] u1), (p2, listOf #[.int a2 s2, .int l2 r2] u2), (p3, listOf #[.int a3 s3, .int l3 r3] u3), (p4, listOf #[.int a4 s4, .int l4 r4] u4)] (fun _ r led' => led' = [(D, lst [.ref p1, .ref p2, .ref p3, .ref p4]), (p1, listOf #[.int a1 s1, .int l1 r1] u1), (p2, listOf #[.int a2 s2, .int l2 r2] u2), (p3, listOf #[.int a3 s3, .int l3 r3] u3), (p4, listOf #[.int a4 s4, .int l4 r4] u4)] ∧ r = .ref p1) := by
  unfold Ctr
  k_fill
  intro dp un gd cn cs a' ccd cl outer A₀ base h₀ L m s Q E B F X N T hk hd' hu hret
  (refine wpAny_call ?_; k_dflt (refine' enter_def (binds := [(Str.ofString "places", Value.ref D), (Str.ofString "below", Value.int b t)]) ?k1 ?k2 ?k3 ?k4 ?k5 ?kA ?kF ?kK ?k6 ?k7 ?k8 ?k9 ?kB ?_ ?c2 ?c3 ?c4 ?c5; (case kA => exact rfl); (case kF => exact rfl); (case kK => assumption); (case k1 => k_asm); (case k2 => k_asm); (case k3 => k_asm); (case k4 => k_asm); (case k5 => k_asm); (case k6 => k_is); (case k7 => k_is); (case k8 => ktr_room); (case k9 => exact BindsTo.of_eq rfl); (case c5 => decide); (case kB => exact locs rfl); (case c2 => exact rfl); (case c3 => exact rfl); (case c4 => exact rfl); k_whole; intro g' L' h' hL' kb' lt' F' N' B' X' T'; (try simp only [AllLt, and_true] at lt'); (try dsimp only); (try k_fold)))
  k_steps
  exact hret _ _ _ _ (by k_asm) (by k_asm) (KeepBut.fr kb' (by k_asm)) ⟨rfl, rfl⟩
end

local macro_rules | `(tactic| walk_at "call ref") => `(tactic| (k_here; (with_reducible show wpAny _ _ (call (Value.ref 75) _) _ _ _); k_dflt (refine' use (write_octets_c _ _ _ _ ?hi ?hx ?h0 ?h1 ?hz ?o1 ?o2 ?o3 ?o4 ?o5) ?B ?F ?X ?N ?T ?K ?d ?u ?s ?r ?_; (case B => k_asm); (case F => k_asm); (case X => k_asm); (case N => k_asm); (case T => k_asm); (case K => first | exact rfl | assumption); (case s => lcg_sub); (case r => ((try dsimp only [spL, List.cons_append, List.nil_append]); walk_at "REST")); (case d => ktr_room); (case u => ktr_units); (case hi => l_ints); (case hx => l_ints); (case h0 => omega); (case h1 => omega); (case hz => omega); (case o1 => omega); (case o2 => omega); (case o3 => omega); (case o4 => omega); (case o5 => k_ne)); (intro r9 led9 h9 tk9 F9 N9 P9 M9; obtain ⟨e9, vs9, ns9, f9, hi9, hw9, hl9⟩ := P9; subst e9; subst f9; clear M9; (try dsimp only [spL, List.cons_append, List.nil_append] at N9); (try k_sweep); (try dsimp only))))
local macro_rules | `(tactic| walk_at "call ref") => `(tactic| (k_here; (with_reducible show wpAny _ _ (call (Value.ref 80) _) _ _ _); k_dflt (first | (refine' use (places_of1_c _ _ _ _ ?h1 ?lo) ?B ?F ?X ?N ?T ?K ?d ?u ?s ?r ?_; (case B => k_asm); (case F => k_asm); (case X => k_asm); (case N => k_asm); (case T => k_asm); (case K => first | exact rfl | assumption); (case s => lcg_sub); (case r => ((try dsimp only [spL, List.cons_append, List.nil_append]); walk_at "REST")); (case d => ktr_room); (case u => ktr_units); (case h1 => omega); (case lo => assumption)) | (refine' use (places_of2_c _ _ _ _ ?h1 ?h2 ?lo) ?B ?F ?X ?N ?T ?K ?d ?u ?s ?r ?_; (case B => k_asm); (case F => k_asm); (case X => k_asm); (case N => k_asm); (case T => k_asm); (case K => first | exact rfl | assumption); (case s => lcg_sub); (case r => ((try dsimp only [spL, List.cons_append, List.nil_append]); walk_at "REST")); (case d => ktr_room); (case u => ktr_units); (case h1 => omega); (case h2 => omega); (case lo => assumption)) | (refine' use (places_of3_c _ _ _ _ ?h1 ?h2 ?h3 ?lo) ?B ?F ?X ?N ?T ?K ?d ?u ?s ?r ?_; (case B => k_asm); (case F => k_asm); (case X => k_asm); (case N => k_asm); (case T => k_asm); (case K => first | exact rfl | assumption); (case s => lcg_sub); (case r => ((try dsimp only [spL, List.cons_append, List.nil_append]); walk_at "REST")); (case d => ktr_room); (case u => ktr_units); (case h1 => omega); (case h2 => omega); (case h3 => omega); (case lo => assumption)) | (refine' use (places_of4_c _ _ _ _ ?h1 ?h2 ?h3 ?h4 ?lo) ?B ?F ?X ?N ?T ?K ?d ?u ?s ?r ?_; (case B => k_asm); (case F => k_asm); (case X => k_asm); (case N => k_asm); (case T => k_asm); (case K => first | exact rfl | assumption); (case s => lcg_sub); (case r => ((try dsimp only [spL, List.cons_append, List.nil_append]); walk_at "REST")); (case d => ktr_room); (case u => ktr_units); (case h1 => omega); (case h2 => omega); (case h3 => omega); (case h4 => omega); (case lo => assumption))); (intro r9 led9 h9 tk9 F9 N9 P9 M9; obtain ⟨D9, f9, e9, o9⟩ := P9; subst e9; subst f9; replace o9 := AllNe.of (off_fresh M9 o9); clear M9; (try simp only [AllNe, and_true] at o9); (repeat (obtain ⟨_, o9⟩ := o9)); (try dsimp only [spL, List.cons_append, List.nil_append] at N9); (try k_sweep); (try dsimp only))))
local macro_rules | `(tactic| walk_at "call ref") => `(tactic| (k_here; (with_reducible show wpAny _ _ (call (Value.ref 94) _) _ _ _); k_dflt (first | (refine' use (next_highest0_c _ _ _ _ ) ?B ?F ?X ?N ?T ?K ?d ?u ?s ?r ?_; (case B => k_asm); (case F => k_asm); (case X => k_asm); (case N => k_asm); (case T => k_asm); (case K => first | exact rfl | assumption); (case s => lcg_sub); (case r => ((try dsimp only [spL, List.cons_append, List.nil_append]); walk_at "REST")); (case d => ktr_room); (case u => ktr_units)) | (refine' use (next_highest1_c _ _ _ _ ?h1) ?B ?F ?X ?N ?T ?K ?d ?u ?s ?r ?_; (case B => k_asm); (case F => k_asm); (case X => k_asm); (case N => k_asm); (case T => k_asm); (case K => first | exact rfl | assumption); (case s => lcg_sub); (case r => ((try dsimp only [spL, List.cons_append, List.nil_append]); walk_at "REST")); (case d => ktr_room); (case u => ktr_units); (case h1 => omega)) | (refine' use (next_highest2_c _ _ _ _ ?h1 ?h2) ?B ?F ?X ?N ?T ?K ?d ?u ?s ?r ?_; (case B => k_asm); (case F => k_asm); (case X => k_asm); (case N => k_asm); (case T => k_asm); (case K => first | exact rfl | assumption); (case s => lcg_sub); (case r => ((try dsimp only [spL, List.cons_append, List.nil_append]); walk_at "REST")); (case d => ktr_room); (case u => ktr_units); (case h1 => omega); (case h2 => omega)) | (refine' use (next_highest3_c _ _ _ _ ?h1 ?h2 ?h3) ?B ?F ?X ?N ?T ?K ?d ?u ?s ?r ?_; (case B => k_asm); (case F => k_asm); (case X => k_asm); (case N => k_asm); (case T => k_asm); (case K => first | exact rfl | assumption); (case s => lcg_sub); (case r => ((try dsimp only [spL, List.cons_append, List.nil_append]); walk_at "REST")); (case d => ktr_room); (case u => ktr_units); (case h1 => omega); (case h2 => omega); (case h3 => omega)) | (refine' use (next_highest4_c _ _ _ _ ?h1 ?h2 ?h3 ?h4) ?B ?F ?X ?N ?T ?K ?d ?u ?s ?r ?_; (case B => k_asm); (case F => k_asm); (case X => k_asm); (case N => k_asm); (case T => k_asm); (case K => first | exact rfl | assumption); (case s => lcg_sub); (case r => ((try dsimp only [spL, List.cons_append, List.nil_append]); walk_at "REST")); (case d => ktr_room); (case u => ktr_units); (case h1 => omega); (case h2 => omega); (case h3 => omega); (case h4 => omega))); (intro r9 led9 h9 tk9 F9 N9 P9 M9; obtain ⟨f9, e9⟩ := P9; subst e9; subst f9; clear M9; (try dsimp only [List.cons_append, List.nil_append] at N9); (try k_sweep); (try dsimp only))))
local macro_rules | `(tactic| walk_at "call ref") => `(tactic| (k_here; (with_reducible show wpAny _ _ (call (Value.ref 87) _) _ _ _); k_dflt (refine' use (free_room_c _ _ _ _) ?B ?F ?X ?N ?T ?K ?d ?u ?s ?r ?_; (case B => k_asm); (case F => k_asm); (case X => k_asm); (case N => k_asm); (case T => k_asm); (case K => first | exact rfl | assumption); (case s => lcg_sub); (case r => ((try dsimp only [spL, List.cons_append, List.nil_append]); walk_at "REST")); (case d => ktr_room); (case u => ktr_units)); (intro r9 led9 h9 tk9 F9 N9 P9 M9; obtain ⟨f9, t9, e9⟩ := P9; subst e9; subst f9; clear M9; (try dsimp only [spL, List.cons_append, List.nil_append] at N9); (try k_sweep); (try dsimp only))))
local macro_rules | `(tactic| walk_at "exec Raise some none") => `(tactic| (k_here; refine Raise_own rfl ?_))

section
variable (w : World) (mean : ExcName → Option Value) (mg mb : Str → Option Value)
open KStt LCg
local macro_rules | `(tactic| walk_at "exec Assign cons ListComp") => `(tactic| (k_here; lct_look; k_dflt (refine LCt.Assign_ListComp_T (F₀ := by k_asm) (by rfl) (by with_unfolding_all rfl) (by with_unfolding_all rfl) (by decide) (by rfl) (by decide) (by rfl) (by rfl) (by rfl) ?_)))

theorem chain1 {n a1 l1 : Int} {ns ns1 ms1 : List Int}
    (w1 : ns1 = wr ns (n - l1).toNat ms1)
    (m1 : ms1 = sl ns a1 (a1 + l1 - a1)) (e1 : (ms1.length : Int) = a1 + l1 - a1) (g1 : ns1.length = ns.length)
    (hn : n = ns.length) (h1 : 0 < l1) (b1 : a1 + l1 ≤ n)  (b2 : 0 ≤ a1) :
    ns1.length = ns.length ∧ sl ns1 (n - l1) l1 = sl ns a1 l1 ∧ ∀ P : Int → Prop, (∀ x ∈ ns, P x) → ∀ x ∈ ns1, P x := by
  refine ⟨by omega, ?_, ?_⟩
  · rw [w1, sl_wr_self (by omega) (by omega) (by omega), m1, show a1 + l1 - a1 = l1 by omega]
  · intro P h0
    have h1' : ∀ x ∈ ns1, P x := by rw [w1]; exact wr_all h0 (by rw [m1]; exact sl_all h0)
    exact h1'

theorem collect1_c {sp dx oc hd wt p1 : Addr} {H : Hk} {n fr c : Int} {t1 t2 t3 t4 t5 s1 r1 : Tok} {vs : List Value} {ns : List Int} {u u' u1 : Nat} {a1 l1 : Int} (hi : IntsAre vs ns) (hn : n = ns.length) (hz : ns.length ≤ 1000)
    (o1 : @LT.lt Nat _ dx sp) (o2 : @LT.lt Nat _ sp oc) (o3 : @LT.lt Nat _ oc hd) (o4 : @LT.lt Nat _ hd wt) (lo : (hd == sysModules) = false) (kc : 0 ≤ c) (kc2 : c ≤ 1000) (kf : 0 ≤ fr) (kf2 : fr ≤ 1000)
    (h1 : 0 < l1) (b1 : a1 + l1 ≤ n)  (b2 : 0 ≤ a1) (c1 : @LT.lt Nat _ wt p1) :
    Ctr w mean mg mb 4 99 [.ref sp] (spL sp dx oc hd wt H n fr c t1 t2 t3 t4 t5 vs.toArray u #[.ref p1] u' ++ [(p1, listOf #[.int a1 s1, .int l1 r1] u1)])
      (fun hp r led' => ∃ vs' ns' x y z x1, led' = spL sp dx oc hd wt H n (n - l1) (c + 1) t1 t2 x t4 y (List.toArray vs') u #[.ref p1] u' ++ [(p1, listOf #[.int (n - l1) x1, .int l1 r1] u1)] ∧ r = .int ((n - l1) - fr) z ∧ IntsAre vs' ns' ∧
        ns'.length = ns.length ∧ sl ns' (n - l1) l1 = sl ns a1 l1 ∧ ∀ P : Int → Prop, (∀ x ∈ ns, P x) → ∀ x ∈ ns', P x) := by
  unfold Ctr
  k_fill
  intro dp un gd cn cs a' ccd cl outer A₀ base h₀ L m s Q E B F X N T hk hd' hu hret
  (try dsimp only [spL, List.cons_append, List.nil_append] at N)
  (refine wpAny_call ?_; k_dflt (refine' enter_defC (binds := [(Str.ofString "space", Value.ref sp)]) ?k1 ?k2 ?k3 ?k4 ?k5 ?kA ?kF ?kK ?k6 ?k7 ?k8 ?k9 ?kB ?kD ?_ ?c2 ?c3 ?c4; (case kA => exact rfl); (case kF => exact rfl); (case kK => assumption); (case k1 => k_asm); (case k2 => k_asm); (case k3 => k_asm); (case k4 => k_asm); (case k5 => k_asm); (case k6 => k_is); (case k7 => k_is); (case k8 => ktr_room); (case k9 => exact BindsTo.of_eq rfl); (case kB => exact rfl); (case kD => decide +kernel); (case c2 => exact rfl); (case c3 => exact rfl); (case c4 => exact rfl); k_whole; intro g' L' h' tk' cells' hL' kb' lt' F' N' Y' B' X' T'; (replace F' : Fr g' L' h' (fun y => if y = Str.ofString "space" then some (.ref sp) else none) := F'); (try simp only [AllLt, and_true] at lt'); k_cells Y'; (try simp only [List.cons_append, List.nil_append] at N'); (try dsimp only); (try k_fold)))
  k_steps
  refine' hret _ _ _ _ ?cF (news_sub ?cN ?cS) ?cK ⟨_, _, _, _, _, _, rfl, rfl, ?cI, chain1 ?w1 ?m1 ?e1 ?g1 hn h1 b1 b2⟩
  case cF => k_asm
  case cN => assumption
  case cS => ((try dsimp only [spL, List.cons_append, List.nil_append]); lcg_sub)
  case cK => exact KeepBut.fr kb' (by k_asm)
  case cI => l_ints
  (case w1 => with_reducible assumption); (case m1 => with_reducible assumption); (case e1 => with_reducible assumption); (case g1 => with_reducible assumption)
end

section
variable (w : World) (mean : ExcName → Option Value) (mg mb : Str → Option Value)
open KStt LCg
local macro_rules | `(tactic| walk_at "exec Assign cons ListComp") => `(tactic| (k_here; lct_look; k_dflt (refine LCt.Assign_ListComp_T (F₀ := by k_asm) (by rfl) (by with_unfolding_all rfl) (by with_unfolding_all rfl) (by decide) (by rfl) (by decide) (by rfl) (by rfl) (by rfl) ?_)))

theorem chain2 {n a1 a2 l1 l2 : Int} {ns ns1 ns2 ms1 ms2 : List Int}
    (w2 : ns2 = wr ns1 (n - l1 - l2).toNat ms2)
    (w1 : ns1 = wr ns (n - l1).toNat ms1)
    (m2 : ms2 = sl ns1 a2 (a2 + l2 - a2)) (e2 : (ms2.length : Int) = a2 + l2 - a2) (g2 : ns2.length = ns1.length)
    (m1 : ms1 = sl ns a1 (a1 + l1 - a1)) (e1 : (ms1.length : Int) = a1 + l1 - a1) (g1 : ns1.length = ns.length)
    (hn : n = ns.length) (h1 : 0 < l1) (h2 : 0 < l2) (b1 : a1 + l1 ≤ n) (b2 : a2 + l2 ≤ a1) (b3 : 0 ≤ a2) :
    ns2.length = ns.length ∧ sl ns2 (n - l1) l1 = sl ns a1 l1 ∧ sl ns2 (n - l1 - l2) l2 = sl ns a2 l2 ∧ ∀ P : Int → Prop, (∀ x ∈ ns, P x) → ∀ x ∈ ns2, P x := by
  refine ⟨by omega, ?_, ?_, ?_⟩
  · rw [w2, sl_wr_off (by omega) (by omega) (by omega) (by omega), w1, sl_wr_self (by omega) (by omega) (by omega), m1, show a1 + l1 - a1 = l1 by omega]
  · rw [w2, sl_wr_self (by omega) (by omega) (by omega), m2, show a2 + l2 - a2 = l2 by omega, w1, sl_wr_off (by omega) (by omega) (by omega) (by omega)]
  · intro P h0
    have h1' : ∀ x ∈ ns1, P x := by rw [w1]; exact wr_all h0 (by rw [m1]; exact sl_all h0)
    have h2' : ∀ x ∈ ns2, P x := by rw [w2]; exact wr_all h1' (by rw [m2]; exact sl_all h1')
    exact h2'

theorem collect2_c {sp dx oc hd wt p1 p2 : Addr} {H : Hk} {n fr c : Int} {t1 t2 t3 t4 t5 s1 r1 s2 r2 : Tok} {vs : List Value} {ns : List Int} {u u' u1 u2 : Nat} {a1 l1 a2 l2 : Int} (hi : IntsAre vs ns) (hn : n = ns.length) (hz : ns.length ≤ 1000)
    (o1 : @LT.lt Nat _ dx sp) (o2 : @LT.lt Nat _ sp oc) (o3 : @LT.lt Nat _ oc hd) (o4 : @LT.lt Nat _ hd wt) (lo : (hd == sysModules) = false) (kc : 0 ≤ c) (kc2 : c ≤ 1000) (kf : 0 ≤ fr) (kf2 : fr ≤ 1000)
    (h1 : 0 < l1) (h2 : 0 < l2) (b1 : a1 + l1 ≤ n) (b2 : a2 + l2 ≤ a1) (b3 : 0 ≤ a2) (c1 : @LT.lt Nat _ wt p1) (c2 : @LT.lt Nat _ p1 p2) :
    Ctr w mean mg mb 4 99 [.ref sp] (spL sp dx oc hd wt H n fr c t1 t2 t3 t4 t5 vs.toArray u #[.ref p1, .ref p2] u' ++ [(p1, listOf #[.int a1 s1, .int l1 r1] u1), (p2, listOf #[.int a2 s2, .int l2 r2] u2)])
      (fun hp r led' => ∃ vs' ns' x y z x1 x2, led' = spL sp dx oc hd wt H n (n - l1 - l2) (c + 1) t1 t2 x t4 y (List.toArray vs') u #[.ref p1, .ref p2] u' ++ [(p1, listOf #[.int (n - l1) x1, .int l1 r1] u1), (p2, listOf #[.int (n - l1 - l2) x2, .int l2 r2] u2)] ∧ r = .int ((n - l1 - l2) - fr) z ∧ IntsAre vs' ns' ∧
        ns'.length = ns.length ∧ sl ns' (n - l1) l1 = sl ns a1 l1 ∧ sl ns' (n - l1 - l2) l2 = sl ns a2 l2 ∧ ∀ P : Int → Prop, (∀ x ∈ ns, P x) → ∀ x ∈ ns', P x) := by
  unfold Ctr
  k_fill
  intro dp un gd cn cs a' ccd cl outer A₀ base h₀ L m s Q E B F X N T hk hd' hu hret
  (try dsimp only [spL, List.cons_append, List.nil_append] at N)
  (refine wpAny_call ?_; k_dflt (refine' enter_defC (binds := [(Str.ofString "space", Value.ref sp)]) ?k1 ?k2 ?k3 ?k4 ?k5 ?kA ?kF ?kK ?k6 ?k7 ?k8 ?k9 ?kB ?kD ?_ ?c2 ?c3 ?c4; (case kA => exact rfl); (case kF => exact rfl); (case kK => assumption); (case k1 => k_asm); (case k2 => k_asm); (case k3 => k_asm); (case k4 => k_asm); (case k5 => k_asm); (case k6 => k_is); (case k7 => k_is); (case k8 => ktr_room); (case k9 => exact BindsTo.of_eq rfl); (case kB => exact rfl); (case kD => decide +kernel); (case c2 => exact rfl); (case c3 => exact rfl); (case c4 => exact rfl); k_whole; intro g' L' h' tk' cells' hL' kb' lt' F' N' Y' B' X' T'; (replace F' : Fr g' L' h' (fun y => if y = Str.ofString "space" then some (.ref sp) else none) := F'); (try simp only [AllLt, and_true] at lt'); k_cells Y'; (try simp only [List.cons_append, List.nil_append] at N'); (try dsimp only); (try k_fold)))
  k_steps
  refine' hret _ _ _ _ ?cF (news_sub ?cN ?cS) ?cK ⟨_, _, _, _, _, _, _, rfl, rfl, ?cI, chain2 ?w2 ?w1 ?m2 ?e2 ?g2 ?m1 ?e1 ?g1 hn h1 h2 b1 b2 b3⟩
  case cF => k_asm
  case cN => assumption
  case cS => ((try dsimp only [spL, List.cons_append, List.nil_append]); lcg_sub)
  case cK => exact KeepBut.fr kb' (by k_asm)
  case cI => l_ints
  (case w2 => with_reducible assumption); (case m2 => with_reducible assumption); (case e2 => with_reducible assumption); (case g2 => with_reducible assumption)
  (case w1 => with_reducible assumption); (case m1 => with_reducible assumption); (case e1 => with_reducible assumption); (case g1 => with_reducible assumption)
end

section
variable (w : World) (mean : ExcName → Option Value) (mg mb : Str → Option Value)
open KStt LCg
local macro_rules | `(tactic| walk_at "exec Assign cons ListComp") => `(tactic| (k_here; lct_look; k_dflt (refine LCt.Assign_ListComp_T (F₀ := by k_asm) (by rfl) (by with_unfolding_all rfl) (by with_unfolding_all rfl) (by decide) (by rfl) (by decide) (by rfl) (by rfl) (by rfl) ?_)))

theorem chain3 {n a1 a2 a3 l1 l2 l3 : Int} {ns ns1 ns2 ns3 ms1 ms2 ms3 : List Int}
    (w3 : ns3 = wr ns2 (n - l1 - l2 - l3).toNat ms3)
    (w2 : ns2 = wr ns1 (n - l1 - l2).toNat ms2)
    (w1 : ns1 = wr ns (n - l1).toNat ms1)
    (m3 : ms3 = sl ns2 a3 (a3 + l3 - a3)) (e3 : (ms3.length : Int) = a3 + l3 - a3) (g3 : ns3.length = ns2.length)
    (m2 : ms2 = sl ns1 a2 (a2 + l2 - a2)) (e2 : (ms2.length : Int) = a2 + l2 - a2) (g2 : ns2.length = ns1.length)
    (m1 : ms1 = sl ns a1 (a1 + l1 - a1)) (e1 : (ms1.length : Int) = a1 + l1 - a1) (g1 : ns1.length = ns.length)
    (hn : n = ns.length) (h1 : 0 < l1) (h2 : 0 < l2) (h3 : 0 < l3) (b1 : a1 + l1 ≤ n) (b2 : a2 + l2 ≤ a1) (b3 : a3 + l3 ≤ a2) (b4 : 0 ≤ a3) :
    ns3.length = ns.length ∧ sl ns3 (n - l1) l1 = sl ns a1 l1 ∧ sl ns3 (n - l1 - l2) l2 = sl ns a2 l2 ∧ sl ns3 (n - l1 - l2 - l3) l3 = sl ns a3 l3 ∧ ∀ P : Int → Prop, (∀ x ∈ ns, P x) → ∀ x ∈ ns3, P x := by
  refine ⟨by omega, ?_, ?_, ?_, ?_⟩
  · rw [w3, sl_wr_off (by omega) (by omega) (by omega) (by omega), w2, sl_wr_off (by omega) (by omega) (by omega) (by omega), w1, sl_wr_self (by omega) (by omega) (by omega), m1, show a1 + l1 - a1 = l1 by omega]
  · rw [w3, sl_wr_off (by omega) (by omega) (by omega) (by omega), w2, sl_wr_self (by omega) (by omega) (by omega), m2, show a2 + l2 - a2 = l2 by omega, w1, sl_wr_off (by omega) (by omega) (by omega) (by omega)]
  · rw [w3, sl_wr_self (by omega) (by omega) (by omega), m3, show a3 + l3 - a3 = l3 by omega, w2, sl_wr_off (by omega) (by omega) (by omega) (by omega), w1, sl_wr_off (by omega) (by omega) (by omega) (by omega)]
  · intro P h0
    have h1' : ∀ x ∈ ns1, P x := by rw [w1]; exact wr_all h0 (by rw [m1]; exact sl_all h0)
    have h2' : ∀ x ∈ ns2, P x := by rw [w2]; exact wr_all h1' (by rw [m2]; exact sl_all h1')
    have h3' : ∀ x ∈ ns3, P x := by rw [w3]; exact wr_all h2' (by rw [m3]; exact sl_all h2')
    exact h3'

theorem collect3_c {sp dx oc hd wt p1 p2 p3 : Addr} {H : Hk} {n fr c : Int} {t1 t2 t3 t4 t5 s1 r1 s2 r2 s3 r3 : Tok} {vs : List Value} {ns : List Int} {u u' u1 u2 u3 : Nat} {a1 l1 a2 l2 a3 l3 : Int} (hi : IntsAre vs ns) (hn : n = ns.length) (hz : ns.length ≤ 1000)
    (o1 : @LT.lt Nat _ dx sp) (o2 : @LT.lt Nat _ sp oc) (o3 : @LT.lt Nat _ oc hd) (o4 : @LT.lt Nat _ hd wt) (lo : (hd == sysModules) = false) (kc : 0 ≤ c) (kc2 : c ≤ 1000) (kf : 0 ≤ fr) (kf2 : fr ≤ 1000)
    (h1 : 0 < l1) (h2 : 0 < l2) (h3 : 0 < l3) (b1 : a1 + l1 ≤ n) (b2 : a2 + l2 ≤ a1) (b3 : a3 + l3 ≤ a2) (b4 : 0 ≤ a3) (c1 : @LT.lt Nat _ wt p1) (c2 : @LT.lt Nat _ p1 p2) (c3 : @LT.lt Nat _ p2 p3) :
    Ctr w mean mg mb 4 99 [.ref sp] (spL sp dx oc hd wt H n fr c t1 t2 t3 t4 t5 vs.toArray u #[.ref p1, .ref p2, .ref p3] u' ++ [(p1, listOf #[.int a1 s1, .int l1 r1] u1), (p2, listOf #[.int a2 s2, .int l2 r2] u2), (p3, listOf #[.int a3 s3, .int l3 r3] u3)])
      (fun hp r led' => ∃ vs' ns' x y z x1 x2 x3, led' = spL sp dx oc hd wt H n (n - l1 - l2 - l3) (c + 1) t1 t2 x t4 y (List.toArray vs') u #[.ref p1, .ref p2, .ref p3] u' ++ [(p1, listOf #[.int (n - l1) x1, .int l1 r1] u1), (p2, listOf #[.int (n - l1 - l2) x2, .int l2 r2] u2), (p3, listOf #[.int (n - l1 - l2 - l3) x3, .int l3 r3] u3)] ∧ r = .int ((n - l1 - l2 - l3) - fr) z ∧ IntsAre vs' ns' ∧
        ns'.length = ns.length ∧ sl ns' (n - l1) l1 = sl ns a1 l1 ∧ sl ns' (n - l1 - l2) l2 = sl ns a2 l2 ∧ sl ns' (n - l1 - l2 - l3) l3 = sl ns a3 l3 ∧ ∀ P : Int → Prop, (∀ x ∈ ns, P x) → ∀ x ∈ ns', P x) := by
  unfold Ctr
  k_fill
  intro dp un gd cn cs a' ccd cl outer A₀ base h₀ L m s Q E B F X N T hk hd' hu hret
  (try dsimp only [spL, List.cons_append, List.nil_append] at N)
  (refine wpAny_call ?_; k_dflt (refine' enter_defC (binds := [(Str.ofString "space", Value.ref sp)]) ?k1 ?k2 ?k3 ?k4 ?k5 ?kA ?kF ?kK ?k6 ?k7 ?k8 ?k9 ?kB ?kD ?_ ?c2 ?c3 ?c4; (case kA => exact rfl); (case kF => exact rfl); (case kK => assumption); (case k1 => k_asm); (case k2 => k_asm); (case k3 => k_asm); (case k4 => k_asm); (case k5 => k_asm); (case k6 => k_is); (case k7 => k_is); (case k8 => ktr_room); (case k9 => exact BindsTo.of_eq rfl); (case kB => exact rfl); (case kD => decide +kernel); (case c2 => exact rfl); (case c3 => exact rfl); (case c4 => exact rfl); k_whole; intro g' L' h' tk' cells' hL' kb' lt' F' N' Y' B' X' T'; (replace F' : Fr g' L' h' (fun y => if y = Str.ofString "space" then some (.ref sp) else none) := F'); (try simp only [AllLt, and_true] at lt'); k_cells Y'; (try simp only [List.cons_append, List.nil_append] at N'); (try dsimp only); (try k_fold)))
  k_steps
  refine' hret _ _ _ _ ?cF (news_sub ?cN ?cS) ?cK ⟨_, _, _, _, _, _, _, _, rfl, rfl, ?cI, chain3 ?w3 ?w2 ?w1 ?m3 ?e3 ?g3 ?m2 ?e2 ?g2 ?m1 ?e1 ?g1 hn h1 h2 h3 b1 b2 b3 b4⟩
  case cF => k_asm
  case cN => assumption
  case cS => ((try dsimp only [spL, List.cons_append, List.nil_append]); lcg_sub)
  case cK => exact KeepBut.fr kb' (by k_asm)
  case cI => l_ints
  (case w3 => with_reducible assumption); (case m3 => with_reducible assumption); (case e3 => with_reducible assumption); (case g3 => with_reducible assumption)
  (case w2 => with_reducible assumption); (case m2 => with_reducible assumption); (case e2 => with_reducible assumption); (case g2 => with_reducible assumption)
  (case w1 => with_reducible assumption); (case m1 => with_reducible assumption); (case e1 => with_reducible assumption); (case g1 => with_reducible assumption)
end

section
variable (w : World) (mean : ExcName → Option Value) (mg mb : Str → Option Value)
open KStt LCg
local macro_rules | `(tactic| walk_at "exec Assign cons ListComp") => `(tactic| (k_here; lct_look; k_dflt (refine LCt.Assign_ListComp_T (F₀ := by k_asm) (by rfl) (by with_unfolding_all rfl) (by with_unfolding_all rfl) (by decide) (by rfl) (by decide) (by rfl) (by rfl) (by rfl) ?_)))

theorem chain4 {n a1 a2 a3 a4 l1 l2 l3 l4 : Int} {ns ns1 ns2 ns3 ns4 ms1 ms2 ms3 ms4 : List Int}
    (w4 : ns4 = wr ns3 (n - l1 - l2 - l3 - l4).toNat ms4)
    (w3 : ns3 = wr ns2 (n - l1 - l2 - l3).toNat ms3)
    (w2 : ns2 = wr ns1 (n - l1 - l2).toNat ms2)
    (w1 : ns1 = wr ns (n - l1).toNat ms1)
    (m4 : ms4 = sl ns3 a4 (a4 + l4 - a4)) (e4 : (ms4.length : Int) = a4 + l4 - a4) (g4 : ns4.length = ns3.length)
    (m3 : ms3 = sl ns2 a3 (a3 + l3 - a3)) (e3 : (ms3.length : Int) = a3 + l3 - a3) (g3 : ns3.length = ns2.length)
    (m2 : ms2 = sl ns1 a2 (a2 + l2 - a2)) (e2 : (ms2.length : Int) = a2 + l2 - a2) (g2 : ns2.length = ns1.length)
    (m1 : ms1 = sl ns a1 (a1 + l1 - a1)) (e1 : (ms1.length : Int) = a1 + l1 - a1) (g1 : ns1.length = ns.length)
    (hn : n = ns.length) (h1 : 0 < l1) (h2 : 0 < l2) (h3 : 0 < l3) (h4 : 0 < l4) (b1 : a1 + l1 ≤ n) (b2 : a2 + l2 ≤ a1) (b3 : a3 + l3 ≤ a2) (b4 : a4 + l4 ≤ a3) (b5 : 0 ≤ a4) :
    ns4.length = ns.length ∧ sl ns4 (n - l1) l1 = sl ns a1 l1 ∧ sl ns4 (n - l1 - l2) l2 = sl ns a2 l2 ∧ sl ns4 (n - l1 - l2 - l3) l3 = sl ns a3 l3 ∧ sl ns4 (n - l1 - l2 - l3 - l4) l4 = sl ns a4 l4 ∧ ∀ P : Int → Prop, (∀ x ∈ ns, P x) → ∀ x ∈ ns4, P x := by
  refine ⟨by omega, ?_, ?_, ?_, ?_, ?_⟩
  · rw [w4, sl_wr_off (by omega) (by omega) (by omega) (by omega), w3, sl_wr_off (by omega) (by omega) (by omega) (by omega), w2, sl_wr_off (by omega) (by omega) (by omega) (by omega), w1, sl_wr_self (by omega) (by omega) (by omega), m1, show a1 + l1 - a1 = l1 by omega]
  · rw [w4, sl_wr_off (by omega) (by omega) (by omega) (by omega), w3, sl_wr_off (by omega) (by omega) (by omega) (by omega), w2, sl_wr_self (by omega) (by omega) (by omega), m2, show a2 + l2 - a2 = l2 by omega, w1, sl_wr_off (by omega) (by omega) (by omega) (by omega)]
  · rw [w4, sl_wr_off (by omega) (by omega) (by omega) (by omega), w3, sl_wr_self (by omega) (by omega) (by omega), m3, show a3 + l3 - a3 = l3 by omega, w2, sl_wr_off (by omega) (by omega) (by omega) (by omega), w1, sl_wr_off (by omega) (by omega) (by omega) (by omega)]
  · rw [w4, sl_wr_self (by omega) (by omega) (by omega), m4, show a4 + l4 - a4 = l4 by omega, w3, sl_wr_off (by omega) (by omega) (by omega) (by omega), w2, sl_wr_off (by omega) (by omega) (by omega) (by omega), w1, sl_wr_off (by omega) (by omega) (by omega) (by omega)]
  · intro P h0
    have h1' : ∀ x ∈ ns1, P x := by rw [w1]; exact wr_all h0 (by rw [m1]; exact sl_all h0)
    have h2' : ∀ x ∈ ns2, P x := by rw [w2]; exact wr_all h1' (by rw [m2]; exact sl_all h1')
    have h3' : ∀ x ∈ ns3, P x := by rw [w3]; exact wr_all h2' (by rw [m3]; exact sl_all h2')
    have h4' : ∀ x ∈ ns4, P x := by rw [w4]; exact wr_all h3' (by rw [m4]; exact sl_all h3')
    exact h4'

theorem collect4_c {sp dx oc hd wt p1 p2 p3 p4 : Addr} {H : Hk} {n fr c : Int} {t1 t2 t3 t4 t5 s1 r1 s2 r2 s3 r3 s4 r4 : Tok} {vs : List Value} {ns : List Int} {u u' u1 u2 u3 u4 : Nat} {a1 l1 a2 l2 a3 l3 a4 l4 : Int} (hi : IntsAre vs ns) (hn : n = ns.length) (hz : ns.length ≤ 1000)
    (o1 : @LT.lt Nat _ dx sp) (o2 : @LT.lt Nat _ sp oc) (o3 : @LT.lt Nat _ oc hd) (o4 : @LT.lt Nat _ hd wt) (lo : (hd == sysModules) = false) (kc : 0 ≤ c) (kc2 : c ≤ 1000) (kf : 0 ≤ fr) (kf2 : fr ≤ 1000)
    (h1 : 0 < l1) (h2 : 0 < l2) (h3 : 0 < l3) (h4 : 0 < l4) (b1 : a1 + l1 ≤ n) (b2 : a2 + l2 ≤ a1) (b3 : a3 + l3 ≤ a2) (b4 : a4 + l4 ≤ a3) (b5 : 0 ≤ a4) (c1 : @LT.lt Nat _ wt p1) (c2 : @LT.lt Nat _ p1 p2) (c3 : @LT.lt Nat _ p2 p3) (c4 : @LT.lt Nat _ p3 p4) :
    Ctr w mean mg mb 4 99 [.ref sp] (spL sp dx oc hd wt H n fr c t1 t2 t3 t4 t5 vs.toArray u #[.ref p1, .ref p2, .ref p3, .ref p4] u' ++ [(p1, listOf #[.int a1 s1, .int l1 r1] u1), (p2, listOf #[.int a2 s2, .int l2 r2] u2), (p3, listOf #[.int a3 s3, .int l3 r3] u3), (p4, listOf #[.int a4 s4, .int l4 r4] u4)])
      (fun hp r led' => ∃ vs' ns' x y z x1 x2 x3 x4, led' = spL sp dx oc hd wt H n (n - l1 - l2 - l3 - l4) (c + 1) t1 t2 x t4 y (List.toArray vs') u #[.ref p1, .ref p2, .ref p3, .ref p4] u' ++ [(p1, listOf #[.int (n - l1) x1, .int l1 r1] u1), (p2, listOf #[.int (n - l1 - l2) x2, .int l2 r2] u2), (p3, listOf #[.int (n - l1 - l2 - l3) x3, .int l3 r3] u3), (p4, listOf #[.int (n - l1 - l2 - l3 - l4) x4, .int l4 r4] u4)] ∧ r = .int ((n - l1 - l2 - l3 - l4) - fr) z ∧ IntsAre vs' ns' ∧
        ns'.length = ns.length ∧ sl ns' (n - l1) l1 = sl ns a1 l1 ∧ sl ns' (n - l1 - l2) l2 = sl ns a2 l2 ∧ sl ns' (n - l1 - l2 - l3) l3 = sl ns a3 l3 ∧ sl ns' (n - l1 - l2 - l3 - l4) l4 = sl ns a4 l4 ∧ ∀ P : Int → Prop, (∀ x ∈ ns, P x) → ∀ x ∈ ns', P x) := by
  unfold Ctr
  k_fill
  intro dp un gd cn cs a' ccd cl outer A₀ base h₀ L m s Q E B F X N T hk hd' hu hret
  (try dsimp only [spL, List.cons_append, List.nil_append] at N)
  (refine wpAny_call ?_; k_dflt (refine' enter_defC (binds := [(Str.ofString "space", Value.ref sp)]) ?k1 ?k2 ?k3 ?k4 ?k5 ?kA ?kF ?kK ?k6 ?k7 ?k8 ?k9 ?kB ?kD ?_ ?c2 ?c3 ?c4; (case kA => exact rfl); (case kF => exact rfl); (case kK => assumption); (case k1 => k_asm); (case k2 => k_asm); (case k3 => k_asm); (case k4 => k_asm); (case k5 => k_asm); (case k6 => k_is); (case k7 => k_is); (case k8 => ktr_room); (case k9 => exact BindsTo.of_eq rfl); (case kB => exact rfl); (case kD => decide +kernel); (case c2 => exact rfl); (case c3 => exact rfl); (case c4 => exact rfl); k_whole; intro g' L' h' tk' cells' hL' kb' lt' F' N' Y' B' X' T'; (replace F' : Fr g' L' h' (fun y => if y = Str.ofString "space" then some (.ref sp) else none) := F'); (try simp only [AllLt, and_true] at lt'); k_cells Y'; (try simp only [List.cons_append, List.nil_append] at N'); (try dsimp only); (try k_fold)))
  k_steps
  refine' hret _ _ _ _ ?cF (news_sub ?cN ?cS) ?cK ⟨_, _, _, _, _, _, _, _, _, rfl, rfl, ?cI, chain4 ?w4 ?w3 ?w2 ?w1 ?m4 ?e4 ?g4 ?m3 ?e3 ?g3 ?m2 ?e2 ?g2 ?m1 ?e1 ?g1 hn h1 h2 h3 h4 b1 b2 b3 b4 b5⟩
  case cF => k_asm
  case cN => assumption
  case cS => ((try dsimp only [spL, List.cons_append, List.nil_append]); lcg_sub)
  case cK => exact KeepBut.fr kb' (by k_asm)
  case cI => l_ints
  (case w4 => with_reducible assumption); (case m4 => with_reducible assumption); (case e4 => with_reducible assumption); (case g4 => with_reducible assumption)
  (case w3 => with_reducible assumption); (case m3 => with_reducible assumption); (case e3 => with_reducible assumption); (case g3 => with_reducible assumption)
  (case w2 => with_reducible assumption); (case m2 => with_reducible assumption); (case e2 => with_reducible assumption); (case g2 => with_reducible assumption)
  (case w1 => with_reducible assumption); (case m1 => with_reducible assumption); (case e1 => with_reducible assumption); (case g1 => with_reducible assumption)
end

/-- making an exception of a class of the text that has an `__init__` of its own -/
theorem call_excOwn {prog : Program} {w : World} {A : Around} {R : Result → Shared → Prop} {h : Heap} {g : Array GenState} {d : Drawn} {t : Nat} {os : OsState}
    {nm q : Str} {C N fI : Addr} {bs bm : List Value} {hdct : Bool} {sn : List Str} {sub : List Value} {ab : Bool} {col : Option Bool} {dd : Option Addr} {k0 k1 k2 k3 k5 : Option Value} {B newId initId : String}
    (F : ExcBaseFacts B newId initId bm) {mN : Str → Option Value} {of : Obj} {rest : List Value}
    (hC : h.get? C = some (excClassObj nm q C N bs bm hdct sn sub ab col dd k0 k1 k2 k3 k5 newId)) (hn : h.Ns N mN) (hni : mN "__init__" = some (.ref fI)) (hf : h.get? fI = some of) (hfc : of.cls = .type "function")
    (hq : codeAny (model prog w) (A.under (.builtin "type.__call__" ⟨.ref C :: rest, []⟩)) (.call (.ref fI) ⟨.ref (h.objs.size + 1) :: rest, []⟩) (InitBack (h.objs.size + 1) R)
      ⟨(h.push { cls := .type "tuple", data := .seq rest.toArray }).push { cls := .ref C, data := .fields #[.ref h.objs.size, .none, .none, .none, .bool false, .none] }, g, d, t, os⟩)
    (hrest : rest.length ≤ sizeLine := by size_fits) : codeAny (model prog w) A (.call (.ref C) ⟨rest, []⟩) R ⟨h, g, d, t, os⟩ := by
  have f1 := tc_lookup
  have f2 := tc_bind (.ref C)
  have hT : (⟨h, g, d, t, os⟩ : Shared).TypeIs (.ref C) "type" := ⟨_, hC, rfl⟩
  refine codeAny_of_tree ?_
  show wpAny _ _ (callAny (.ref C) _) _ _ _
  repeat (any_goals (first | assumption | with_reducible refine wpAny_loadPart_at hC ?_ | wp_step))
  refine ⟨rfl, codeAny_call_builtin_at (Code.quiet_builtin _ (by decide +kernel)) entry_typeCall (wpAny_check_type_call_sub hC ?_)⟩
  unfold Builtin.«type.__call__»
  repeat (first | with_reducible refine wpAny_loadPart_at hC ?_ | with_reducible refine wpAny_madeBy_exc hC ?_ | wp_step)
  refine codeAny_call_builtin_code (Code.quiet_builtin _ F.quiet) (wpAny_check_new_sub F hC (codeAny_exc_new_sub F hC ?_ hrest))
  show wpAny _ _ _ _ _ ⟨(h.push { cls := .type "tuple", data := .seq rest.toArray }).push { cls := .ref C, data := .fields #[.ref h.objs.size, .none, .none, .none, .bool false, .none] }, g, d, t, os⟩
  generalize hh : (h.push { cls := .type "tuple", data := .seq rest.toArray }).push { cls := .ref C, data := .fields #[.ref h.objs.size, .none, .none, .none, .bool false, .none] } = h₁ at *
  have up : ∀ b o, h.get? b = some o → h₁.get? b = some o := fun b o e => hh ▸ Heap.get?_push_of_some _ (Heap.get?_push_of_some _ e)
  have hC₁ := up _ _ hC
  have hn₁ : h₁.Ns N mN := let ⟨o, es, ep, e, r⟩ := hn; ⟨o, es, ep, up _ _ e, r⟩
  have hget : h₁.get? (h.objs.size + 1) = some { cls := .ref C, data := .fields #[.ref h.objs.size, .none, .none, .none, .bool false, .none] } := by rw [← hh]; heap_get
  have hf₁ := up _ _ hf
  have hcC : (Value.ref C :: bm).contains (.ref C) = true := by simp
  unfold isInstance
  repeat (first | with_reducible refine wpAny_loadPart_at hget ?_ | wp_step)
  show wpAny _ _ (isSubtype (.ref C) (.ref C)) _ _ _
  refine wpAny_isSubtype_exc hC₁ ?_
  rw [hcC]
  repeat wp_step
  show wpAny _ _ (typeLookup (.ref C) _) _ _ _
  refine wpAny_typeLookup_exc hC₁ hn₁ F.mroIs F.init.lookup ?_
  rw [hni]
  refine wpAny_holding (wpAny_bind (wpAny_bindSpecial_def (s := ⟨h₁, g, d, t, os⟩) hf₁ hfc ?_))
  refine wpAny_bind (wpAny_call (codeAny_mono hq fun r s' z => ?_))
  rcases r with e | (v | _ | _ | _) <;> first | exact z | exact z.elim | skip
  obtain ⟨rfl, z⟩ := z
  repeat wp_step
  exact z

theorem ns_some_of {K : Frag} {h : Heap} {N : Addr} {mg : Str → Option Value} {n : Str} {v : Value} (X : K.In h) (G : h.Ns N mg) (e : nsIn K N n = some (some v)) : mg n = some v := by
  obtain ⟨o, es, ep, ho, hd, _, hf⟩ := G
  unfold nsIn at e
  split at e
  · rename_i c d es' n' sl q
    have := X _ _ q
    rw [ho] at this
    cases this
    cases hd
    split at e
    · rename_i en he
      rw [← hf]
      unfold nsFind findBy
      rw [← Array.find?_toList, he]
      cases e
      rfl
    · split at e <;> cases e
  · cases e

abbrev excObj (C t : Addr) : Obj := { cls := .ref C, data := .fields #[.ref t, .none, .none, .none, .bool false, .none] }
abbrev tup1 (vs : List Value) : Obj := { cls := .type "tuple", data := .seq vs.toArray }

theorem exc_K {prog : Program} {w : World} {A : Around} {K : Frag} {s : Shared} {h₀ : Heap} {L : Addr} {m : Str → Option Value} {news : List (Addr × Obj)} {R : Result → Shared → Prop}
    {nm q : Str} {C N fI : Addr} {bs bm : List Value} {hdct : Bool} {sn : List Str} {sub : List Value} {ab : Bool} {col : Option Bool} {dd : Option Addr} {k0 k1 k2 k3 k5 : Option Value} {B newId initId : String} {rest : List Value} {of : Obj}
    (FB : ExcBaseFacts B newId initId bm) (F : Fr h₀ L s.heap m) (Nw : News h₀ L s.heap news) (X : K.In h₀)
    (hC : K.lookup C = some (excClassObj nm q C N bs bm hdct sn sub ab col dd k0 k1 k2 k3 k5 newId)) (hok : nsOkIn K N = true) (hni : nsIn K N "__init__" = some (some (.ref fI))) (hf : K.lookup fI = some of) (hfc : of.cls = .type "function")
    (h : ∀ e t h', Fr h₀ L h' m → News h₀ L h' ((e, excObj C t) :: (t, tup1 rest) :: news) → (∀ p ∈ news, p.1 < t) → t < e →
      codeAny (model prog w) (A.under (.builtin "type.__call__" ⟨.ref C :: rest, []⟩)) (.call (.ref fI) ⟨.ref e :: rest, []⟩) (InitBack e R) { s with heap := h' })
    (hrest : rest.length ≤ sizeLine) : codeAny (model prog w) A (.call (.ref C) ⟨rest, []⟩) R s := by
  have X' := X.keeps F.keep
  obtain ⟨hh, g, d, t, os⟩ := s
  refine call_excOwn (t := t) FB (X' _ _ hC) (.of_isNs (isNs_of_in X' hok)) (ns_some_of X' (.of_isNs (isNs_of_in X' hok)) hni) (X' _ _ hf) hfc ?_ hrest
  have N' := (Nw.push F (tup1 rest)).push (F.push _) (excObj C hh.objs.size)
  rw [Heap.size_push] at N'
  exact h _ hh.objs.size _ ((F.push _).push _) N' (fun p hp => Heap.lt_size (Nw p hp).1) (Nat.lt_succ_self _)

theorem wd_slot : Slot "wrapper_descriptor" "__get__" "wrapper_descriptor.__get__" := .of (owner := "wrapper_descriptor") (n := "__get__") (by rw [typeLookup_type, builtinLookup_eq_fast]; kernel_rfl) (by decide +kernel) (by decide +kernel) (by decide +kernel)
  (by first | exact .inl (by decide +kernel) | exact .inr (by decide +kernel)) (by rw [isSubtype_type]; kernel_rfl)
theorem wd_entry : entryFor table "wrapper_descriptor.__get__" = some Builtin.«wrapper_descriptor.__get__» := entryFor_of_tree (by kernel_rfl)
theorem wd_args (a b c : Value) : argsOk "wrapper_descriptor.__get__" ⟨[a, b, c], []⟩ := by unfold argsOk; kernel_rfl
theorem wd_type : typeOf (.builtin "Exception.__init__") = pure (.type "wrapper_descriptor") := by kernel_rfl

abbrev mwObj (id : String) (x : Addr) : Obj := { cls := .type "method-wrapper", data := .fields #[.builtin id, .ref x] }

section
variable {prog : Program} {w : World} {A : Around} {E : Value → Shared → Prop} {h : Heap} {g : Array GenState} {d : Drawn} {t : Nat} {os : OsState}
theorem wd_run {x C : Addr} {ox : Obj} {K : Frag} {Q : Fin → Shared → Prop} (X : K.In h) (hx : h.get? x = some ox) (hxc : ox.cls = .ref C) (hsub : mroIn K C (.type "Exception") = some true)
    (hq : Q (.done (.ret (.ref h.objs.size))) ⟨h.push (mwObj "Exception.__init__" x), g, d, t, os⟩) :
    wpAny (model prog w) A (Builtin.«wrapper_descriptor.__get__» ⟨[.builtin "Exception.__init__", .ref x, .ref C], []⟩) Q E ⟨h, g, d, t, os⟩ := by
  have ho := looks_mroIn (M := model prog w) X hsub
  unfold Builtin.«wrapper_descriptor.__get__»
  repeat (first | (with_reducible refine wpAny_loadPart_at hx ?_; rw [hxc]) | (with_reducible refine Looks.at ho ?_) | wp_step)
  rw [show ".".intercalate (("Exception.__init__".cutAt '.').dropLast) = "Exception" from by decide +kernel]
  refine Looks.at ho ?_
  repeat (first | (with_reducible refine wpAny_newObj_type ?_ (by size_fits)) | wp_step)
  exact hq

theorem super_gaB {so D x C : Addr} {ox : Obj} {l₀ l : List Value} {K : Frag} {tk : Tok} {Q : Fin → Shared → Prop}
    (hso : h.get? so = some { cls := .type "super", dict := none, data := .fields #[.ref D, .ref x, .ref C], slots := #[] }) (hno : Looks (model prog w) h (opaqueClassAbove (.ref C)) none)
    (hC : Looks (model prog w) h (mroOf (.ref C)) l₀) (hl : (l₀.dropWhile (· != .ref D)).drop 1 = l) (X : K.In h)
    (hf : alongIn K (Str.ofString "__init__") l = some (some (.builtin "Exception.__init__"))) (hx : h.get? x = some ox) (hxc : ox.cls = .ref C) (hsub : mroIn K C (.type "Exception") = some true) (hxC : x ≠ C)
    (hq : Q (.done (.ret (.ref h.objs.size))) ⟨h.push (mwObj "Exception.__init__" x), g, d, t, os⟩) :
    wpAny (model prog w) A (Builtin.«super.__getattribute__» ⟨[.ref so, .str (Str.ofString "__init__") tk], []⟩) Q E ⟨h, g, d, t, os⟩ := by
  have hlk := wd_slot.lookup
  have hne : (Value.ref x == Value.ref C) = false := by simp [hxC]
  have hTf : (⟨h, g, d, t, os⟩ : Shared).TypeIs (.builtin "Exception.__init__") "wrapper_descriptor" := wd_type
  have hdt : ({ cls := .type "super", dict := none, data := .fields #[.ref D, .ref x, .ref C], slots := #[] } : Obj).data = .fields #[.ref D, .ref x, .ref C] := rfl
  have f0 : (#[.ref D, .ref x, .ref C] : Array Value)[0]? = some (.ref D) := rfl
  have f1 : (#[.ref D, .ref x, .ref C] : Array Value)[1]? = some (.ref x) := rfl
  have f2 : (#[.ref D, .ref x, .ref C] : Array Value)[2]? = some (.ref C) := rfl
  have hn : (Str.ofString "__init__" == ("__class__" : Str)) = false := by decide
  unfold Builtin.«super.__getattribute__»
  repeat (first
    | (with_reducible refine wpAny_field hso hdt f0 ?_) | (with_reducible refine wpAny_field hso hdt f1 ?_) | (with_reducible refine wpAny_field hso hdt f2 ?_)
    | (with_reducible refine ks_wpAny_notOpaque hno ?_)
    | (with_reducible refine Looks.at hC ?_; rw [hl])
    | (refine ks_forIn_along X (fun _ _ => rfl) rfl ?_ hf)
    | (with_reducible refine wpAny_typeOf hTf ?_)
    | ((with_reducible refine wpAny_call_entry wd_slot hTf wd_entry ?_ (wd_args _ _ _)); (try rw [hne, if_neg (by decide)]); refine wd_run X hx hxc hsub ⟨_, rfl, ?_⟩)
    | (simp only [hn, hne, Bool.or_false, Bool.false_eq_true, if_false])
    | wp_step
    | dsimp only)
  all_goals exact hq
end

section
variable {prog : Program} {w : World} {A : Around} {E : Value → Shared → Prop} {s : Shared} {h₀ : Heap} {L : Addr} {m : Str → Option Value} {news : List (Addr × Obj)} {K : Frag} {x C D so : Addr} {ox : Obj} {odx : Option Obj}
theorem superB_method {pl : Sem Bool} {Q : Value × List Value → Shared → Prop} (F : Fr h₀ L s.heap m) (X₀ : K.In h₀) (N : News h₀ L s.heap news) (hso : (so, ks_superObj D x C) ∈ news) (I : InstAt s.heap x ox C odx) (ho : nsIn K cStatics "thirdparty.any" = some none)
    (hm : ks_superIn K C D (Str.ofString "__init__") = some (some (.builtin "Exception.__init__"))) (hsub : mroIn K C (.type "Exception") = some true)
    (h : ∀ q h', Fr h₀ L h' m → News h₀ L h' ((q, mwObj "Exception.__init__" x) :: news) → (∀ p ∈ news, p.1 < q) → Q (.ref q, []) { s with heap := h', toks := s.toks + 1 }) : wpAny (model prog w) A (getMethod (.ref so) (Str.ofString "__init__") pl) Q E s := by
  have X : K.In s.heap := X₀.keeps F.keep
  obtain ⟨hh, g, d, t, os⟩ := s
  cases hc : clsIn K C with
  | none => unfold ks_superIn at hm; rw [hc] at hm; cases hm
  | some cd =>
    unfold ks_superIn at hm
    rw [hc] at hm
    have hC : Looks (model prog w) hh (mroOf (.ref C)) cd.mro := fun A Q E s k q => wpAny_bind ((looks_clsIn X hc) A _ E s k (wpAny_pure q))
    have hlk := PySem.F.ks_slot_super_ga.lookup
    have hcan := PySem.F.ks_canon_super_ga
    have hso' := (N _ hso).1
    have hT : ∀ t', (⟨hh, g, d, t', os⟩ : Shared).TypeIs (.ref so) "super" := fun _ => ⟨_, hso', rfl⟩
    obtain ⟨F', N', l'⟩ := ks_newsPush (s := ⟨hh, g, d, t, os⟩) (o := mwObj "Exception.__init__" x) F N rfl (Heap.get?_push_at rfl rfl) (fun b o e => Heap.get?_push_of_some _ e)
    have hq := h _ _ F' N' l'
    unfold getMethod
    refine wpAny_bind (wpAny_specialOf (hT _) hlk ?_)
    dsimp only
    rw [if_pos hcan]
    unfold getAttr getAttrBy
    refine wpAny_bind (wpAny_bind (wpAny_mkText (wpAny_holding (wpAny_bind (wpAny_typeOf (hT _) (wpAny_bind (wpAny_of_eq hlk ?_)))))))
    show wpAny _ _ (getAttrByItsOwn (.ref so) (.str (Str.ofString "__init__") t) (.type "super") (.builtin "super.__getattribute__") true false) _ _ _
    unfold getAttrByItsOwn hookBefore callGetattribute boundAndCalled
    refine wpAny_bind (wpAny_of_eq (show (if onTheHeap (.type "super") then typeLookup (.type "super") "__getattr__" else pure none) = pure none from rfl) ?_)
    refine wpAny_bind (wpAny_attempt (wpAny_holding ?_))
    show wpAny _ _ (bindSpecial (.builtin "super.__getattribute__") (.ref so) >>= _) _ _ _
    refine wpAny_bind (wpAny_of_eq (PySem.F.ks_slot_super_ga.bind _) ?_)
    refine wpAny_mono (Q := fun v s' => v = .ref hh.objs.size ∧ s' = ⟨hh.push (mwObj "Exception.__init__" x), g, d, t + 1, os⟩) (E := fun _ _ => False)
      (wpAny_call_entry PySem.F.ks_slot_super_ga (hT _) PySem.F.ks_entry_super_ga (super_gaB hso' (looks_opaque X ho) hC rfl X hm I.at_ I.cls hsub (ks_ne X I hc) ⟨_, rfl, rfl, rfl⟩) (PySem.F.ks_gaArgs_super _ _)) (fun v s' hv => ?_) fun _ _ z => z.elim
    obtain ⟨rfl, rfl⟩ := hv
    exact wpAny_pure (wpAny_pure hq)
end

/-- the call of `super().__init__` of an exception: its arguments are laid anew -/
theorem mw_call {prog : Program} {w : World} {A : Around} {E : Value → Shared → Prop} {s : Shared} {h₀ : Heap} {L : Addr} {m : Str → Option Value} {news rest : List (Addr × Obj)}
    {nm q : Str} {C N : Addr} {bs bm : List Value} {hdct : Bool} {sn : List Str} {sub : List Value} {ab : Bool} {col : Option Bool} {dd : Option Addr} {k0 k1 k2 k3 k5 : Option Value} {newId : String}
    {e t mw : Addr} {v : Value} {Q : Value → Shared → Prop} (FB : ExcBaseFacts "Exception" newId "Exception.__init__" bm) 
    (hC : s.heap.get? C = some (excClassObj nm q C N bs bm hdct sn sub ab col dd k0 k1 k2 k3 k5 newId)) (F : Fr h₀ L s.heap m) (Nw : News h₀ L s.heap news) (hmw : (mw, mwObj "Exception.__init__" e) ∈ news) (he : (e, excObj C t) ∈ news) (hr : ∀ p ∈ rest, p ∈ news) (hre : ∀ p ∈ rest, p.1 ≠ e)
    (h : ∀ t' h', Fr h₀ L h' m → News h₀ L h' ((e, excObj C t') :: (t', tup1 [v]) :: rest) → (∀ p ∈ news, p.1 < t') → Q .none { s with heap := h' }) : wpAny (model prog w) A (call (.ref mw) [v]) Q E s := by
  obtain ⟨hh, g, d, tk, os⟩ := s
  have hm := (Nw _ hmw).1
  have hx := (Nw _ he).1
  dsimp only at hm hx hC
  refine wpAny_call (codeAny_of_tree ?_)
  show wpAny _ _ (callAny (.ref mw) _) _ _ _
  unfold callAny
  refine wpAny_bind (wpAny_load hm ?_)
  repeat wp_step
  refine ⟨Code.quiet_builtin _ (by decide +kernel), codeAny_builtin FB.initEntry ?_⟩
  show wpAny _ _ (Builtin.«BaseException.__init__» ⟨[.ref e, v], []⟩) _ _ _
  unfold Builtin.«BaseException.__init__»
  wp_walk
  show Q .none ⟨(hh.push (tup1 [v])).update e (Obj.mapFields fun x => x.setIfInBounds 0 (Value.ref hh.objs.size)), g, d, tk, os⟩
  have N1 := Nw.push F (tup1 [v])
  have F1 := F.push (tup1 [v])
  have hx1 := Heap.get?_push_of_some (tup1 [v]) hx
  have self := Heap.get?_update_self (Obj.mapFields fun x => x.setIfInBounds 0 (Value.ref hh.objs.size)) hx1 rfl
  have other : ∀ b, b ≠ e → ((hh.push (tup1 [v])).update e (Obj.mapFields fun x => x.setIfInBounds 0 (Value.ref hh.objs.size))).get? b = (hh.push (tup1 [v])).get? b := fun b hb => Heap.get?_update_other _ _ (Ne.symm hb)
  refine h hh.objs.size _ ?_ ?_ fun p hp => Heap.lt_size (Nw p hp).1
  · exact F1.change ⟨Heap.size_update _ _ _, other⟩ (Nw _ he).2.1 (Nw _ he).2.2
  · intro p hp
    rcases List.mem_cons.mp hp with rfl | hp
    · exact ⟨self, (Nw _ he).2⟩
    · rcases List.mem_cons.mp hp with rfl | hp
      · exact ⟨(other _ (Nat.ne_of_gt (Heap.lt_size hx))).trans (N1 _ (.head _)).1, (N1 _ (.head _)).2⟩
      · exact ⟨(other _ (hre _ hp)).trans (N1 _ (.tail _ (hr _ hp))).1, (Nw _ (hr _ hp)).2⟩

theorem callWith_mw {M : Model} {A : Around} {E : Value → Shared → Prop} {s : Shared} {pos : Pos} {u x : Addr} {id : String} {first : List Value} {env : Env} {e : Expr} {rest : List Expr} {Q : Value → Shared → Prop}
    (h : wpAny M A (spliced (backTo pos (starEach (e :: rest) env))) (fun vs s₁ => s₁.heap.get? u = some (mwObj id x) ∧ wpAny M A (call (.ref u) (first ++ vs)) Q E s₁) E s)
    (he : starEach (e :: rest) env = (false, eval e env) :: starEach rest env := by rfl) (hplain : (backTo pos (starEach rest env)).any (·.1) = false := by rfl) :
    wpAny M A (callWith pos (.ref u) first (backTo pos (starEach (e :: rest) env)) []) Q E s := by
  have hp : (backTo pos (starEach (e :: rest) env)).any (·.1) = false := by rw [he]; show (false || (backTo pos (starEach rest env)).any (·.1)) = false; rw [hplain]; rfl
  have hev : wpAny M A (evalArgs (.ref u) true (backTo pos (starEach (e :: rest) env)) []) (fun a s₁ => s₁.heap.get? u = some (mwObj id x) ∧ wpAny M A (call (.ref u) (first ++ a.pos) a.kw) Q E s₁) E s := by
    rw [he] at h ⊢
    exact evalArgs_plain h
  unfold callWith
  refine wpAny_bind (wpAny_holding (wpAny_mono hev (fun y s₁ h₁ => wpAny_bind (wpAny_standAt ?_)) fun _ _ z => z))
  obtain ⟨ho, hcall⟩ := h₁
  simp only [hp, List.any_nil, Bool.or_false]
  refine wpAny_bind (m := keeperOf (.ref u)) ?_
  unfold keeperOf
  refine wpAny_bind (wpAny_load ho ?_)
  simp only [show (Value.type "method-wrapper" != Value.type "method") = true by decide, show (Value.type "method-wrapper" == Value.type "builtin_function_or_method" || Value.type "method-wrapper" == Value.type "method-wrapper") = true by decide, if_true]
  refine wpAny_pure ?_
  exact wpAny_bind (wpAny_mono hcall (fun r s₂ hr => wpAny_bind (wpAny_holding (wpAny_point (wpAny_pure hr)))) fun _ _ z => z)

section
open Builtin Builtin.ObjectAttr
variable {prog : Program} {w : World} {A : Around} {E : Value → Shared → Prop} {h : Heap} {g : Array GenState} {d : Drawn} {t : Nat} {os : OsState}
theorem storeInDict_run {dx : Addr} {od od' : Obj} {name : Str} {tk : Tok} {v : Value} {es : List DictEntry} {n : Nat} {Q : PySem.Fin → Shared → Prop} (D : h.get? dx = some od) (hl : (lookIn name od).isSome = true)
    (e : Obj.putName name (PyData.keyHash w.params name) (.str name t) v od = od') (e' : od'.data = .dict es.toArray n) (hz : es.length ≤ 1000)
    (hq : ∀ h', Heap.SameBut dx h h' → h'.get? dx = some od' → Q (.done (.ret .none)) ⟨h', g, d, t + 1, os⟩) : wpAny (model prog w) A (storeInDict dx (.str name tk) name v) Q E ⟨h, g, d, t, os⟩ := by
  have D' : (h.update dx (Obj.putName name (PyData.keyHash w.params name) (.str name t) v)).get? dx = some od' := by
    have := Heap.get?_update_self (Obj.putName name (PyData.keyHash w.params name) (.str name t) v) D (by rw [e]; obtain ⟨_, _, dd, _⟩ := od'; cases e'; rfl)
    rw [this, e]
  unfold storeInDict newKeyGuard
  refine wpAny_bind (wpAny_pure (wpAny_bind ?_))
  unfold nsSet
  refine wpAny_bind (wpAny_bind (wpAny_askSetting (wpAny_pure (wpAny_bind (wpAny_mkText (wpAny_bind (wpAny_loadPart D ?_)))))))
  unfold lookIn at hl
  split at hl
  · rename_i es₀ n₀ q
    rw [q]
    dsimp only
    have c : (!es₀.any (·.key.isStr name) && es₀.any (·.refKey)) = false := by
      rw [← Array.any_toList, ← Array.any_toList]
      split at hl
      · rename_i en he
        rw [List.any_eq_true.mpr ⟨en, List.mem_of_find?_eq_some he, List.find?_some he⟩]; rfl
      · split at hl
        · cases hl
        · rename_i z; rw [Bool.not_eq_true] at z; rw [z, Bool.and_false]
    rw [aRefKeyMayBeTheName_at, c]
    refine wpAny_updatePart D ?_
    refine wpAny_bind (wpAny_lookBehind D' (by rw [e']; exact pastItsLine_dict (by rw [List.size_toArray, sizeLine_eq]; omega)) ?_)
    exact wpAny_pure (hq _ ⟨Heap.size_update _ _ _, fun b hb => Heap.get?_update_other _ _ (Ne.symm hb)⟩ D')
  · cases hl
end

section
open Builtin Builtin.ObjectAttr
variable {prog : Program} {w : World} {A : Around} {E : Value → Shared → Prop} {h : Heap} {g : Array GenState} {d : Drawn} {t : Nat} {os : OsState}
variable {nm q : Str} {C N x : Addr} {bs bm : List Value} {sn : List Str} {sub : List Value} {ab : Bool} {col : Option Bool} {dd : Option Addr} {k0 k1 k2 k3 k5 : Option Value} {B newId sa owner : String}
  {mN : Str → Option Value} {name : Str} {v : Value}
theorem exc_set0 {o od' : Obj} {es : List DictEntry} {n : Nat} {Q : Unit → Shared → Prop} (SF : StoreFacts B bm sa owner)
    (hC : h.get? C = some (excClassObj nm q C N bs bm true sn sub ab col dd k0 k1 k2 k3 k5 newId)) (hn : h.Ns N mN) (hns : mN "__setattr__" = none) (hna : mN name = none)
    (hB : typeLookup (.type B) name = pure none) (hx : h.get? x = some o) (hc : o.cls = .ref C) {vs : Array Value} (hdt : o.data = .fields vs) (hdn : o.dict = none)
    (e : Obj.putName name (PyData.keyHash w.params name) (.str name (t + 1)) v { cls := .type "dict", data := .dict #[] } = od') (e' : od'.data = .dict es.toArray n) (hz : es.length ≤ 1000)
    (hq : ∀ h', (∀ b ob, b ≠ x → h.get? b = some ob → h'.get? b = some ob) → h'.get? x = some { o with dict := some h.objs.size } → h'.get? h.objs.size = some od' → Q () ⟨h', g, d, t + 2, os⟩) :
    wpAny (model prog w) A (setAttr (.ref x) name v) Q E ⟨h, g, d, t, os⟩ := by
  have f3 := SF.slot.bind (.ref x)
  have hpass := SF.passes (.ref x)
  unfold setAttr callSpecial? specialOf
  repeat (any_goals (first | assumption | (with_reducible refine wpAny_loadPart_at hx ?_; rw [hc]) | (with_reducible refine wpAny_typeLookup_exc hC hn SF.mro SF.slot.lookup ?_; rw [hns]) | wp_step))
  refine codeAny_call_builtin SF.slot.plain SF.entry (wpAny_check_sa SF hC hx hc ?_)
  unfold Builtin.«object.__setattr__»
  repeat (first | rw [refuse_eq] | (rw [refuseLoop_ref, hpass]) | (with_reducible refine wpAny_loadPart_at hx ?_; rw [hc]) | with_reducible refine wpAny_mroOf_exc hC ?_ | (with_reducible refine wpAny_typeLookup_exc hC hn SF.mro hB ?_; rw [hna]) | wp_step)
  rw [hdn, hdt, if_neg (by simp [typeHasDict])]
  dsimp only
  have hx₁ : (h.push { cls := .type "dict", data := .dict #[] }).get? x = some o := Heap.get?_push_of_some _ hx
  have hxs : x ≠ h.objs.size := Nat.ne_of_lt (Heap.lt_size hx)
  have hfr : ({ cls := o.cls, dict := some h.objs.size, data := o.data, slots := o.slots } : Obj).isFreed = false := by rw [hdt]; rfl
  have hgd : ((h.push { cls := .type "dict", data := .dict #[] }).update x fun o => { cls := o.cls, dict := some h.objs.size, data := o.data, slots := o.slots }).get? h.objs.size = some { cls := .type "dict", data := .dict #[] } :=
    (Heap.get?_update_ne _ _ _ _ hxs.symm).trans (Heap.get?_push_at rfl rfl)
  refine wpAny_bind (wpAny_alloc' (wpAny_bind (wpAny_update' hx₁ (wpAny_pure ?_))))
  dsimp only
  refine storeInDict_run hgd (by rfl) e e' hz fun h' hs ho => ?_
  show wpAny _ _ (pure (some Value.none)) _ _ _
  refine wpAny_pure (wpAny_pure ?_)
  refine hq h' (fun b ob hbx hb => (hs.2 b (Nat.ne_of_lt (Heap.lt_size hb))).trans ((Heap.get?_update_ne _ _ _ _ hbx).trans (Heap.get?_push_of_some _ hb))) ?_ ho
  exact (hs.2 x hxs).trans (Heap.get?_update_self _ hx₁ hfr)

theorem exc_set1 {o od od' : Obj} {dx : Addr} {es : List DictEntry} {n : Nat} {Q : Unit → Shared → Prop} (SF : StoreFacts B bm sa owner)
    (hC : h.get? C = some (excClassObj nm q C N bs bm true sn sub ab col dd k0 k1 k2 k3 k5 newId)) (hn : h.Ns N mN) (hns : mN "__setattr__" = none) (hna : mN name = none)
    (hB : typeLookup (.type B) name = pure none) (hx : h.get? x = some o) (hc : o.cls = .ref C) (hdn : o.dict = some dx) (D : h.get? dx = some od) (hl : (lookIn name od).isSome = true)
    (e : Obj.putName name (PyData.keyHash w.params name) (.str name (t + 1)) v od = od') (e' : od'.data = .dict es.toArray n) (hz : es.length ≤ 1000)
    (hq : ∀ h', Heap.SameBut dx h h' → h'.get? dx = some od' → Q () ⟨h', g, d, t + 2, os⟩) :
    wpAny (model prog w) A (setAttr (.ref x) name v) Q E ⟨h, g, d, t, os⟩ := by
  have f3 := SF.slot.bind (.ref x)
  have hpass := SF.passes (.ref x)
  unfold setAttr callSpecial? specialOf
  repeat (any_goals (first | assumption | (with_reducible refine wpAny_loadPart_at hx ?_; rw [hc]) | (with_reducible refine wpAny_typeLookup_exc hC hn SF.mro SF.slot.lookup ?_; rw [hns]) | wp_step))
  refine codeAny_call_builtin SF.slot.plain SF.entry (wpAny_check_sa SF hC hx hc ?_)
  unfold Builtin.«object.__setattr__»
  repeat (first | rw [refuse_eq] | (rw [refuseLoop_ref, hpass]) | (with_reducible refine wpAny_loadPart_at hx ?_; rw [hc]) | with_reducible refine wpAny_mroOf_exc hC ?_ | (with_reducible refine wpAny_typeLookup_exc hC hn SF.mro hB ?_; rw [hna]) | wp_step)
  rw [hdn]
  refine wpAny_pure ?_
  dsimp only
  refine storeInDict_run D hl e e' hz fun h' hs ho => ?_
  show wpAny _ _ (pure (some Value.none)) _ _ _
  exact wpAny_pure (wpAny_pure (hq h' hs ho))
end

theorem fr_kept {h₀ h h' : Heap} {L x : Addr} {m : Str → Option Value} (F : Fr h₀ L h m) (k : ∀ b ob, b ≠ x → h.get? b = some ob → h'.get? b = some ob) (hL : L ≠ x) (hn : h₀.get? x = none) : Fr h₀ L h' m := by
  obtain ⟨oL, es, ep, hL', r⟩ := F.ns
  exact ⟨⟨oL, es, ep, k _ _ hL hL', r⟩, fun b o e => k b o (fun q => by rw [q, hn] at e; cases e) (F.keep b o e), F.above⟩

abbrev excO (dx t : Addr) : Obj := { cls := .ref 34, dict := some dx, data := .fields #[.ref t, .none, .none, .none, .bool false, .none] }
abbrev excD (h1 h2 : Int) (k1 k2 : Tok) (c l : Value) : Obj := dictOf [⟨h1, .str (Str.ofString "code") k1, c⟩, ⟨h2, .str (Str.ofString "told") k2, l⟩] 2

theorem exc_set_K0 {prog : Program} {w : World} {A : Around} {E : Value → Shared → Prop} {s : Shared} {h₀ : Heap} {L : Addr} {m : Str → Option Value} {led : List (Addr × Obj)} {K : Frag}
    {nm q : Str} {N : Addr} {bs : List Value} {sn : List Str} {sub : List Value} {ab : Bool} {col : Option Bool} {dd : Option Addr} {k0 k1 k2 k3 k5 : Option Value} {newId : String} {x t : Addr} {v : Value} {Q : Unit → Shared → Prop}
    (X₀ : K.In h₀) (hC : K.lookup 34 = some (excClassObj nm q 34 N bs [.type "Exception", .type "BaseException", .type "object"] true sn sub ab col dd k0 k1 k2 k3 k5 newId)) (hok : nsOkIn K N = true) (hns : nsIn K N "__setattr__" = some none) (hna : nsIn K N (Str.ofString "code") = some none)
    (F : Fr h₀ L s.heap m) (Nw : News h₀ L s.heap ((x, excObj 34 t) :: led)) (hx : ∀ p ∈ led, p.1 ≠ x)
    (h : ∀ dx h1 k1 h' tk', Fr h₀ L h' m → News h₀ L h' ((x, excO dx t) :: (dx, dictOf [⟨h1, .str (Str.ofString "code") k1, v⟩] 1) :: led) → (∀ p ∈ led, p.1 < dx) → x < dx → Q () { s with heap := h', toks := tk' }) :
    wpAny (model prog w) A (setAttr (.ref x) (Str.ofString "code") v) Q E s := by
  have X := X₀.keeps F.keep
  have hx0 := Nw _ (.head _)
  obtain ⟨hh, g, d, tk, os⟩ := s
  refine exc_set0 (od' := dictOf [⟨PyData.keyHash w.params (Str.ofString "code"), .str (Str.ofString "code") (tk + 1), v⟩] 1) PySem.F.store_Exception (X _ _ hC) (.of_isNs (isNs_of_in X hok)) (ns_none_of X (.of_isNs (isNs_of_in X hok)) hns) (ns_none_of X (.of_isNs (isNs_of_in X hok)) hna)
    (by rw [typeLookup_type, builtinLookup_eq_fast]; kernel_rfl) hx0.1 rfl rfl rfl (by rfl) rfl (Nat.le_of_ble_eq_true rfl) fun h' k1 k2 k3 => ?_
  have lt : ∀ p ∈ led, p.1 < hh.objs.size := fun p hp => Heap.lt_size (Nw p (.tail _ hp)).1
  refine h hh.objs.size (PyData.keyHash w.params (Str.ofString "code")) (tk + 1) h' (tk + 2) (fr_kept F k1 (Ne.symm hx0.2.1) hx0.2.2) (fun p hp => ?_) lt (Heap.lt_size hx0.1)
  rcases List.mem_cons.mp hp with rfl | hp
  · exact ⟨k2, hx0.2⟩
  · rcases List.mem_cons.mp hp with rfl | hp
    · obtain ⟨oL, es, ep, hL, r⟩ := F.ns
      exact ⟨k3, Nat.ne_of_gt (Heap.lt_size hL), F.fresh⟩
    · exact ⟨k1 _ _ (hx p hp) (Nw p (.tail _ hp)).1, (Nw p (.tail _ hp)).2⟩

theorem exc_set_K1 {prog : Program} {w : World} {A : Around} {E : Value → Shared → Prop} {s : Shared} {h₀ : Heap} {L : Addr} {m : Str → Option Value} {led : List (Addr × Obj)} {K : Frag}
    {nm q : Str} {N : Addr} {bs : List Value} {sn : List Str} {sub : List Value} {ab : Bool} {col : Option Bool} {dd : Option Addr} {k0 k1 k2 k3 k5 : Option Value} {newId : String} {x t dx : Addr} {v c : Value} {h1 : Int} {kc : Tok} {Q : Unit → Shared → Prop}
    (X₀ : K.In h₀) (hC : K.lookup 34 = some (excClassObj nm q 34 N bs [.type "Exception", .type "BaseException", .type "object"] true sn sub ab col dd k0 k1 k2 k3 k5 newId)) (hok : nsOkIn K N = true) (hns : nsIn K N "__setattr__" = some none) (hna : nsIn K N (Str.ofString "told") = some none)
    (F : Fr h₀ L s.heap m) (Nw : News h₀ L s.heap ((x, excO dx t) :: (dx, dictOf [⟨h1, .str (Str.ofString "code") kc, c⟩] 1) :: led)) (hx : ∀ p ∈ led, p.1 ≠ dx) (hxd : x ≠ dx)
    (h : ∀ h2 k2 h' tk', Fr h₀ L h' m → News h₀ L h' ((x, excO dx t) :: (dx, excD h1 h2 kc k2 c v) :: led) → Q () { s with heap := h', toks := tk' }) :
    wpAny (model prog w) A (setAttr (.ref x) (Str.ofString "told") v) Q E s := by
  have X := X₀.keeps F.keep
  have hx0 := Nw _ (.head _)
  have hd0 := Nw _ (.tail _ (.head _))
  obtain ⟨hh, g, d, tk, os⟩ := s
  refine exc_set1 (od' := excD h1 (PyData.keyHash w.params (Str.ofString "told")) kc (tk + 1) c v) PySem.F.store_Exception (X _ _ hC) (.of_isNs (isNs_of_in X hok)) (ns_none_of X (.of_isNs (isNs_of_in X hok)) hns) (ns_none_of X (.of_isNs (isNs_of_in X hok)) hna)
    (by rw [typeLookup_type, builtinLookup_eq_fast]; kernel_rfl) hx0.1 rfl rfl hd0.1 (by rfl) (by rfl) rfl (Nat.le_of_ble_eq_true rfl) fun h' hs k3 => ?_
  refine h (PyData.keyHash w.params (Str.ofString "told")) (tk + 1) h' (tk + 2) (F.change hs (hd0.2.1) hd0.2.2) (fun p hp => ?_)
  rcases List.mem_cons.mp hp with rfl | hp
  · exact ⟨(hs.2 _ hxd).trans hx0.1, hx0.2⟩
  · rcases List.mem_cons.mp hp with rfl | hp
    · exact ⟨k3, hd0.2⟩
    · exact ⟨(hs.2 _ (hx p hp)).trans (Nw p (.tail _ (.tail _ hp))).1, (Nw p (.tail _ (.tail _ hp))).2⟩

section
variable (w : World) (mean : ExcName → Option Value) (mg mb : Str → Option Value)
theorem make_exc {dp un : Nat} {gd : Option (List Code)} {cn : Str} {cs : Scope} {a : Addr} {ccd : Value} {cl : List (Str × Addr)} {outer : List Env} {A₀ : Around} {base h₀ : Heap} {L : Addr} {m : Str → Option Value} {s : Shared} {Q E : Value → Shared → Prop}
    {led : List (Addr × Obj)} {c : Str} {tc tl : Tok} {l : Int}
    (B : Below A₀ base outer h₀) (F : Fr h₀ L s.heap m) (X : (Mine.hd.heap_39 w.params).In h₀) (N : News h₀ L s.heap led) (T : Top Mine.hd.view_39 (looseW Mine.hd.view_39 [Str.ofString "BasicError"]) mean mg mb h₀) (hk : cs.kind = .function)
    (hd : dp + 2 < recursionLimit) (hu : un + 16 < cLine)
    (h : ∀ e dx t h1 h2 k1 k2 h' tk', Fr h₀ L h' m → News h₀ L h' ((e, excO dx t) :: (dx, excD h1 h2 k1 k2 (.str c tc) (.int l tl)) :: (t, tup1 [.str c tc]) :: led) → (∀ p ∈ led, p.1 < e) → e < t → t < dx → Q (.ref e) { s with heap := h', toks := tk' }) :
    wpAny (model PySem.Challenge.rw_xm0013_01.row.prog w) (ktrTop dp un gd cn cs L a ccd cl outer) (call (.ref 34) [.str c tc, .int l tl]) Q E s := by
  revert T N X
  k_fill
  intro X N T
  refine wpAny_call ?_
  refine' exc_K (fI := 31) PySem.F.excBase_Exception F N X ?C ?ok ?ni ?f ?fc ?_ (show 2 ≤ _ by decide)
  case C => exact rfl
  case ok => kernel_rfl
  case ni => k_is
  case f => exact rfl
  case fc => rfl
  intro e t h' F' N' lo l2
  have hoe : ∀ p ∈ led, p.1 ≠ e := fun p hp => Nat.ne_of_lt (Nat.lt_trans (lo p hp) l2)
  (refine' ks_code_super (binds := [(Str.ofString "self", Value.ref e), (Str.ofString "code", Value.str c tc), (Str.ofString "told", Value.int l tl)]) B F' X N' T ?kA ?kF ?kK ?k6 ?k7 ?k8 ?k9 ?kB ?_ ?c1 ?c2 ?c3 ?c4; (case kA => exact rfl); (case kF => exact rfl); (case kK => exact hk); (case k6 => k_is); (case k7 => k_is); (case k8 => ktr_room); (case k9 => exact BindsTo.of_defaults (T := 23) rfl ((X.keeps F'.keep) 23 _ rfl) rfl rfl rfl); (case kB => exact locs rfl); (case c1 => decide); (case c2 => exact rfl); (case c3 => exact rfl); (case c4 => exact rfl); intro g' L' h' FG' F' N' B' X' T' l1; (try k_lt l1); (try dsimp only); (try k_lift B'))
  refine ks_wpAt_execs_cons ?_
  refine ks_wpAt_Expr_any ?_
  refine ks_wpAt_MethodCall ?_
  (refine' ks_node (x := e) (C := 34) (D := 34) (f := 31) (cc := 18) (cda := 30) (ox := excObj 34 t) (odx := none) F' X' N' T' ?n1 ?n2 ?n3 ?n4 ?n5 ?n6 ?n7 ?n8 ?n9 ?n10 ?n11 ?n12 ?n13 ?n14 ?n15 ?n16 ?n17 ?n18 ?_; (case n1 => exact rfl); (case n2 => exact rfl); (case n3 => exact rfl); (case n4 => exact ⟨(N' _ (.head _)).1, rfl, rfl, trivial⟩); (case n5 => exact rfl); (case n6 => exact rfl); (case n7 => first | rfl | decide +kernel); (case n8 => exact rfl); (case n9 => exact rfl); (case n10 => exact rfl); (case n11 => k_is); (case n12 => decide); (case n13 => rfl); (case n14 => rfl); (case n15 => rfl); (case n16 => rfl); (case n17 => decide +kernel); (case n18 => first | boot_by_name | rfl | kernel_rfl))
  intro so' h' F' N' l1
  (try k_lt l1)
  (refine' superB_method (x := e) (C := 34) (D := 34) (ox := excObj 34 t) (odx := none) F' X' N' (.head _) ?g1 ?g2 ?g3 ?g4 ?_; (case g1 => exact ⟨(N' _ (.tail _ (.head _))).1, rfl, rfl, trivial⟩); (case g2 => k_is); (case g3 => kernel_rfl); (case g4 => kernel_rfl))
  intro q' h' F' N' l1
  (try k_lt l1)
  dsimp only
  refine callWith_mw (id := "Exception.__init__") (x := e) ?_
  k_steps
  · exact (N' _ (.head _)).1
  clear l1
  refine mw_call (rest := led) PySem.F.excBase_Exception ((X'.keeps F'.keep) 34 _ rfl) F' N' (.head _) (.tail _ (.tail _ (.head _))) (fun p hp => .tail _ (.tail _ (.tail _ (.tail _ hp)))) hoe ?_
  intro t' h' F' N' lt
  have het := lt _ (.tail _ (.tail _ (.head _)))
  clear lt
  k_steps
  refine exc_set_K0 (led := (t', tup1 [.str c tc]) :: led) X' (by exact rfl) (by kernel_rfl) (by k_is) (by k_is) F' N' ?_ ?_
  · intro p hp
    rcases List.mem_cons.mp hp with rfl | hp
    · exact Nat.ne_of_gt het
    · exact hoe p hp
  intro dx h1 k1 h' tk' F' N' lx ld
  k_steps
  refine exc_set_K1 (led := (t', tup1 [.str c tc]) :: led) X' (by exact rfl) (by kernel_rfl) (by k_is) (by k_is) F' N' (fun p hp => Nat.ne_of_lt (lx p hp)) (Nat.ne_of_lt ld) ?_
  intro h2 k2 h' tk' F' N'
  k_steps
  exact h _ _ _ _ _ _ _ _ _ (by assumption) (by assumption) (fun p hp => Nat.lt_trans (lo p hp) l2) het (lx _ (.head _))
end

/-- the objects' dicts stay where they were -/
def SameD (h h' : Heap) : Prop := ∀ (b : Addr) (o : Obj), h.objs[b]? = some o → ∃ o' : Obj, h'.objs[b]? = some o' ∧ o'.dict = o.dict
theorem SameD.refl (h : Heap) : SameD h h := fun _ o e => ⟨o, e, rfl⟩
theorem SameD.trans {h₁ h₂ h₃ : Heap} (x : SameD h₁ h₂) (y : SameD h₂ h₃) : SameD h₁ h₃ := fun b o e =>
  let ⟨o', e', d'⟩ := x b o e; let ⟨o'', e'', d''⟩ := y b o' e'; ⟨o'', e'', d''.trans d'⟩
theorem SameD.push (h : Heap) (o : Obj) : SameD h (h.push o) := fun b ob e => by
  obtain ⟨l, li⟩ := h
  exact ⟨ob, by show (l.push o)[b]? = _; have hb := (Array.getElem?_eq_some_iff.mp (show l[b]? = some ob from e)).1; rw [Array.getElem?_push, if_neg (Nat.ne_of_lt hb)]; exact e, rfl⟩
theorem SameD.update (h : Heap) (a : Addr) {f : Obj → Obj} (hf : ∀ o, (f o).dict = o.dict) : SameD h (h.update a f) := fun b ob e => by
  obtain ⟨l, li⟩ := h
  refine if hb : a = b then ⟨f ob, ?_, hf ob⟩ else ⟨ob, ?_, rfl⟩
  · show (l.modify a f)[b]? = _
    rw [Array.getElem?_modify, if_pos hb]; rw [show l[b]? = some ob from e]; rfl
  · show (l.modify a f)[b]? = _
    rw [Array.getElem?_modify, if_neg hb]; exact e

/-- trees that keep the objects' dicts -/
inductive DK {α : Type} : Sem α → Prop
  | pure (a : α) : DK (.pure a)
  | raise (e : Value) : DK (.raise e)
  | unsupported (what : String) : DK (.unsupported what)
  | finish (e : Ending) : DK (.finish e)
  | rule {t k} (h : ∀ u, DK (k u)) : DK (.rule t k)
  | at {p k} (h : ∀ u, DK (k u)) : DK (.at p k)
  | load {a p k} (h : ∀ o, DK (k o)) : DK (.load a p k)
  | update {a p f k} (hf : ∀ o, (f o).dict = o.dict) (h : ∀ u, DK (k u)) : DK (.update a p f k)
  | alloc {o k} (h : ∀ a, DK (k a)) : DK (.alloc o k)
  | register {a k} : DK (.register a k)
  | loadIfAlive {a k} (h : ∀ o, DK (k o)) : DK (.loadIfAlive a k)
  | point {l k} (h : ∀ u, DK (k u)) : DK (.point l k)
  | fresh {k} (h : ∀ u, DK (k u)) : DK (.fresh k)
  | ask {k} (h : ∀ u, DK (k u)) : DK (.ask k)
  | handled {o k} (h : ∀ u, DK (k u)) : DK (.handled o k)
  | stack {k} (h : ∀ u, DK (k u)) : DK (.stack k)

theorem DK.bind {α β : Type} {m : Sem α} {f : α → Sem β} (h : DK m) (hf : ∀ a, DK (f a)) : DK (m.bind f) := by
  induction h with
  | pure a => exact hf a
  | raise e => exact .raise e
  | unsupported w => exact .unsupported w
  | finish e => exact .finish e
  | rule _ ih => exact .rule ih
  | «at» _ ih => exact .at ih
  | load _ ih => exact .load ih
  | update g _ ih => exact .update g ih
  | alloc _ ih => exact .alloc ih
  | register => exact .register
  | loadIfAlive _ ih => exact .loadIfAlive ih
  | point _ ih => exact .point ih
  | fresh _ ih => exact .fresh ih
  | ask _ ih => exact .ask ih
  | handled _ ih => exact .handled ih
  | stack _ ih => exact .stack ih
theorem DK.bind' {α β : Type} {m : Sem α} {f : α → Sem β} (h : DK m) (hf : ∀ a, DK (f a)) : DK (m >>= f) := h.bind hf
theorem DK.pure' {α : Type} (a : α) : DK (Pure.pure a : Sem α) := .pure a
theorem DK.throw' {α : Type} (e : Value) : DK (throw e : Sem α) := .raise e

theorem DK.wp {α : Type} {t : Sem α} (h : DK t) {M : Model} {Γ : PySem.Ctx} {Q : α → Pos → Shared → Prop} {E : Value → Pos → Shared → Prop} {h₀ : Heap} : ∀ (p : Pos) (s : Shared), SameD h₀ s.heap → Sem.wp M Γ t Q E p s →
    Sem.wp M Γ t (fun a p' s' => Q a p' s' ∧ SameD h₀ s'.heap) (fun e p' s' => E e p' s' ∧ SameD h₀ s'.heap) p s := by
  induction h with
  | pure a => intro p s d w; simp only [Sem.wp] at w ⊢; exact ⟨w, d⟩
  | raise e => intro p s d w; simp only [Sem.wp] at w ⊢; exact ⟨w, d⟩
  | unsupported _ => intro p s d w; simp only [Sem.wp] at w
  | finish _ => intro p s d w; simp only [Sem.wp] at w
  | rule _ ih => intro p s d w; simp only [Sem.wp] at w ⊢; exact ih _ p s d w
  | «at» _ ih => intro p s d w; simp only [Sem.wp] at w ⊢; exact ih _ _ s d w
  | load _ ih => intro p s d w; simp only [Sem.wp] at w ⊢; obtain ⟨o, ho, w⟩ := w; exact ⟨o, ho, ih _ p s d w⟩
  | update g _ ih => intro p s d w; simp only [Sem.wp] at w ⊢; exact ⟨w.1, ih _ p _ (d.trans (SameD.update _ _ g)) w.2⟩
  | alloc _ ih => intro p s d w; simp only [Sem.wp] at w ⊢; exact ih _ p _ (d.trans (SameD.push _ _)) w
  | register => intro p s d w; simp only [Sem.wp] at w
  | loadIfAlive _ ih => intro p s d w; simp only [Sem.wp] at w ⊢; exact ih _ p s d w
  | point _ ih => intro p s d w; simp only [Sem.wp] at w ⊢; exact ih _ p s d w
  | fresh _ ih => intro p s d w; simp only [Sem.wp] at w ⊢; exact ih _ p _ d w
  | ask _ ih => intro p s d w; simp only [Sem.wp] at w ⊢; exact ih _ p s d w
  | handled _ ih => intro p s d w; simp only [Sem.wp] at w ⊢; exact ih _ p s d w
  | stack _ ih => intro p s d w; simp only [Sem.wp] at w ⊢; exact ih _ p s d w
theorem DK.any {α : Type} {t : Sem α} (h : DK t) {M : Model} {A : Around} {Q : α → Shared → Prop} {E : Value → Shared → Prop} {s : Shared}
    (w : wpAny M A t (fun a s' => SameD s.heap s'.heap → Q a s') (fun e s' => SameD s.heap s'.heap → E e s') s) : wpAny M A t Q E s := fun Γ p hΓ =>
  Sem.wp_mono M Γ t (fun _ _ _ x => x.1 x.2) (fun _ _ _ x => x.1 x.2) p s (h.wp p s (SameD.refl _) (w Γ p hΓ))

theorem dk_load (a : Addr) : DK (load a) := .load fun o => .pure o
theorem dk_stack : DK stack := .stack fun l => .pure l
theorem dk_alloc (o : Obj) : DK (alloc o) := .alloc fun a => .pure a
theorem dk_register (a : Addr) : DK (register a) := .register
theorem dk_update (a : Addr) {f : Obj → Obj} (hf : ∀ o, (f o).dict = o.dict) : DK (update a f) := .update hf fun u => .pure u
theorem dk_updatePart (a : Addr) (p : Option Value) {f : Obj → Obj} (hf : ∀ o, (f o).dict = o.dict) : DK (updatePart a p f) := .update hf fun u => .pure u
theorem mapFields_dict (f : Array Value → Array Value) (o : Obj) : (Obj.mapFields f o).dict = o.dict := by
  obtain ⟨c, d, dt, sl⟩ := o
  cases dt <;> rfl

local macro_rules | `(tactic| walk_at "DKK") => `(tactic| fail "DKK")
local macro_rules | `(tactic| walk_at "DK") => `(tactic| repeat' (first
  | exact DK.pure _ | exact DK.pure' _ | exact DK.raise _ | exact DK.throw' _ | exact DK.unsupported _ | exact dk_load _ | exact dk_stack | exact dk_alloc _ | exact dk_register _ | exact dk_update _ (fun _ => rfl) | exact dk_updatePart _ _ (fun _ => rfl) | exact dk_update _ (mapFields_dict _)
  | assumption | walk_at "DKK" | (with_reducible refine DK.bind' ?_ ?_) | intro _ | split | (with_reducible refine DK.bind ?_ ?_)))
theorem dk_fieldsOf (v : Value) : DK (fieldsOf v) := by unfold fieldsOf; walk_at "DK"
local macro_rules | `(tactic| walk_at "DKK") => `(tactic| exact dk_fieldsOf _)
theorem dk_field (v : Value) (i : Nat) : DK (field v i) := by unfold field; walk_at "DK"
local macro_rules | `(tactic| walk_at "DKK") => `(tactic| exact dk_field _ _)
theorem dk_loadPart (a : Addr) (p : Option Value) : DK (loadPart a p) := .load fun o => .pure o
local macro_rules | `(tactic| walk_at "DKK") => `(tactic| exact dk_loadPart _ _)
theorem dk_updateField (a : Addr) (i : Nat) (v : Value) : DK (updateField a i v) := by unfold updateField; walk_at "DK"
local macro_rules | `(tactic| walk_at "DKK") => `(tactic| exact dk_updateField _ _ _)
theorem dk_setField (v : Value) (i : Nat) (x : Value) : DK (setField v i x) := by unfold setField; walk_at "DK"
local macro_rules | `(tactic| walk_at "DKK") => `(tactic| exact dk_setField _ _ _)
theorem dk_setFlight (e : Value) (f : Option Addr) : DK (setFlight e f) := by unfold setFlight; walk_at "DK"
local macro_rules | `(tactic| walk_at "DKK") => `(tactic| exact dk_setFlight _ _)
theorem dk_under  : DK (underTheClaimsCaller) := by unfold underTheClaimsCaller; walk_at "DK"
local macro_rules | `(tactic| walk_at "DKK") => `(tactic| exact dk_under)
theorem dk_behind (env : Env) (l : List Env) : DK (behindIsImport env l) := by unfold behindIsImport; walk_at "DK"
local macro_rules | `(tactic| walk_at "DKK") => `(tactic| exact dk_behind _ _)
theorem dk_keptBack (env : Env) (b : Bool) : ∀ (l : List Env), DK (keptBack env b l)
  | [] => by unfold keptBack; walk_at "DK"
  | _ :: _ => by unfold keptBack; walk_at "DK"
local macro_rules | `(tactic| walk_at "DKK") => `(tactic| exact dk_keptBack _ _ _)
theorem dk_ready : ∀ (l : List Env), DK (readyFrames l)
  | [] => by unfold readyFrames; walk_at "DK"
  | env :: l => by
    have h3 := dk_ready l
    unfold readyFrames
    walk_at "DK"
local macro_rules | `(tactic| walk_at "DKK") => `(tactic| exact dk_ready _)
theorem dk_frameObject : ∀ (l : List Env), DK (frameObject l)
  | [] => by unfold frameObject; walk_at "DK"
  | env :: l => by unfold frameObject; walk_at "DK"
local macro_rules | `(tactic| walk_at "DKK") => `(tactic| exact dk_frameObject _)
theorem dk_frameEnvs  : DK (frameEnvs) := by unfold frameEnvs; walk_at "DK"
local macro_rules | `(tactic| walk_at "DKK") => `(tactic| exact dk_frameEnvs)
theorem dk_frameOf (env : Env) : DK (PySem.frameOf env) := by unfold PySem.frameOf; walk_at "DK"
local macro_rules | `(tactic| walk_at "DKK") => `(tactic| exact dk_frameOf _)
theorem dk_place (f : Addr) (b : Bool) : DK (entryPlaceOf f b) := by unfold entryPlaceOf; walk_at "DK"
local macro_rules | `(tactic| walk_at "DKK") => `(tactic| exact dk_place _ _)
theorem dk_classHasDel (c : Addr) : DK (classHasDel c) := by unfold classHasDel; walk_at "DK"
local macro_rules | `(tactic| walk_at "DKK") => `(tactic| exact dk_classHasDel _)
theorem dk_newObjAsIs (c : Value) (d : Data) (x : Option Addr) : DK (newObjAsIs c d x) := by unfold newObjAsIs; walk_at "DK"
local macro_rules | `(tactic| walk_at "DKK") => `(tactic| exact dk_newObjAsIs _ _ _)
theorem dk_newObj (c : Value) (d : Data) (x : Option Addr) : DK (newObj c d x) := by unfold newObj; walk_at "DK"
local macro_rules | `(tactic| walk_at "DKK") => `(tactic| exact dk_newObj _ _ _)
theorem dk_newEntry (a b c d e : Value) (p : List Value) : DK (EntryCells.newEntry a b c d e p) := by unfold EntryCells.newEntry newFields; walk_at "DK"
local macro_rules | `(tactic| walk_at "DKK") => `(tactic| exact dk_newEntry _ _ _ _ _ _)
theorem dk_noteFrame (e : Value) (env : Env) : DK (noteFrame e env) := by unfold noteFrame; walk_at "DK"
local macro_rules | `(tactic| walk_at "DKK") => `(tactic| exact dk_noteFrame _ _)
theorem dk_leaving (env : Env) (e : Value) : DK (leaving env e) := by unfold leaving; walk_at "DK"
local macro_rules | `(tactic| walk_at "DKK") => `(tactic| exact dk_leaving _ _)

/-- an exception of the text's class on its way through the frames -/
structure FlyB (B : Heap) (l : List Env) (e dx : Addr) (od : Obj) (as : List Addr) (led : List (Addr × Obj)) (h h' : Heap) : Prop where
  fly : ∃ a0, Heap.FlyingW B l e (.ref 34) a0 h'
  dict : ∃ o, h'.get? e = some o ∧ o.dict = some dx
  bd : B.get? dx = some od
  ledB : ∀ q ∈ led, B.get? q.1 = some q.2
  new : ∀ a, (a = e ∨ a = dx ∨ ∃ q ∈ led, q.1 = a) → ∀ o, h.get? a = some o → a ∈ as
  keep : ∀ b o, h.get? b = some o → b ∉ as → b ∉ l.filterMap (·.frame) → B.get? b = some o
  up : ∀ b o, h.get? b = some o → b ∉ as → (∀ vs, o.data ≠ .fields vs) → ∃ sl, h'.get? b = some { o with slots := sl }

theorem objs_of_get {h : Heap} {b : Addr} {o : Obj} (e : h.get? b = some o) : h.objs[b]? = some o := by
  unfold Heap.get? at e
  split at e
  · cases e
  · exact e
theorem dict_kept {h h' : Heap} {e dx : Addr} {o o' : Obj} (d : SameD h h') (h1 : h.get? e = some o) (hd : o.dict = some dx) (h2 : h'.get? e = some o') : o'.dict = some dx := by
  obtain ⟨o'', e1, e2⟩ := d e o (objs_of_get h1)
  have := objs_of_get h2
  rw [e1] at this
  cases this
  exact e2.trans hd

section
variable {M : Model} {A A' : Around} {E : Value → Shared → Prop} {s' : Shared} {base g s₀ : Heap} {l : List Env} {L e dx t : Addr} {m : Str → Option Value} {env : Env} {od : Obj} {Q : Unit → Shared → Prop} {led big led₁ rest : List (Addr × Obj)} {as as₁ : List Addr} {B h : Heap}

theorem frames_off (K : Below A base l g) (F : Fr g L h m) (hf : env.frame = some L) {b : Addr} (hg : g.get? b = none) (hL : b ≠ L) : b ∉ (env :: l).filterMap (·.frame) := fun hm => by
  obtain ⟨en, he, hfr⟩ := List.mem_filterMap.mp hm
  rcases List.mem_cons.mp he with rfl | he
  · exact hL (Option.some.inj (hfr.symm.trans hf))
  · obtain ⟨o, ho, _⟩ := (K.frames.mem (List.mem_filterMap.mpr ⟨en, he, hfr⟩)).2
    rw [hg] at ho; cases ho
theorem frames_off' (F : Fr g L h m) (hf : env.frame = some L) {b : Addr} {o : Obj} (hg : g.get? b = some o) (hb : b ∉ l.filterMap (·.frame)) : b ∉ (env :: l).filterMap (·.frame) := fun hm => by
  obtain ⟨en, he, hfr⟩ := List.mem_filterMap.mp hm
  rcases List.mem_cons.mp he with rfl | he
  · rw [hf] at hfr
    have : b = L := (Option.some.inj hfr).symm
    have h1 := Heap.lt_size hg
    have h2 := F.above
    rw [this] at h1
    exact absurd h1 (Nat.not_lt.mpr h2)
  · exact hb (List.mem_filterMap.mpr ⟨en, he, hfr⟩)

/-- the raise: the exception leaves the frame in which it was made -/
theorem fly_first (hfr : A'.frames = some (env :: l)) (hf : env.frame = some L) (hkm : env.scope.kind ≠ .module) (K : Below A base l g) (F : Fr g L s'.heap m)
    (N : News g L s'.heap ((e, excO dx t) :: (dx, od) :: led)) (hed : e ≠ dx) (hne : ∀ q ∈ led, q.1 ≠ e) (kb : KeepBut as s₀ g)
    (hQ : ∀ B h', FlyB B l e dx od as led s₀ h' → Q () { s' with heap := h' }) : wpAny M A' (leaving env (.ref e)) Q E s' := by
  refine (dk_leaving env (.ref e)).any ?_
  have he := N _ (.head _)
  have hd := N _ (.tail _ (.head _))
  generalize hs : s'.heap = h at *
  let hid := e :: (env :: l).filterMap (·.frame)
  have hB : ∀ {b o}, h.get? b = some o → b ≠ e → b ∉ (env :: l).filterMap (·.frame) → (hideAll h hid).get? b = some o := fun ho h1 h2 => hideAll_get _ ho fun hm => by
    rcases List.mem_cons.mp hm with q | hm
    · exact h1 q
    · exact h2 hm
  obtain ⟨oL, es, ep, hL, hLd, _⟩ := F.ns
  have ff : h.FunFrames (hideAll h hid) (env :: l) := by
    refine ⟨hkm, ⟨L, oL, hf, hideAll_none _ (.tail _ (List.mem_filterMap.mpr ⟨env, .head _, hf⟩)), hL, fun vs q => by rw [hLd] at q; cases q⟩, ?_⟩
    have := K.frames.of_keeps (h' := h) fun b o q _ => ⟨o, F.keep b o q, rfl⟩
    have key : ∀ l' : List Env, (∀ en ∈ l', en ∈ l) → h.FunFrames base l' → h.FunFrames (hideAll h hid) l' := by
      intro l'
      induction l' with
      | nil => exact fun _ _ => trivial
      | cons en r ih =>
        rintro hin ⟨x1, ⟨L2, o2, x2, x3, x4, x5⟩, x6⟩
        exact ⟨x1, ⟨L2, o2, x2, hideAll_none _ (.tail _ (List.mem_filterMap.mpr ⟨en, .tail _ (hin en (.head _)), x2⟩)), x4, x5⟩, ih (fun y hy => hin y (.tail _ hy)) x6⟩
    exact key l (fun _ x => x) this
  refine wpAny_leaving_firstW (base := hideAll h hid) (a0 := .ref t) hfr (hs ▸ ff) hf (hs ▸ he.1) (fun b o q => hs ▸ of_hideAll _ q) (hideAll_none _ (.head _)) rfl rfl rfl fun h' hL' sd => ?_
  (try rw [hs] at hL'); (try rw [hs] at sd)
  obtain ⟨k1, ⟨_, _, k2⟩, k3, k4⟩ := hL'
  refine hQ (hideAll h hid) h' ⟨⟨_, k1, hideAll_none _ (.head _), k2, k3⟩, ?_, ?_, ?_, ?_, ?_, ?_⟩
  · obtain ⟨oe, _, _, _, _, hoe, _⟩ := k3
    exact ⟨oe, hoe, dict_kept sd he.1 rfl hoe⟩
  · exact hB hd.1 (Ne.symm hed) (frames_off K F hf hd.2.2 hd.2.1)
  · intro q hq
    have := N q (.tail _ (.tail _ hq))
    exact hB this.1 (hne q hq) (frames_off K F hf this.2.2 this.2.1)
  · intro a ha o ho
    refine Classical.byContradiction fun hn => ?_
    have hg := kb a o ho hn
    rcases ha with rfl | rfl | ⟨q, hq, rfl⟩
    · rw [he.2.2] at hg; cases hg
    · rw [hd.2.2] at hg; cases hg
    · rw [(N q (.tail _ (.tail _ hq))).2.2] at hg; cases hg
  · intro b o ho hn hl
    have hg := kb b o ho hn
    exact hB (F.keep b o hg) (fun q => by rw [q, he.2.2] at hg; cases hg) (frames_off' F hf hg hl)
  · exact fun b o ho hn hnf => k4 b o (F.keep b o (kb b o ho hn)) hnf

/-- the exception flies on through the frame of a caller -/
theorem fly_on (hfr : A'.frames = some (env :: l)) (hf : env.frame = some L) (K : Below A base l g) (F : Fr g L h m) (N : News g L h big) (hs : ∀ a ∈ as₁, ∃ p ∈ big, p.1 = a) (hr : ∀ q ∈ rest, q ∈ big ∧ q.1 ∉ as₁)
    (X : FlyB B (env :: l) e dx od as₁ led₁ h s'.heap) (kb : KeepBut as s₀ g)
    (hQ : ∀ h', FlyB B l e dx od as (led₁ ++ rest) s₀ h' → Q () { s' with heap := h' }) : wpAny M A' (leaving env (.ref e)) Q E s' := by
  refine (dk_leaving env (.ref e)).any ?_
  obtain ⟨⟨a0, fly⟩, ⟨o, ho, hod⟩, bd, led, new, keep, up⟩ := X
  have off : ∀ {b o}, g.get? b = some o → b ∉ as₁ := fun hg hm => by
    obtain ⟨p, hp, rfl⟩ := hs _ hm
    rw [(N p hp).2.2] at hg; cases hg
  refine wpAny_leaves_onW hfr hf fly fun h' fl us sd => hQ h' ⟨⟨a0, fl⟩, ?_, bd, ?_, ?_, ?_, ?_⟩
  · obtain ⟨_, _, _, oe, _, _, _, _, hoe, _⟩ := fl
    exact ⟨oe, hoe, dict_kept sd ho hod hoe⟩
  · intro q hq
    rcases List.mem_append.mp hq with hq | hq
    · exact led q hq
    · obtain ⟨h1, h2⟩ := hr q hq
      exact keep _ _ (N q h1).1 h2 (frames_off K F hf (N q h1).2.2 (N q h1).2.1)
  · intro a ha o' ho'
    refine Classical.byContradiction fun hn => ?_
    have hg := kb a o' ho' hn
    have : a ∈ as₁ ∨ ∃ q ∈ rest, q.1 = a := by
      rcases ha with ha | ha | ⟨q, hq, ha⟩
      · exact .inl (new a (.inl ha) _ (F.keep _ _ hg))
      · exact .inl (new a (.inr (.inl ha)) _ (F.keep _ _ hg))
      · rcases List.mem_append.mp hq with hq | hq
        · exact .inl (new a (.inr (.inr ⟨q, hq, ha⟩)) _ (F.keep _ _ hg))
        · exact .inr ⟨q, hq, ha⟩
    rcases this with hm | ⟨q, hq, rfl⟩
    · exact off hg hm
    · rw [(N q (hr q hq).1).2.2] at hg; cases hg
  · intro b o' ho' hn hl
    have hg := kb b o' ho' hn
    exact keep b o' (F.keep _ _ hg) (off hg) (frames_off' F hf hg hl)
  · intro b o' ho' hn hnf
    have hg := kb b o' ho' hn
    obtain ⟨sl, h1⟩ := up b o' (F.keep _ _ hg) (off hg) hnf
    obtain ⟨sl', h2⟩ := us b _ h1 hnf
    exact ⟨sl', h2⟩
end

/-- a contract of a call that may raise the text's exception -/
abbrev CtrX (w : World) (mean : ExcName → Option Value) (mg mb : Str → Option Value) (d : Nat) (f : Addr) (vs : List Value) (led : List (Addr × Obj)) (Post : Heap → Value → List (Addr × Obj) → Prop) (PostX : List (Addr × Obj) → Obj → Prop) : Prop :=
  ∀ (dp un : Nat) (gd : Option (List Code)) (cn : Str) (cs : Scope) (a : Addr) (ccd : Value) (cl : List (Str × Addr)) (outer : List Env) (A₀ : Around) (base h₀ : Heap) (L : Addr) (m : Str → Option Value) (s : Shared) (Q E : Value → Shared → Prop),
    Below A₀ base outer h₀ → Fr h₀ L s.heap m → (Mine.hd.heap_39 w.params).In h₀ → News h₀ L s.heap led → Top Mine.hd.view_39 (looseW Mine.hd.view_39 [Str.ofString "BasicError"]) mean mg mb h₀ → cs.kind = .function →
    dp + d < recursionLimit → un + 8 * d < cLine →
    (∀ r led' h' tk', Fr h₀ L h' m → News h₀ L h' led' → KeepBut (led.map (·.1)) s.heap h' → Post s.heap r led' → Q r { s with heap := h', toks := tk' }) →
    (∀ e dx od B led' h' tk', FlyB B (envX cn cs L a ccd cl :: outer) e dx od (led.map (·.1)) led' s.heap h' → PostX led' od → E (.ref e) { s with heap := h', toks := tk' }) →
    wpAny (model PySem.Challenge.rw_xm0013_01.row.prog w) (ktrTop dp un gd cn cs L a ccd cl outer) (call (.ref f) vs) Q E s
theorem Ctr.noX {w : World} {mean : ExcName → Option Value} {mg mb : Str → Option Value} {d : Nat} {f : Addr} {vs : List Value} {led : List (Addr × Obj)} {Post : Heap → Value → List (Addr × Obj) → Prop} {PostX : List (Addr × Obj) → Obj → Prop}
    (C : Ctr w mean mg mb d f vs led Post) : CtrX w mean mg mb d f vs led Post PostX := fun dp un gd cn cs a ccd cl outer A₀ base h₀ L m s Q E B F X N T hk hd hu hret _ => C dp un gd cn cs a ccd cl outer A₀ base h₀ L m s Q E B F X N T hk hd hu hret

theorem fly_fr {h₀ h hX B : Heap} {L : Addr} {m : Str → Option Value} {env : Env} {big : List (Addr × Obj)} {as₁ : List Addr} (hf : env.frame = some L) (F : Fr h₀ L h m) (N : News h₀ L h big) (hs : ∀ a ∈ as₁, ∃ p ∈ big, p.1 = a)
    (keep : ∀ b o, h.get? b = some o → b ∉ as₁ → b ∉ [env].filterMap (·.frame) → B.get? b = some o) (st : B.StaysIn hX)
    (up : ∀ b o, h.get? b = some o → b ∉ as₁ → (∀ vs, o.data ≠ .fields vs) → ∃ sl, hX.get? b = some { o with slots := sl }) : Fr h₀ L hX m := by
  obtain ⟨oL, es, ep, hL, hLd, r⟩ := F.ns
  refine ⟨?_, fun b o e => ?_, F.above⟩
  · obtain ⟨sl, h2⟩ := up L oL hL (fun hm => by obtain ⟨p, hp, q⟩ := hs _ hm; exact (N p hp).2.1 q) (fun vs q => by rw [hLd] at q; cases q)
    exact ⟨_, es, ep, h2, hLd, r⟩
  · have hlt := Heap.lt_size e
    refine st b o (keep b o (F.keep b o e) (fun hm => ?_) (fun hm => ?_))
    · obtain ⟨p, hp, q⟩ := hs _ hm
      have := (N p hp).2.2
      rw [q, e] at this; cases this
    · simp only [List.filterMap_cons, hf, List.filterMap_nil, List.mem_cons, List.not_mem_nil, or_false] at hm
      have h2 := F.above
      rw [hm] at hlt
      exact absurd hlt (Nat.not_lt.mpr h2)

section
variable {prog : Program} {w : World} {A : Around} {E : Value → Shared → Prop} {s' : Shared} {h₀ h B : Heap} {L a e dx : Addr} {m : Str → Option Value} {name : Str} {scope : Scope} {cd : Value} {cl : List (Str × Addr)}
  {n : Str} {b₀ : Stmt} {suite : List Stmt} {pos np : Pos} {restH : List ExceptHandler} {Q : Flow → Shared → Prop} {big led₁ rest : List (Addr × Obj)} {as₁ : List Addr} {od : Obj} {KF : Frag} {p : Program} {loose : List Str} {mg mb : Str → Option Value} {x : Str}

theorem caught_M (hfr : A.frames = some [envX name scope L a cd cl]) (F : Fr h₀ L h m) (N : News h₀ L h big) (hs : ∀ a ∈ as₁, ∃ p ∈ big, p.1 = a) (hr : ∀ q ∈ rest, q ∈ big ∧ q.1 ∉ as₁)
    (Y : FlyB B [envX name scope L a cd cl] e dx od as₁ led₁ h s'.heap) (X : KF.In h₀) (T : TopRead p loose mg mb h₀) (ex : nsIn KF mainGlobals x = some (some (.ref 34))) (hx1 : exmOne KF (.ref 34) (.ref 34) = some true)
    (k : ∀ h' tk vs sl, Fr h₀ L h' (fun y => if y = n then some (.ref e) else m y) → News h₀ L h' ((e, ⟨.ref 34, some dx, .fields vs, sl⟩) :: (dx, od) :: (led₁ ++ rest)) →
      wpAny (model prog w) (A.mark (some (.ref e))) (execs (b₀ :: suite) (envX name scope L a cd cl))
        (fun f s₄ => wpAny (model prog w) A (do bindName (envX name scope L a cd cl) n .none; unbindBehindTheSuite (envX name scope L a cd cl) n pos) (fun _ s₅ => Q f s₅) E s₄)
        (AsSuiteRaised (model prog w) (A.mark (some (.ref e))) (envX name scope L a cd cl) n pos (notedBy (model prog w) (A.mark (some (.ref e))) (envX name scope L a cd cl) (cameBackBy (model prog w) A (envX name scope L a cd cl) E)))
        { s' with heap := h', toks := tk })
    (hk : scope.kind = .function) (hlo : (envX name scope L a cd cl).kindOf n = some .local) (hx : (envX name scope L a cd cl).kindOf x = some .globalImplicit) (hd : (x == ("__debug__" : Str)) = false) :
    wpAny (model prog w) A (noteFrame (.ref e) (envX name scope L a cd cl))
      (fun _ s₂ => wpAny (model prog w) A (setFlight (.ref e) none) (fun _ s₃ =>
        wpAny (model prog w) A (handleBy (.ref e) (envX name scope L a cd cl) (.ExceptHandler (some (.Name x np)) (some n) (b₀ :: suite) pos :: restH)) Q E s₃) E s₂) E s' := by
  obtain ⟨⟨a0, fly⟩, ⟨o, ho, hod⟩, bd, led, new, keep, up⟩ := Y
  have hf : (envX name scope L a cd cl).frame = some L := rfl
  have fresh : ∀ b, (b = e ∨ b = dx ∨ ∃ q ∈ led₁, q.1 = b) → b ≠ L ∧ h₀.get? b = none := fun b hb => by
    refine ⟨fun q => ?_, ?_⟩
    · obtain ⟨oL, _, _, hL, _⟩ := F.ns
      obtain ⟨p, hp, q'⟩ := hs _ (new b hb oL (q ▸ hL))
      exact (N p hp).2.1 (q'.trans q)
    · cases q : h₀.get? b with
      | none => rfl
      | some o' =>
        obtain ⟨p, hp, q'⟩ := hs _ (new b hb o' (F.keep _ _ q))
        rw [← q', (N p hp).2.2] at q; cases q
  refine (dk_noteFrame _ _).any (wpAny_looks_onW hfr rfl fly fun h₄ held₄ sm₄ sd₄ => ?_)
  refine (dk_setFlight _ _).any (wpAny_landsW held₄ fun h₅ fl₅ sm₅ sd₅ => ?_)
  have up₅ : ∀ b o, h.get? b = some o → b ∉ as₁ → (∀ vs, o.data ≠ .fields vs) → ∃ sl, h₅.get? b = some { o with slots := sl } := fun b o' h1 h2 h3 => by
    obtain ⟨_, q1⟩ := up b o' h1 h2 h3
    obtain ⟨_, q2⟩ := sm₄ b _ q1 h3
    obtain ⟨_, q3⟩ := sm₅ b _ q2 h3
    exact ⟨_, q3⟩
  have F₅ := fly_fr hf F N hs keep fl₅.1 up₅
  obtain ⟨ob, hob, hobc⟩ := fl₅.there
  refine wpAny_handleBy_cons (codeAny_handlers_test (nameX_K F₅ X T ex ?_ hk hx hd)) (by intro q; cases q)
  have LT : Looks (model prog w) h₅ (typeOf (.ref e)) (.ref 34) := hobc ▸ (Looks.ld hob).andThen .now
  refine (exm_one (X.keeps F₅.keep) LT hx1).at (codeAny_handlers_suite_as ?_)
  refine (dk_setFlight _ _).any (lands_againW fl₅ fun h₆ fl₆ sm₆ sd₆ => ?_)
  have F₆ := fly_fr hf F N hs keep fl₆.1 fun b o' h1 h2 h3 => by
    obtain ⟨_, q1⟩ := up₅ b o' h1 h2 h3
    obtain ⟨_, q3⟩ := sm₆ b _ q1 h3
    exact ⟨_, q3⟩
  obtain ⟨oe, vs, hoe, hoec, hoed, _⟩ := fl₆.first
  have hdict := dict_kept sd₆ hob (dict_kept sd₅ (show h₄.get? e = _ from held₄.there.choose_spec.1) (dict_kept sd₄ ho hod held₄.there.choose_spec.1) hob) hoe
  obtain ⟨oc, odd, odt, osl⟩ := oe
  dsimp only at hoec hoed hdict
  subst hoec hoed hdict
  have N₆ : News h₀ L h₆ ((e, ⟨.ref 34, some dx, .fields vs, osl⟩) :: (dx, od) :: (led₁ ++ rest)) := by
    intro q hq
    rcases List.mem_cons.mp hq with rfl | hq
    · exact ⟨hoe, fresh e (.inl rfl)⟩
    rcases List.mem_cons.mp hq with rfl | hq
    · exact ⟨fl₆.1 _ _ bd, fresh dx (.inr (.inl rfl))⟩
    rcases List.mem_append.mp hq with hq | hq
    · exact ⟨fl₆.1 _ _ (led q hq), fresh q.1 (.inr (.inr ⟨q, hq, rfl⟩))⟩
    · obtain ⟨h1, h2⟩ := hr q hq
      refine ⟨fl₆.1 _ _ (keep _ _ (N q h1).1 h2 fun hm => ?_), (N q h1).2⟩
      simp only [List.filterMap_cons, hf, List.filterMap_nil, List.mem_cons, List.not_mem_nil, or_false] at hm
      exact (N q h1).2.1 hm
  exact storeX_L F₆ N₆ (fun h' F' N' => k h' _ vs osl F' N') hk hlo
end

def RaisableO (E : Value → Shared → Prop) (v : Value) (s₁ : Shared) : Prop :=
  ∃ e dx t nm q N bs hdct sn sub ab col dd k0 k1 k2 k3 k5 newId, v = .ref e ∧ s₁.heap.get? e = some (excO dx t) ∧
    s₁.heap.get? 34 = some (excClassObj nm q 34 N bs [.type "Exception", .type "BaseException", .type "object"] hdct sn sub ab col dd k0 k1 k2 k3 k5 newId) ∧ E (.ref e) s₁
theorem Raise_own {M : Model} {A : Around} {E : Value → Shared → Prop} {s : Shared} {env : Env} {e : Expr} {pos : Pos} {Q : Flow → Shared → Prop} (hh : A.handled = none)
    (h : wpAny M A (eval e env) (RaisableO E) E s) : wpAny M A (exec (.Raise (some e) none pos) env) Q E s := by
  show wpAny M A (do standAt pos; raiseStmt env (some (do let v ← eval e env; standAt pos; pure v)) none) Q E s
  refine wpAny_bind (wpAny_standAt ?_)
  unfold raiseStmt
  dsimp only
  refine wpAny_bind (wpAny_bind (wpAny_mono h (fun v s₁ h₁ => wpAny_bind (wpAny_standAt (wpAny_pure ?_))) fun _ _ x => x))
  obtain ⟨a, dx, t, nm, q, N, bs, hdct, sn, sub, ab, col, dd, k0, k1, k2, k3, k5, newId, rfl, ha, hC, hE⟩ := h₁
  have hcB : (Value.ref 34 :: [.type "Exception", .type "BaseException", .type "object"]).contains (.type "BaseException") = true := by decide +kernel
  obtain ⟨hp, g, d, tk, os⟩ := s₁
  dsimp only at ha hC
  repeat (first | with_reducible refine wpAny_loadPart_at ha ?_ | with_reducible refine wpAny_loadPart_at hC ?_ | (with_reducible refine wpAny_isSubtype_exc hC ?_; rw [hcB]) | wp_step)
  exact wpAny_raiseNew_none hh hE

section
variable (w : World) (mean : ExcName → Option Value) (mg mb : Str → Option Value)
theorem alloc_ok {sp dx oc hd wt : Addr} {H : Hk} {n fr c len : Int} {t1 t2 t3 t4 t5 tl : Tok} {vs : Array Value} {u : Nat} {ws : Array Value} {u' : Nat} (h2 : len ≤ 255) (hf : len ≤ fr)
    (o1 : @LT.lt Nat _ dx sp) (o2 : @LT.lt Nat _ sp oc) (o3 : @LT.lt Nat _ oc hd) (o4 : @LT.lt Nat _ hd wt) :
    Ctr w mean mg mb 6 106 [.ref sp, .int len tl] (spL sp dx oc hd wt H n fr c t1 t2 t3 t4 t5 vs u ws u')
      (fun _ r led' => ∃ x, led' = spL sp dx oc hd wt H n (fr - len) c t1 t2 x t4 t5 vs u ws u' ∧ ∃ t, r = .int (fr - len) t) := by
  unfold Ctr
  k_fill
  intro dp un gd cn cs a ccd cl outer A₀ base h₀ L m s Q E B F X N T hk hd' hu hret
  (try dsimp only [spL] at N)
  (refine wpAny_call ?_; k_dflt (refine' enter_def (binds := [(Str.ofString "space", Value.ref sp), (Str.ofString "length", Value.int len tl)]) ?k1 ?k2 ?k3 ?k4 ?k5 ?kA ?kF ?kK ?k6 ?k7 ?k8 ?k9 ?kB ?_ ?c2 ?c3 ?c4 ?c5; (case kA => exact rfl); (case kF => exact rfl); (case kK => assumption); (case k1 => k_asm); (case k2 => k_asm); (case k3 => k_asm); (case k4 => k_asm); (case k5 => k_asm); (case k6 => k_is); (case k7 => k_is); (case k8 => ktr_room); (case k9 => exact BindsTo.of_eq rfl); (case c5 => decide); (case kB => exact locs rfl); (case c2 => exact rfl); (case c3 => exact rfl); (case c4 => exact rfl); k_whole; intro g' L' h' hL' kb' lt' F' N' B' X' T'; (try simp only [AllLt, and_true] at lt'); (try dsimp only); (try k_fold)))
  k_steps
  exact hret _ _ _ _ (by k_asm) (by k_asm) (KeepBut.fr (by assumption) (by k_asm)) ⟨_, rfl, _, rfl⟩
end

section
variable (w : World) (mean : ExcName → Option Value) (mg mb : Str → Option Value)
theorem allocC1_c {sp dx oc hd wt p1 : Addr} {H : Hk} {n fr c len : Int} {t1 t2 t3 t4 t5 tl s1 r1 : Tok} {vs : List Value} {ns : List Int} {u u' u1 : Nat} {a1 l1 : Int} (hi : IntsAre vs ns) (hn : n = ns.length) (hz : ns.length ≤ 1000)
    (o1 : @LT.lt Nat _ dx sp) (o2 : @LT.lt Nat _ sp oc) (o3 : @LT.lt Nat _ oc hd) (o4 : @LT.lt Nat _ hd wt) (lo : (hd == sysModules) = false) (kc : 0 ≤ c) (kc2 : c ≤ 1000) (kf : 0 ≤ fr) (kf2 : fr ≤ 1000)
    (h1 : 0 < l1) (b1 : a1 + l1 ≤ n) (b2 : 0 ≤ a1) (c1 : @LT.lt Nat _ wt p1) (g2 : len ≤ 255) (hf : fr < len) (hg : len ≤ n - l1) :
    Ctr w mean mg mb 6 106 [.ref sp, .int len tl] (spL sp dx oc hd wt H n fr c t1 t2 t3 t4 t5 vs.toArray u #[.ref p1] u' ++ [(p1, listOf #[.int a1 s1, .int l1 r1] u1)])
      (fun _ r led' => ∃ vs' ns' x y x1, led' = spL sp dx oc hd wt H n (n - l1 - len) (c + 1) t1 t2 x t4 y (List.toArray vs') u #[.ref p1] u' ++ [(p1, listOf #[.int (n - l1) x1, .int l1 r1] u1)] ∧ (∃ z, r = .int (n - l1 - len) z) ∧ IntsAre vs' ns' ∧ ns'.length = ns.length ∧ sl ns' (n - l1) l1 = sl ns a1 l1 ∧ ∀ P : Int → Prop, (∀ x ∈ ns, P x) → ∀ x ∈ ns', P x) := by
  unfold Ctr
  k_fill
  intro dp un gd cn cs a' ccd cl outer A₀ base h₀ L m s Q E B F X N T hk hd' hu hret
  (try dsimp only [spL, List.cons_append, List.nil_append] at N)
  (refine wpAny_call ?_; k_dflt (refine' enter_def (binds := [(Str.ofString "space", Value.ref sp), (Str.ofString "length", Value.int len tl)]) ?k1 ?k2 ?k3 ?k4 ?k5 ?kA ?kF ?kK ?k6 ?k7 ?k8 ?k9 ?kB ?_ ?c2 ?c3 ?c4 ?c5; (case kA => exact rfl); (case kF => exact rfl); (case kK => assumption); (case k1 => k_asm); (case k2 => k_asm); (case k3 => k_asm); (case k4 => k_asm); (case k5 => k_asm); (case k6 => k_is); (case k7 => k_is); (case k8 => ktr_room); (case k9 => exact BindsTo.of_eq rfl); (case c5 => decide); (case kB => exact locs rfl); (case c2 => exact rfl); (case c3 => exact rfl); (case c4 => exact rfl); k_whole; intro g' L' h' hL' kb' lt' F' N' B' X' T'; (try simp only [AllLt, and_true] at lt'); (try dsimp only); (try k_fold)))
  k_steps
  refine' use (collect1_c _ _ _ _ hi hn hz o1 o2 o3 o4 lo kc kc2 kf kf2 h1 b1 b2 c1) ?B ?F ?X ?N ?T ?K ?d ?u ?s ?r ?_; (case B => k_asm); (case F => k_asm); (case X => k_asm); (case N => k_asm); (case T => k_asm); (case K => first | exact rfl | assumption); (case s => lcg_sub); (case r => ((try dsimp only [spL, List.cons_append, List.nil_append]); walk_at "REST")); (case d => ktr_room); (case u => ktr_units)
  intro r9 led9 h9 tk9 F9 N9 P9 M9
  obtain ⟨vs9, ns9, x9, y9, z9, xx1, f9, e9, hi9, hl9, ss1, P9⟩ := P9
  subst e9; subst f9; clear M9
  (try dsimp only [spL, List.cons_append, List.nil_append] at N9)
  k_steps
  exact hret _ _ _ _ (by k_asm) (by k_asm) (KeepBut.fr (by assumption) (by k_asm)) ⟨_, _, _, _, _, rfl, ⟨_, rfl⟩, hi9, hl9, ss1, P9⟩
end

section
variable (w : World) (mean : ExcName → Option Value) (mg mb : Str → Option Value)
theorem allocC2_c {sp dx oc hd wt p1 p2 : Addr} {H : Hk} {n fr c len : Int} {t1 t2 t3 t4 t5 tl s1 r1 s2 r2 : Tok} {vs : List Value} {ns : List Int} {u u' u1 u2 : Nat} {a1 l1 a2 l2 : Int} (hi : IntsAre vs ns) (hn : n = ns.length) (hz : ns.length ≤ 1000)
    (o1 : @LT.lt Nat _ dx sp) (o2 : @LT.lt Nat _ sp oc) (o3 : @LT.lt Nat _ oc hd) (o4 : @LT.lt Nat _ hd wt) (lo : (hd == sysModules) = false) (kc : 0 ≤ c) (kc2 : c ≤ 1000) (kf : 0 ≤ fr) (kf2 : fr ≤ 1000)
    (h1 : 0 < l1) (h2 : 0 < l2) (b1 : a1 + l1 ≤ n) (b2 : a2 + l2 ≤ a1) (b3 : 0 ≤ a2) (c1 : @LT.lt Nat _ wt p1) (c2 : @LT.lt Nat _ p1 p2) (g2 : len ≤ 255) (hf : fr < len) (hg : len ≤ n - l1 - l2) :
    Ctr w mean mg mb 6 106 [.ref sp, .int len tl] (spL sp dx oc hd wt H n fr c t1 t2 t3 t4 t5 vs.toArray u #[.ref p1, .ref p2] u' ++ [(p1, listOf #[.int a1 s1, .int l1 r1] u1), (p2, listOf #[.int a2 s2, .int l2 r2] u2)])
      (fun _ r led' => ∃ vs' ns' x y x1 x2, led' = spL sp dx oc hd wt H n (n - l1 - l2 - len) (c + 1) t1 t2 x t4 y (List.toArray vs') u #[.ref p1, .ref p2] u' ++ [(p1, listOf #[.int (n - l1) x1, .int l1 r1] u1), (p2, listOf #[.int (n - l1 - l2) x2, .int l2 r2] u2)] ∧ (∃ z, r = .int (n - l1 - l2 - len) z) ∧ IntsAre vs' ns' ∧ ns'.length = ns.length ∧ sl ns' (n - l1) l1 = sl ns a1 l1 ∧ sl ns' (n - l1 - l2) l2 = sl ns a2 l2 ∧ ∀ P : Int → Prop, (∀ x ∈ ns, P x) → ∀ x ∈ ns', P x) := by
  unfold Ctr
  k_fill
  intro dp un gd cn cs a' ccd cl outer A₀ base h₀ L m s Q E B F X N T hk hd' hu hret
  (try dsimp only [spL, List.cons_append, List.nil_append] at N)
  (refine wpAny_call ?_; k_dflt (refine' enter_def (binds := [(Str.ofString "space", Value.ref sp), (Str.ofString "length", Value.int len tl)]) ?k1 ?k2 ?k3 ?k4 ?k5 ?kA ?kF ?kK ?k6 ?k7 ?k8 ?k9 ?kB ?_ ?c2 ?c3 ?c4 ?c5; (case kA => exact rfl); (case kF => exact rfl); (case kK => assumption); (case k1 => k_asm); (case k2 => k_asm); (case k3 => k_asm); (case k4 => k_asm); (case k5 => k_asm); (case k6 => k_is); (case k7 => k_is); (case k8 => ktr_room); (case k9 => exact BindsTo.of_eq rfl); (case c5 => decide); (case kB => exact locs rfl); (case c2 => exact rfl); (case c3 => exact rfl); (case c4 => exact rfl); k_whole; intro g' L' h' hL' kb' lt' F' N' B' X' T'; (try simp only [AllLt, and_true] at lt'); (try dsimp only); (try k_fold)))
  k_steps
  refine' use (collect2_c _ _ _ _ hi hn hz o1 o2 o3 o4 lo kc kc2 kf kf2 h1 h2 b1 b2 b3 c1 c2) ?B ?F ?X ?N ?T ?K ?d ?u ?s ?r ?_; (case B => k_asm); (case F => k_asm); (case X => k_asm); (case N => k_asm); (case T => k_asm); (case K => first | exact rfl | assumption); (case s => lcg_sub); (case r => ((try dsimp only [spL, List.cons_append, List.nil_append]); walk_at "REST")); (case d => ktr_room); (case u => ktr_units)
  intro r9 led9 h9 tk9 F9 N9 P9 M9
  obtain ⟨vs9, ns9, x9, y9, z9, xx1, xx2, f9, e9, hi9, hl9, ss1, ss2, P9⟩ := P9
  subst e9; subst f9; clear M9
  (try dsimp only [spL, List.cons_append, List.nil_append] at N9)
  k_steps
  exact hret _ _ _ _ (by k_asm) (by k_asm) (KeepBut.fr (by assumption) (by k_asm)) ⟨_, _, _, _, _, _, rfl, ⟨_, rfl⟩, hi9, hl9, ss1, ss2, P9⟩
end

section
variable (w : World) (mean : ExcName → Option Value) (mg mb : Str → Option Value)
theorem allocC3_c {sp dx oc hd wt p1 p2 p3 : Addr} {H : Hk} {n fr c len : Int} {t1 t2 t3 t4 t5 tl s1 r1 s2 r2 s3 r3 : Tok} {vs : List Value} {ns : List Int} {u u' u1 u2 u3 : Nat} {a1 l1 a2 l2 a3 l3 : Int} (hi : IntsAre vs ns) (hn : n = ns.length) (hz : ns.length ≤ 1000)
    (o1 : @LT.lt Nat _ dx sp) (o2 : @LT.lt Nat _ sp oc) (o3 : @LT.lt Nat _ oc hd) (o4 : @LT.lt Nat _ hd wt) (lo : (hd == sysModules) = false) (kc : 0 ≤ c) (kc2 : c ≤ 1000) (kf : 0 ≤ fr) (kf2 : fr ≤ 1000)
    (h1 : 0 < l1) (h2 : 0 < l2) (h3 : 0 < l3) (b1 : a1 + l1 ≤ n) (b2 : a2 + l2 ≤ a1) (b3 : a3 + l3 ≤ a2) (b4 : 0 ≤ a3) (c1 : @LT.lt Nat _ wt p1) (c2 : @LT.lt Nat _ p1 p2) (c3 : @LT.lt Nat _ p2 p3) (g2 : len ≤ 255) (hf : fr < len) (hg : len ≤ n - l1 - l2 - l3) :
    Ctr w mean mg mb 6 106 [.ref sp, .int len tl] (spL sp dx oc hd wt H n fr c t1 t2 t3 t4 t5 vs.toArray u #[.ref p1, .ref p2, .ref p3] u' ++ [(p1, listOf #[.int a1 s1, .int l1 r1] u1), (p2, listOf #[.int a2 s2, .int l2 r2] u2), (p3, listOf #[.int a3 s3, .int l3 r3] u3)])
      (fun _ r led' => ∃ vs' ns' x y x1 x2 x3, led' = spL sp dx oc hd wt H n (n - l1 - l2 - l3 - len) (c + 1) t1 t2 x t4 y (List.toArray vs') u #[.ref p1, .ref p2, .ref p3] u' ++ [(p1, listOf #[.int (n - l1) x1, .int l1 r1] u1), (p2, listOf #[.int (n - l1 - l2) x2, .int l2 r2] u2), (p3, listOf #[.int (n - l1 - l2 - l3) x3, .int l3 r3] u3)] ∧ (∃ z, r = .int (n - l1 - l2 - l3 - len) z) ∧ IntsAre vs' ns' ∧ ns'.length = ns.length ∧ sl ns' (n - l1) l1 = sl ns a1 l1 ∧ sl ns' (n - l1 - l2) l2 = sl ns a2 l2 ∧ sl ns' (n - l1 - l2 - l3) l3 = sl ns a3 l3 ∧ ∀ P : Int → Prop, (∀ x ∈ ns, P x) → ∀ x ∈ ns', P x) := by
  unfold Ctr
  k_fill
  intro dp un gd cn cs a' ccd cl outer A₀ base h₀ L m s Q E B F X N T hk hd' hu hret
  (try dsimp only [spL, List.cons_append, List.nil_append] at N)
  (refine wpAny_call ?_; k_dflt (refine' enter_def (binds := [(Str.ofString "space", Value.ref sp), (Str.ofString "length", Value.int len tl)]) ?k1 ?k2 ?k3 ?k4 ?k5 ?kA ?kF ?kK ?k6 ?k7 ?k8 ?k9 ?kB ?_ ?c2 ?c3 ?c4 ?c5; (case kA => exact rfl); (case kF => exact rfl); (case kK => assumption); (case k1 => k_asm); (case k2 => k_asm); (case k3 => k_asm); (case k4 => k_asm); (case k5 => k_asm); (case k6 => k_is); (case k7 => k_is); (case k8 => ktr_room); (case k9 => exact BindsTo.of_eq rfl); (case c5 => decide); (case kB => exact locs rfl); (case c2 => exact rfl); (case c3 => exact rfl); (case c4 => exact rfl); k_whole; intro g' L' h' hL' kb' lt' F' N' B' X' T'; (try simp only [AllLt, and_true] at lt'); (try dsimp only); (try k_fold)))
  k_steps
  refine' use (collect3_c _ _ _ _ hi hn hz o1 o2 o3 o4 lo kc kc2 kf kf2 h1 h2 h3 b1 b2 b3 b4 c1 c2 c3) ?B ?F ?X ?N ?T ?K ?d ?u ?s ?r ?_; (case B => k_asm); (case F => k_asm); (case X => k_asm); (case N => k_asm); (case T => k_asm); (case K => first | exact rfl | assumption); (case s => lcg_sub); (case r => ((try dsimp only [spL, List.cons_append, List.nil_append]); walk_at "REST")); (case d => ktr_room); (case u => ktr_units)
  intro r9 led9 h9 tk9 F9 N9 P9 M9
  obtain ⟨vs9, ns9, x9, y9, z9, xx1, xx2, xx3, f9, e9, hi9, hl9, ss1, ss2, ss3, P9⟩ := P9
  subst e9; subst f9; clear M9
  (try dsimp only [spL, List.cons_append, List.nil_append] at N9)
  k_steps
  exact hret _ _ _ _ (by k_asm) (by k_asm) (KeepBut.fr (by assumption) (by k_asm)) ⟨_, _, _, _, _, _, _, rfl, ⟨_, rfl⟩, hi9, hl9, ss1, ss2, ss3, P9⟩
end

section
variable (w : World) (mean : ExcName → Option Value) (mg mb : Str → Option Value)
theorem allocC4_c {sp dx oc hd wt p1 p2 p3 p4 : Addr} {H : Hk} {n fr c len : Int} {t1 t2 t3 t4 t5 tl s1 r1 s2 r2 s3 r3 s4 r4 : Tok} {vs : List Value} {ns : List Int} {u u' u1 u2 u3 u4 : Nat} {a1 l1 a2 l2 a3 l3 a4 l4 : Int} (hi : IntsAre vs ns) (hn : n = ns.length) (hz : ns.length ≤ 1000)
    (o1 : @LT.lt Nat _ dx sp) (o2 : @LT.lt Nat _ sp oc) (o3 : @LT.lt Nat _ oc hd) (o4 : @LT.lt Nat _ hd wt) (lo : (hd == sysModules) = false) (kc : 0 ≤ c) (kc2 : c ≤ 1000) (kf : 0 ≤ fr) (kf2 : fr ≤ 1000)
    (h1 : 0 < l1) (h2 : 0 < l2) (h3 : 0 < l3) (h4 : 0 < l4) (b1 : a1 + l1 ≤ n) (b2 : a2 + l2 ≤ a1) (b3 : a3 + l3 ≤ a2) (b4 : a4 + l4 ≤ a3) (b5 : 0 ≤ a4) (c1 : @LT.lt Nat _ wt p1) (c2 : @LT.lt Nat _ p1 p2) (c3 : @LT.lt Nat _ p2 p3) (c4 : @LT.lt Nat _ p3 p4) (g2 : len ≤ 255) (hf : fr < len) (hg : len ≤ n - l1 - l2 - l3 - l4) :
    Ctr w mean mg mb 6 106 [.ref sp, .int len tl] (spL sp dx oc hd wt H n fr c t1 t2 t3 t4 t5 vs.toArray u #[.ref p1, .ref p2, .ref p3, .ref p4] u' ++ [(p1, listOf #[.int a1 s1, .int l1 r1] u1), (p2, listOf #[.int a2 s2, .int l2 r2] u2), (p3, listOf #[.int a3 s3, .int l3 r3] u3), (p4, listOf #[.int a4 s4, .int l4 r4] u4)])
      (fun _ r led' => ∃ vs' ns' x y x1 x2 x3 x4, led' = spL sp dx oc hd wt H n (n - l1 - l2 - l3 - l4 - len) (c + 1) t1 t2 x t4 y (List.toArray vs') u #[.ref p1, .ref p2, .ref p3, .ref p4] u' ++ [(p1, listOf #[.int (n - l1) x1, .int l1 r1] u1), (p2, listOf #[.int (n - l1 - l2) x2, .int l2 r2] u2), (p3, listOf #[.int (n - l1 - l2 - l3) x3, .int l3 r3] u3), (p4, listOf #[.int (n - l1 - l2 - l3 - l4) x4, .int l4 r4] u4)] ∧ (∃ z, r = .int (n - l1 - l2 - l3 - l4 - len) z) ∧ IntsAre vs' ns' ∧ ns'.length = ns.length ∧ sl ns' (n - l1) l1 = sl ns a1 l1 ∧ sl ns' (n - l1 - l2) l2 = sl ns a2 l2 ∧ sl ns' (n - l1 - l2 - l3) l3 = sl ns a3 l3 ∧ sl ns' (n - l1 - l2 - l3 - l4) l4 = sl ns a4 l4 ∧ ∀ P : Int → Prop, (∀ x ∈ ns, P x) → ∀ x ∈ ns', P x) := by
  unfold Ctr
  k_fill
  intro dp un gd cn cs a' ccd cl outer A₀ base h₀ L m s Q E B F X N T hk hd' hu hret
  (try dsimp only [spL, List.cons_append, List.nil_append] at N)
  (refine wpAny_call ?_; k_dflt (refine' enter_def (binds := [(Str.ofString "space", Value.ref sp), (Str.ofString "length", Value.int len tl)]) ?k1 ?k2 ?k3 ?k4 ?k5 ?kA ?kF ?kK ?k6 ?k7 ?k8 ?k9 ?kB ?_ ?c2 ?c3 ?c4 ?c5; (case kA => exact rfl); (case kF => exact rfl); (case kK => assumption); (case k1 => k_asm); (case k2 => k_asm); (case k3 => k_asm); (case k4 => k_asm); (case k5 => k_asm); (case k6 => k_is); (case k7 => k_is); (case k8 => ktr_room); (case k9 => exact BindsTo.of_eq rfl); (case c5 => decide); (case kB => exact locs rfl); (case c2 => exact rfl); (case c3 => exact rfl); (case c4 => exact rfl); k_whole; intro g' L' h' hL' kb' lt' F' N' B' X' T'; (try simp only [AllLt, and_true] at lt'); (try dsimp only); (try k_fold)))
  k_steps
  refine' use (collect4_c _ _ _ _ hi hn hz o1 o2 o3 o4 lo kc kc2 kf kf2 h1 h2 h3 h4 b1 b2 b3 b4 b5 c1 c2 c3 c4) ?B ?F ?X ?N ?T ?K ?d ?u ?s ?r ?_; (case B => k_asm); (case F => k_asm); (case X => k_asm); (case N => k_asm); (case T => k_asm); (case K => first | exact rfl | assumption); (case s => lcg_sub); (case r => ((try dsimp only [spL, List.cons_append, List.nil_append]); walk_at "REST")); (case d => ktr_room); (case u => ktr_units)
  intro r9 led9 h9 tk9 F9 N9 P9 M9
  obtain ⟨vs9, ns9, x9, y9, z9, xx1, xx2, xx3, xx4, f9, e9, hi9, hl9, ss1, ss2, ss3, ss4, P9⟩ := P9
  subst e9; subst f9; clear M9
  (try dsimp only [spL, List.cons_append, List.nil_append] at N9)
  k_steps
  exact hret _ _ _ _ (by k_asm) (by k_asm) (KeepBut.fr (by assumption) (by k_asm)) ⟨_, _, _, _, _, _, _, _, rfl, ⟨_, rfl⟩, hi9, hl9, ss1, ss2, ss3, ss4, P9⟩
end

section
variable (w : World) (mean : ExcName → Option Value) (mg mb : Str → Option Value)
theorem allocX2_c {sp dx oc hd wt p1 p2 : Addr} {H : Hk} {n fr c len : Int} {t1 t2 t3 t4 t5 tl s1 r1 s2 r2 : Tok} {vs : List Value} {ns : List Int} {u u' u1 u2 : Nat} {a1 l1 a2 l2 : Int} (hi : IntsAre vs ns) (hn : n = ns.length) (hz : ns.length ≤ 1000)
    (o1 : @LT.lt Nat _ dx sp) (o2 : @LT.lt Nat _ sp oc) (o3 : @LT.lt Nat _ oc hd) (o4 : @LT.lt Nat _ hd wt) (lo : (hd == sysModules) = false) (kc : 0 ≤ c) (kc2 : c ≤ 1000) (kf : 0 ≤ fr) (kf2 : fr ≤ 1000)
    (h1 : 0 < l1) (h2 : 0 < l2) (b1 : a1 + l1 ≤ n) (b2 : a2 + l2 ≤ a1) (b3 : 0 ≤ a2) (c1 : @LT.lt Nat _ wt p1) (c2 : @LT.lt Nat _ p1 p2) (g2 : len ≤ 255) (hf : fr < len) (hg : n - l1 - l2 < len) :
    CtrX w mean mg mb 6 106 [.ref sp, .int len tl] (spL sp dx oc hd wt H n fr c t1 t2 t3 t4 t5 vs.toArray u #[.ref p1, .ref p2] u' ++ [(p1, listOf #[.int a1 s1, .int l1 r1] u1), (p2, listOf #[.int a2 s2, .int l2 r2] u2)]) (fun _ _ _ => False)
      (fun led' od => (∃ h1 h2 k1 k2 tc l, od = excD h1 h2 k1 k2 (.str (Str.ofString "OS") tc) l) ∧ ∃ vs' ns' x y x1 x2, led' = spL sp dx oc hd wt H n (n - l1 - l2) (c + 1) t1 t2 x t4 y (List.toArray vs') u #[.ref p1, .ref p2] u' ++ [(p1, listOf #[.int (n - l1) x1, .int l1 r1] u1), (p2, listOf #[.int (n - l1 - l2) x2, .int l2 r2] u2)] ∧ IntsAre vs' ns' ∧ ns'.length = ns.length ∧ sl ns' (n - l1) l1 = sl ns a1 l1 ∧ sl ns' (n - l1 - l2) l2 = sl ns a2 l2 ∧ ∀ P : Int → Prop, (∀ x ∈ ns, P x) → ∀ x ∈ ns', P x) := by
  unfold CtrX
  k_fill
  intro dp un gd cn cs a' ccd cl outer A₀ base h₀ L m s Q E B F X N T hk hd' hu hret hraise
  (try dsimp only [spL, List.cons_append, List.nil_append] at N)
  (refine wpAny_call ?_; k_dflt (refine' enter_def (binds := [(Str.ofString "space", Value.ref sp), (Str.ofString "length", Value.int len tl)]) ?k1 ?k2 ?k3 ?k4 ?k5 ?kA ?kF ?kK ?k6 ?k7 ?k8 ?k9 ?kB ?_ ?c2 ?c3 ?c4 ?c5; (case kA => exact rfl); (case kF => exact rfl); (case kK => assumption); (case k1 => k_asm); (case k2 => k_asm); (case k3 => k_asm); (case k4 => k_asm); (case k5 => k_asm); (case k6 => k_is); (case k7 => k_is); (case k8 => ktr_room); (case k9 => exact BindsTo.of_eq rfl); (case c5 => decide); (case kB => exact locs rfl); (case c2 => exact rfl); (case c3 => exact rfl); (case c4 => exact rfl); k_whole; intro g' L' h' hL' kb' lt' F' N' B' X' T'; (try simp only [AllLt, and_true] at lt'); (try dsimp only); (try k_fold)))
  k_steps
  refine' use (collect2_c _ _ _ _ hi hn hz o1 o2 o3 o4 lo kc kc2 kf kf2 h1 h2 b1 b2 b3 c1 c2) ?B ?F ?X ?N ?T ?K ?d ?u ?s ?r ?_; (case B => k_asm); (case F => k_asm); (case X => k_asm); (case N => k_asm); (case T => k_asm); (case K => first | exact rfl | assumption); (case s => lcg_sub); (case r => ((try dsimp only [spL, List.cons_append, List.nil_append]); walk_at "REST")); (case d => ktr_room); (case u => ktr_units)
  intro r9 led9 h9 tk9 F9 N9 P9 M9
  obtain ⟨vs9, ns9, x9, y9, z9, xx1, xx2, f9, e9, hi9, hl9, ss1, ss2, P9⟩ := P9
  subst e9; subst f9; clear M9
  (try dsimp only [spL, List.cons_append, List.nil_append] at N9)
  k_steps
  refine' make_exc _ _ _ _ ?B ?F ?X ?N ?T ?K ?d ?u ?_; (case B => k_asm); (case F => k_asm); (case X => k_asm); (case N => k_asm); (case T => k_asm); (case K => first | exact rfl | assumption); (case d => ktr_room); (case u => ktr_units)
  intro e dx' t' h1' h2' k1' k2' h' tk' F' N' le lt1 lt2
  k_steps
  refine ⟨e, dx', t', _, _, _, _, _, _, _, _, _, _, _, _, _, _, _, _, rfl, (N' _ (.head _)).1, (X'.keeps F'.keep) 34 _ rfl, ?_⟩
  exact fly_first rfl rfl (fun q => by cases q) B' F' (news_sub N' fun p hp => by rcases List.mem_cons.mp hp with rfl | hp; exact .head _; rcases List.mem_cons.mp hp with rfl | hp; exact .tail _ (.head _); exact .tail _ (.tail _ (.tail _ hp))) (Nat.ne_of_lt (Nat.lt_trans lt1 lt2)) (fun q hq => Nat.ne_of_lt (le q hq)) kb' fun B h' Y =>
    hraise e dx' _ B _ h' _ Y ⟨⟨_, _, _, _, _, _, rfl⟩, _, _, _, _, _, _, rfl, hi9, hl9, ss1, ss2, P9⟩
end

theorem KeepBut.more {as bs : List Addr} {h h' : Heap} (k : KeepBut as h h') (s : ∀ a ∈ as, a ∈ bs) : KeepBut bs h h' := fun b o e n => k b o e fun m => n (s b m)
theorem Ctr.mono {w : World} {mean : ExcName → Option Value} {mg mb : Str → Option Value} {d : Nat} {f : Addr} {vs : List Value} {led : List (Addr × Obj)} {Post Post' : Heap → Value → List (Addr × Obj) → Prop}
    (C : Ctr w mean mg mb d f vs led Post) (k : ∀ h r l, Post h r l → Post' h r l) : Ctr w mean mg mb d f vs led Post' := fun dp un gd cn cs a ccd cl outer A₀ base h₀ L m s Q E B F X N T hk hd hu hret =>
  C dp un gd cn cs a ccd cl outer A₀ base h₀ L m s Q E B F X N T hk hd hu fun r led' h' tk' F' N' kb P => hret r led' h' tk' F' N' kb (k _ _ _ P)
theorem Ctr.frame {w : World} {mean : ExcName → Option Value} {mg mb : Str → Option Value} {d : Nat} {f : Addr} {vs : List Value} {led rest : List (Addr × Obj)} {Post : Heap → Value → List (Addr × Obj) → Prop}
    (C : Ctr w mean mg mb d f vs led Post) (hr : ∀ p ∈ rest, ∀ q ∈ led, q.1 ≠ p.1) : Ctr w mean mg mb d f vs (led ++ rest) (fun h r l => ∃ l', Post h r l' ∧ l = l' ++ rest) := fun dp un gd cn cs a ccd cl outer A₀ base h₀ L m s Q E B F X N T hk hd hu hret =>
  C dp un gd cn cs a ccd cl outer A₀ base h₀ L m s Q E B F X (news_sub N fun p hp => List.mem_append_left _ hp) T hk hd hu fun r led' h' tk' F' N' kb P => by
    refine hret r (led' ++ rest) h' tk' F' (news_on N kb N' (fun p hp => List.mem_append_right _ hp) fun p hp hm => ?_) (kb.more fun a ha => ?_) ⟨led', P, rfl⟩
    · obtain ⟨q, hq, e⟩ := List.mem_map.mp hm
      exact hr p hp q hq e
    · rw [List.map_append]; exact List.mem_append_left _ ha

section
variable (w : World) (mean : ExcName → Option Value) (mg mb : Str → Option Value)
theorem alloc0_m {sp dx oc hd wt : Addr} {H : Hk} {n fr c len : Int} {t1 t2 t3 t4 t5 tl : Tok} {vs : List Value} {ns : List Int} {u u' : Nat} (hi : IntsAre vs ns) (hn : n = ns.length) (hz : ns.length ≤ 1000)
    (o1 : @LT.lt Nat _ dx sp) (o2 : @LT.lt Nat _ sp oc) (o3 : @LT.lt Nat _ oc hd) (o4 : @LT.lt Nat _ hd wt) (lo : (hd == sysModules) = false) (kc : 0 ≤ c) (kc2 : c ≤ 1000) (kf : 0 ≤ fr) (kf2 : fr ≤ 1000) (bt : fr ≤ n) (g1 : 0 < len) (g2 : len ≤ 255) (hg : len ≤ fr) :
    Ctr w mean mg mb 6 106 [.ref sp, .int len tl] (spL sp dx oc hd wt H n fr c t1 t2 t3 t4 t5 vs.toArray u #[] u' ++ []) (fun _ r led' => ∃ vs' ns' fr' c' x y, led' = spL sp dx oc hd wt H n fr' c' t1 t2 x t4 y (List.toArray vs') u #[] u' ++ [] ∧ (∃ z, r = .int fr' z) ∧ IntsAre vs' ns' ∧ ns'.length = ns.length ∧ (∀ P : Int → Prop, (∀ x ∈ ns, P x) → ∀ x ∈ ns', P x) ∧ fr' + len ≤ n ∧ 0 ≤ fr' ∧ (len ≤ fr → c' = c ∧ fr' = fr - len) ∧ c ≤ c' ∧ c' ≤ c + 1) := by
    have hh : len ≤ fr := hg
    refine ((alloc_ok w mean mg mb g2 hh o1 o2 o3 o4 (n := n) (c := c) (H := H) (t1 := t1) (t2 := t2) (t3 := t3) (t4 := t4) (t5 := t5) (tl := tl) (vs := vs.toArray) (u := u) (u' := u') (ws := #[])).frame (rest := []) ?_).mono ?_
    · intro p hp q hq
      simp only [spL, List.mem_cons, List.not_mem_nil, or_false] at hp hq
      (try exact hp.elim)
      skip
      all_goals (rcases hq with rfl | rfl | rfl | rfl | rfl <;> (intro he; exact absurd (show @Eq Nat _ _ from he) (by dsimp only; omega)))
    · rintro _ r _ ⟨l', ⟨x, rfl, z, rfl⟩, rfl⟩
      exact ⟨_, _, _, _, _, _, rfl, ⟨_, rfl⟩, hi, rfl, fun P h => h, by omega, by omega, fun _ => ⟨rfl, rfl⟩, by omega, by omega⟩
theorem alloc1_m {sp dx oc hd wt p1 : Addr} {H : Hk} {n fr c len : Int} {t1 t2 t3 t4 t5 tl s1 r1 : Tok} {vs : List Value} {ns : List Int} {u u' u1 : Nat} {a1 l1 : Int} (hi : IntsAre vs ns) (hn : n = ns.length) (hz : ns.length ≤ 1000)
    (o1 : @LT.lt Nat _ dx sp) (o2 : @LT.lt Nat _ sp oc) (o3 : @LT.lt Nat _ oc hd) (o4 : @LT.lt Nat _ hd wt) (lo : (hd == sysModules) = false) (kc : 0 ≤ c) (kc2 : c ≤ 1000) (kf : 0 ≤ fr) (kf2 : fr ≤ 1000)
    (h1 : 0 < l1) (b1 : a1 + l1 ≤ n) (b2 : 0 ≤ a1) (c1 : @LT.lt Nat _ wt p1) (bt : fr ≤ a1) (g1 : 0 < len) (g2 : len ≤ 255) (hg : len ≤ n - l1) :
    Ctr w mean mg mb 6 106 [.ref sp, .int len tl] (spL sp dx oc hd wt H n fr c t1 t2 t3 t4 t5 vs.toArray u #[.ref p1] u' ++ [(p1, listOf #[.int a1 s1, .int l1 r1] u1)]) (fun _ r led' => ∃ vs' ns' fr' c' x y a1' x1, led' = spL sp dx oc hd wt H n fr' c' t1 t2 x t4 y (List.toArray vs') u #[.ref p1] u' ++ [(p1, listOf #[.int a1' x1, .int l1 r1] u1)] ∧ (∃ z, r = .int fr' z) ∧ IntsAre vs' ns' ∧ ns'.length = ns.length ∧ sl ns' a1' l1 = sl ns a1 l1 ∧ (∀ P : Int → Prop, (∀ x ∈ ns, P x) → ∀ x ∈ ns', P x) ∧ a1' + l1 ≤ n ∧ fr' + len ≤ a1' ∧ 0 ≤ fr' ∧ (len ≤ fr → c' = c ∧ fr' = fr - len) ∧ c ≤ c' ∧ c' ≤ c + 1) := by
  by_cases hh : len ≤ fr
  · refine ((alloc_ok w mean mg mb g2 hh o1 o2 o3 o4 (n := n) (c := c) (H := H) (t1 := t1) (t2 := t2) (t3 := t3) (t4 := t4) (t5 := t5) (tl := tl) (vs := vs.toArray) (u := u) (u' := u') (ws := #[.ref p1])).frame (rest := [(p1, listOf #[.int a1 s1, .int l1 r1] u1)]) ?_).mono ?_
    · intro p hp q hq
      simp only [spL, List.mem_cons, List.not_mem_nil, or_false] at hp hq
      (try exact hp.elim)
      obtain rfl := hp
      all_goals (rcases hq with rfl | rfl | rfl | rfl | rfl <;> (intro he; exact absurd (show @Eq Nat _ _ from he) (by dsimp only; omega)))
    · rintro _ r _ ⟨l', ⟨x, rfl, z, rfl⟩, rfl⟩
      exact ⟨_, _, _, _, _, _, _, _, rfl, ⟨_, rfl⟩, hi, rfl, rfl, fun P h => h, by omega, by omega, by omega, fun _ => ⟨rfl, rfl⟩, by omega, by omega⟩
  · refine (allocC1_c w mean mg mb hi hn hz o1 o2 o3 o4 lo kc kc2 kf kf2 h1 b1 b2 c1 g2 (by omega) hg).mono ?_
    rintro _ r _ ⟨vs', ns', x, y, x1, rfl, ⟨z, rfl⟩, hi', hl', ss1, hP⟩
    exact ⟨_, _, _, _, _, _, _, _, rfl, ⟨_, rfl⟩, hi', hl', ss1, hP, by omega, by omega, by omega, fun q => absurd q hh, by omega, by omega⟩
theorem alloc2_m {sp dx oc hd wt p1 p2 : Addr} {H : Hk} {n fr c len : Int} {t1 t2 t3 t4 t5 tl s1 r1 s2 r2 : Tok} {vs : List Value} {ns : List Int} {u u' u1 u2 : Nat} {a1 l1 a2 l2 : Int} (hi : IntsAre vs ns) (hn : n = ns.length) (hz : ns.length ≤ 1000)
    (o1 : @LT.lt Nat _ dx sp) (o2 : @LT.lt Nat _ sp oc) (o3 : @LT.lt Nat _ oc hd) (o4 : @LT.lt Nat _ hd wt) (lo : (hd == sysModules) = false) (kc : 0 ≤ c) (kc2 : c ≤ 1000) (kf : 0 ≤ fr) (kf2 : fr ≤ 1000)
    (h1 : 0 < l1) (h2 : 0 < l2) (b1 : a1 + l1 ≤ n) (b2 : a2 + l2 ≤ a1) (b3 : 0 ≤ a2) (c1 : @LT.lt Nat _ wt p1) (c2 : @LT.lt Nat _ p1 p2) (bt : fr ≤ a2) (g1 : 0 < len) (g2 : len ≤ 255) (hg : len ≤ n - l1 - l2) :
    Ctr w mean mg mb 6 106 [.ref sp, .int len tl] (spL sp dx oc hd wt H n fr c t1 t2 t3 t4 t5 vs.toArray u #[.ref p1, .ref p2] u' ++ [(p1, listOf #[.int a1 s1, .int l1 r1] u1), (p2, listOf #[.int a2 s2, .int l2 r2] u2)]) (fun _ r led' => ∃ vs' ns' fr' c' x y a1' x1 a2' x2, led' = spL sp dx oc hd wt H n fr' c' t1 t2 x t4 y (List.toArray vs') u #[.ref p1, .ref p2] u' ++ [(p1, listOf #[.int a1' x1, .int l1 r1] u1), (p2, listOf #[.int a2' x2, .int l2 r2] u2)] ∧ (∃ z, r = .int fr' z) ∧ IntsAre vs' ns' ∧ ns'.length = ns.length ∧ sl ns' a1' l1 = sl ns a1 l1 ∧ sl ns' a2' l2 = sl ns a2 l2 ∧ (∀ P : Int → Prop, (∀ x ∈ ns, P x) → ∀ x ∈ ns', P x) ∧ a1' + l1 ≤ n ∧ a2' + l2 ≤ a1' ∧ fr' + len ≤ a2' ∧ 0 ≤ fr' ∧ (len ≤ fr → c' = c ∧ fr' = fr - len) ∧ c ≤ c' ∧ c' ≤ c + 1) := by
  by_cases hh : len ≤ fr
  · refine ((alloc_ok w mean mg mb g2 hh o1 o2 o3 o4 (n := n) (c := c) (H := H) (t1 := t1) (t2 := t2) (t3 := t3) (t4 := t4) (t5 := t5) (tl := tl) (vs := vs.toArray) (u := u) (u' := u') (ws := #[.ref p1, .ref p2])).frame (rest := [(p1, listOf #[.int a1 s1, .int l1 r1] u1), (p2, listOf #[.int a2 s2, .int l2 r2] u2)]) ?_).mono ?_
    · intro p hp q hq
      simp only [spL, List.mem_cons, List.not_mem_nil, or_false] at hp hq
      (try exact hp.elim)
      rcases hp with rfl | rfl
      all_goals (rcases hq with rfl | rfl | rfl | rfl | rfl <;> (intro he; exact absurd (show @Eq Nat _ _ from he) (by dsimp only; omega)))
    · rintro _ r _ ⟨l', ⟨x, rfl, z, rfl⟩, rfl⟩
      exact ⟨_, _, _, _, _, _, _, _, _, _, rfl, ⟨_, rfl⟩, hi, rfl, rfl, rfl, fun P h => h, by omega, by omega, by omega, by omega, fun _ => ⟨rfl, rfl⟩, by omega, by omega⟩
  · refine (allocC2_c w mean mg mb hi hn hz o1 o2 o3 o4 lo kc kc2 kf kf2 h1 h2 b1 b2 b3 c1 c2 g2 (by omega) hg).mono ?_
    rintro _ r _ ⟨vs', ns', x, y, x1, x2, rfl, ⟨z, rfl⟩, hi', hl', ss1, ss2, hP⟩
    exact ⟨_, _, _, _, _, _, _, _, _, _, rfl, ⟨_, rfl⟩, hi', hl', ss1, ss2, hP, by omega, by omega, by omega, by omega, fun q => absurd q hh, by omega, by omega⟩
theorem alloc3_m {sp dx oc hd wt p1 p2 p3 : Addr} {H : Hk} {n fr c len : Int} {t1 t2 t3 t4 t5 tl s1 r1 s2 r2 s3 r3 : Tok} {vs : List Value} {ns : List Int} {u u' u1 u2 u3 : Nat} {a1 l1 a2 l2 a3 l3 : Int} (hi : IntsAre vs ns) (hn : n = ns.length) (hz : ns.length ≤ 1000)
    (o1 : @LT.lt Nat _ dx sp) (o2 : @LT.lt Nat _ sp oc) (o3 : @LT.lt Nat _ oc hd) (o4 : @LT.lt Nat _ hd wt) (lo : (hd == sysModules) = false) (kc : 0 ≤ c) (kc2 : c ≤ 1000) (kf : 0 ≤ fr) (kf2 : fr ≤ 1000)
    (h1 : 0 < l1) (h2 : 0 < l2) (h3 : 0 < l3) (b1 : a1 + l1 ≤ n) (b2 : a2 + l2 ≤ a1) (b3 : a3 + l3 ≤ a2) (b4 : 0 ≤ a3) (c1 : @LT.lt Nat _ wt p1) (c2 : @LT.lt Nat _ p1 p2) (c3 : @LT.lt Nat _ p2 p3) (bt : fr ≤ a3) (g1 : 0 < len) (g2 : len ≤ 255) (hg : len ≤ n - l1 - l2 - l3) :
    Ctr w mean mg mb 6 106 [.ref sp, .int len tl] (spL sp dx oc hd wt H n fr c t1 t2 t3 t4 t5 vs.toArray u #[.ref p1, .ref p2, .ref p3] u' ++ [(p1, listOf #[.int a1 s1, .int l1 r1] u1), (p2, listOf #[.int a2 s2, .int l2 r2] u2), (p3, listOf #[.int a3 s3, .int l3 r3] u3)]) (fun _ r led' => ∃ vs' ns' fr' c' x y a1' x1 a2' x2 a3' x3, led' = spL sp dx oc hd wt H n fr' c' t1 t2 x t4 y (List.toArray vs') u #[.ref p1, .ref p2, .ref p3] u' ++ [(p1, listOf #[.int a1' x1, .int l1 r1] u1), (p2, listOf #[.int a2' x2, .int l2 r2] u2), (p3, listOf #[.int a3' x3, .int l3 r3] u3)] ∧ (∃ z, r = .int fr' z) ∧ IntsAre vs' ns' ∧ ns'.length = ns.length ∧ sl ns' a1' l1 = sl ns a1 l1 ∧ sl ns' a2' l2 = sl ns a2 l2 ∧ sl ns' a3' l3 = sl ns a3 l3 ∧ (∀ P : Int → Prop, (∀ x ∈ ns, P x) → ∀ x ∈ ns', P x) ∧ a1' + l1 ≤ n ∧ a2' + l2 ≤ a1' ∧ a3' + l3 ≤ a2' ∧ fr' + len ≤ a3' ∧ 0 ≤ fr' ∧ (len ≤ fr → c' = c ∧ fr' = fr - len) ∧ c ≤ c' ∧ c' ≤ c + 1) := by
  by_cases hh : len ≤ fr
  · refine ((alloc_ok w mean mg mb g2 hh o1 o2 o3 o4 (n := n) (c := c) (H := H) (t1 := t1) (t2 := t2) (t3 := t3) (t4 := t4) (t5 := t5) (tl := tl) (vs := vs.toArray) (u := u) (u' := u') (ws := #[.ref p1, .ref p2, .ref p3])).frame (rest := [(p1, listOf #[.int a1 s1, .int l1 r1] u1), (p2, listOf #[.int a2 s2, .int l2 r2] u2), (p3, listOf #[.int a3 s3, .int l3 r3] u3)]) ?_).mono ?_
    · intro p hp q hq
      simp only [spL, List.mem_cons, List.not_mem_nil, or_false] at hp hq
      (try exact hp.elim)
      rcases hp with rfl | rfl | rfl
      all_goals (rcases hq with rfl | rfl | rfl | rfl | rfl <;> (intro he; exact absurd (show @Eq Nat _ _ from he) (by dsimp only; omega)))
    · rintro _ r _ ⟨l', ⟨x, rfl, z, rfl⟩, rfl⟩
      exact ⟨_, _, _, _, _, _, _, _, _, _, _, _, rfl, ⟨_, rfl⟩, hi, rfl, rfl, rfl, rfl, fun P h => h, by omega, by omega, by omega, by omega, by omega, fun _ => ⟨rfl, rfl⟩, by omega, by omega⟩
  · refine (allocC3_c w mean mg mb hi hn hz o1 o2 o3 o4 lo kc kc2 kf kf2 h1 h2 h3 b1 b2 b3 b4 c1 c2 c3 g2 (by omega) hg).mono ?_
    rintro _ r _ ⟨vs', ns', x, y, x1, x2, x3, rfl, ⟨z, rfl⟩, hi', hl', ss1, ss2, ss3, hP⟩
    exact ⟨_, _, _, _, _, _, _, _, _, _, _, _, rfl, ⟨_, rfl⟩, hi', hl', ss1, ss2, ss3, hP, by omega, by omega, by omega, by omega, by omega, fun q => absurd q hh, by omega, by omega⟩
theorem alloc4_m {sp dx oc hd wt p1 p2 p3 p4 : Addr} {H : Hk} {n fr c len : Int} {t1 t2 t3 t4 t5 tl s1 r1 s2 r2 s3 r3 s4 r4 : Tok} {vs : List Value} {ns : List Int} {u u' u1 u2 u3 u4 : Nat} {a1 l1 a2 l2 a3 l3 a4 l4 : Int} (hi : IntsAre vs ns) (hn : n = ns.length) (hz : ns.length ≤ 1000)
    (o1 : @LT.lt Nat _ dx sp) (o2 : @LT.lt Nat _ sp oc) (o3 : @LT.lt Nat _ oc hd) (o4 : @LT.lt Nat _ hd wt) (lo : (hd == sysModules) = false) (kc : 0 ≤ c) (kc2 : c ≤ 1000) (kf : 0 ≤ fr) (kf2 : fr ≤ 1000)
    (h1 : 0 < l1) (h2 : 0 < l2) (h3 : 0 < l3) (h4 : 0 < l4) (b1 : a1 + l1 ≤ n) (b2 : a2 + l2 ≤ a1) (b3 : a3 + l3 ≤ a2) (b4 : a4 + l4 ≤ a3) (b5 : 0 ≤ a4) (c1 : @LT.lt Nat _ wt p1) (c2 : @LT.lt Nat _ p1 p2) (c3 : @LT.lt Nat _ p2 p3) (c4 : @LT.lt Nat _ p3 p4) (bt : fr ≤ a4) (g1 : 0 < len) (g2 : len ≤ 255) (hg : len ≤ n - l1 - l2 - l3 - l4) :
    Ctr w mean mg mb 6 106 [.ref sp, .int len tl] (spL sp dx oc hd wt H n fr c t1 t2 t3 t4 t5 vs.toArray u #[.ref p1, .ref p2, .ref p3, .ref p4] u' ++ [(p1, listOf #[.int a1 s1, .int l1 r1] u1), (p2, listOf #[.int a2 s2, .int l2 r2] u2), (p3, listOf #[.int a3 s3, .int l3 r3] u3), (p4, listOf #[.int a4 s4, .int l4 r4] u4)]) (fun _ r led' => ∃ vs' ns' fr' c' x y a1' x1 a2' x2 a3' x3 a4' x4, led' = spL sp dx oc hd wt H n fr' c' t1 t2 x t4 y (List.toArray vs') u #[.ref p1, .ref p2, .ref p3, .ref p4] u' ++ [(p1, listOf #[.int a1' x1, .int l1 r1] u1), (p2, listOf #[.int a2' x2, .int l2 r2] u2), (p3, listOf #[.int a3' x3, .int l3 r3] u3), (p4, listOf #[.int a4' x4, .int l4 r4] u4)] ∧ (∃ z, r = .int fr' z) ∧ IntsAre vs' ns' ∧ ns'.length = ns.length ∧ sl ns' a1' l1 = sl ns a1 l1 ∧ sl ns' a2' l2 = sl ns a2 l2 ∧ sl ns' a3' l3 = sl ns a3 l3 ∧ sl ns' a4' l4 = sl ns a4 l4 ∧ (∀ P : Int → Prop, (∀ x ∈ ns, P x) → ∀ x ∈ ns', P x) ∧ a1' + l1 ≤ n ∧ a2' + l2 ≤ a1' ∧ a3' + l3 ≤ a2' ∧ a4' + l4 ≤ a3' ∧ fr' + len ≤ a4' ∧ 0 ≤ fr' ∧ (len ≤ fr → c' = c ∧ fr' = fr - len) ∧ c ≤ c' ∧ c' ≤ c + 1) := by
  by_cases hh : len ≤ fr
  · refine ((alloc_ok w mean mg mb g2 hh o1 o2 o3 o4 (n := n) (c := c) (H := H) (t1 := t1) (t2 := t2) (t3 := t3) (t4 := t4) (t5 := t5) (tl := tl) (vs := vs.toArray) (u := u) (u' := u') (ws := #[.ref p1, .ref p2, .ref p3, .ref p4])).frame (rest := [(p1, listOf #[.int a1 s1, .int l1 r1] u1), (p2, listOf #[.int a2 s2, .int l2 r2] u2), (p3, listOf #[.int a3 s3, .int l3 r3] u3), (p4, listOf #[.int a4 s4, .int l4 r4] u4)]) ?_).mono ?_
    · intro p hp q hq
      simp only [spL, List.mem_cons, List.not_mem_nil, or_false] at hp hq
      (try exact hp.elim)
      rcases hp with rfl | rfl | rfl | rfl
      all_goals (rcases hq with rfl | rfl | rfl | rfl | rfl <;> (intro he; exact absurd (show @Eq Nat _ _ from he) (by dsimp only; omega)))
    · rintro _ r _ ⟨l', ⟨x, rfl, z, rfl⟩, rfl⟩
      exact ⟨_, _, _, _, _, _, _, _, _, _, _, _, _, _, rfl, ⟨_, rfl⟩, hi, rfl, rfl, rfl, rfl, rfl, fun P h => h, by omega, by omega, by omega, by omega, by omega, by omega, fun _ => ⟨rfl, rfl⟩, by omega, by omega⟩
  · refine (allocC4_c w mean mg mb hi hn hz o1 o2 o3 o4 lo kc kc2 kf kf2 h1 h2 h3 h4 b1 b2 b3 b4 b5 c1 c2 c3 c4 g2 (by omega) hg).mono ?_
    rintro _ r _ ⟨vs', ns', x, y, x1, x2, x3, x4, rfl, ⟨z, rfl⟩, hi', hl', ss1, ss2, ss3, ss4, hP⟩
    exact ⟨_, _, _, _, _, _, _, _, _, _, _, _, _, _, rfl, ⟨_, rfl⟩, hi', hl', ss1, ss2, ss3, ss4, hP, by omega, by omega, by omega, by omega, by omega, by omega, fun q => absurd q hh, by omega, by omega⟩
end

theorem pl_off {ns1 ns9 ms : List Int} {fr1 a l len : Int} (hw : ns9 = wr ns1 fr1.toNat ms) (f0 : 0 ≤ fr1) (hm : (ms.length : Int) = len) (hb : fr1 + len ≤ a) (hl : a + l ≤ ns1.length ∧ 0 ≤ l) : sl ns9 a l = sl ns1 a l := by
  rw [hw]; exact sl_wr_off f0 (by omega) (by omega) (.inr (by omega))
theorem pl_self {ns1 ns9 ms : List Int} {fr1 len : Int} (hw : ns9 = wr ns1 fr1.toNat ms) (f0 : 0 ≤ fr1) (hm : (ms.length : Int) = len) (hl : fr1 + len ≤ ns1.length) : sl ns9 fr1 len = ms := by
  rw [hw]; exact sl_wr_self f0 hm hl
section
variable (w : World) (mean : ExcName → Option Value) (mg mb : Str → Option Value)
open KStt LCg
theorem placed0_c {sp dx oc hd wt : Addr} {H : Hk} {n fr c : Int} {t1 t2 t3 t4 t5 : Tok} {vs : List Value} {ns : List Int} {u u' : Nat} {tx : Str} {tt : Tok} (hi : IntsAre vs ns) (hn : n = ns.length) (hz : ns.length ≤ 1000)
    (o1 : @LT.lt Nat _ dx sp) (o2 : @LT.lt Nat _ sp oc) (o3 : @LT.lt Nat _ oc hd) (o4 : @LT.lt Nat _ hd wt) (lo : (hd == sysModules) = false) (kc : 0 ≤ c) (kc2 : c ≤ 1000) (kf : 0 ≤ fr) (kf2 : fr ≤ 1000) (bt : fr ≤ n) (g1 : 0 < (tx.length : Int)) (g2 : (tx.length : Int) ≤ 255) (hg : (tx.length : Int) ≤ fr) (ha : tx.cps.all (· < 128) = true) :
    Ctr w mean mg mb 8 113 [.ref sp, .str tx tt] (spL sp dx oc hd wt H n fr c t1 t2 t3 t4 t5 vs.toArray u #[] u' ++ []) (fun hp r led' => ∃ vs' ns' fr' c' x y D z1 z2 u9, led' = spL sp dx oc hd wt H n fr' c' t1 t2 x t4 y (List.toArray vs') u #[] u' ++ [(D, listOf #[.int fr' z1, .int (tx.length : Int) z2] u9)] ∧ r = .ref D ∧ hp.get? D = none ∧ @LT.lt Nat _ wt D ∧ IntsAre vs' ns' ∧ ns'.length = ns.length ∧ sl ns' fr' (tx.length : Int) = codes tx ∧ (∀ P : Int → Prop, (∀ x ∈ ns, P x) → (∀ x ∈ codes tx, P x) → ∀ x ∈ ns', P x) ∧ fr' + (tx.length : Int) ≤ n ∧ 0 ≤ fr' ∧ ((tx.length : Int) ≤ fr → c' = c ∧ fr' = fr - (tx.length : Int)) ∧ c ≤ c' ∧ c' ≤ c + 1) := by
  unfold Ctr
  k_fill
  intro dp un gd cn cs a' ccd cl outer A₀ base h₀ L m s Q E B F X N T hk hd' hu hret
  (try dsimp only [spL, List.cons_append, List.nil_append] at N)
  (refine wpAny_call ?_; k_dflt (refine' enter_def (binds := [(Str.ofString "space", Value.ref sp), (Str.ofString "text", Value.str tx tt)]) ?k1 ?k2 ?k3 ?k4 ?k5 ?kA ?kF ?kK ?k6 ?k7 ?k8 ?k9 ?kB ?_ ?c2 ?c3 ?c4 ?c5; (case kA => exact rfl); (case kF => exact rfl); (case kK => assumption); (case k1 => k_asm); (case k2 => k_asm); (case k3 => k_asm); (case k4 => k_asm); (case k5 => k_asm); (case k6 => k_is); (case k7 => k_is); (case k8 => ktr_room); (case k9 => exact BindsTo.of_eq rfl); (case c5 => decide); (case kB => exact locs rfl); (case c2 => exact rfl); (case c3 => exact rfl); (case c4 => exact rfl); k_whole; intro g' L' h' hL' kb' lt' F' N' B' X' T'; (try simp only [AllLt, and_true] at lt'); (try dsimp only); (try k_fold)))
  have hcl := codes_length tx
  k_steps
  refine' use (alloc0_m _ _ _ _ hi hn hz o1 o2 o3 o4 lo kc kc2 kf kf2 bt g1 g2 hg) ?B ?F ?X ?N ?T ?K ?d ?u ?s ?r ?_; (case B => k_asm); (case F => k_asm); (case X => k_asm); (case N => k_asm); (case T => k_asm); (case K => first | exact rfl | assumption); (case s => lcg_sub); (case r => ((try dsimp only [spL, List.cons_append, List.nil_append]); walk_at "REST")); (case d => ktr_room); (case u => ktr_units)
  intro r9 led9 h9 tk9 F9 N9 P9 M9
  obtain ⟨vs1, ns1, fr1, cc1, x1, y1, f9, ⟨z9, e9⟩, hi1, hl1, PP1, ch1, fr0, cc0, cc3, cc4⟩ := P9
  subst e9; subst f9; clear M9
  (try dsimp only [spL, List.cons_append, List.nil_append] at N9)
  k_steps
  refine' use (octets_of_c _ _ _ _ ha (by omega)) ?B ?F ?X ?N ?T ?K ?d ?u ?s ?r ?_; (case B => k_asm); (case F => k_asm); (case X => k_asm); (case N => k_asm); (case T => k_asm); (case K => first | exact rfl | assumption); (case s => lcg_sub); (case r => ((try dsimp only [spL, List.cons_append, List.nil_append]); walk_at "REST")); (case d => ktr_room); (case u => ktr_units)
  intro r9 led9 h9 tk9 F9 N9 P9 M9
  obtain ⟨D9, vs9, e9, f9, o9, i9⟩ := P9
  subst e9; subst f9; replace o9 := AllNe.of (off_fresh M9 o9); clear M9
  (try simp only [AllNe, and_true] at o9); (repeat (obtain ⟨_, o9⟩ := o9))
  (try dsimp only [spL, List.cons_append, List.nil_append] at N9)
  k_steps
  rename IntsAre _ _ => hiW
  rename _ = wr _ _ _ => hwr
  rename List.length _ = List.length _ => hlW
  refine' hret _ _ _ _ ?cF (news_sub ?cN ?cS) ?cK ⟨_, _, _, _, _, _, _, _, _, _, rfl, rfl, ?cD, ?cL, hiW, hlW.trans hl1, pl_self hwr fr0 (by omega) (by omega), fun P p1 p2 => hwr ▸ wr_all (PP1 P p1) p2, ch1, fr0, cc0, cc3, cc4⟩
  case cL => omega
  case cF => k_asm
  case cN => assumption
  case cS => ((try dsimp only [spL, List.cons_append, List.nil_append]); lcg_sub)
  case cK => exact KeepBut.fr kb' (by k_asm)
  case cD => exact fresh_of kb' (by assumption) (.head _) (by (try dsimp only [spL, List.cons_append, List.nil_append]); walk_at "NOTIN")
end

section
variable (w : World) (mean : ExcName → Option Value) (mg mb : Str → Option Value)
open KStt LCg
theorem placed1_c {sp dx oc hd wt p1 : Addr} {H : Hk} {n fr c : Int} {t1 t2 t3 t4 t5 s1 r1 : Tok} {vs : List Value} {ns : List Int} {u u' u1 : Nat} {a1 l1 : Int} {tx : Str} {tt : Tok} (hi : IntsAre vs ns) (hn : n = ns.length) (hz : ns.length ≤ 1000)
    (o1 : @LT.lt Nat _ dx sp) (o2 : @LT.lt Nat _ sp oc) (o3 : @LT.lt Nat _ oc hd) (o4 : @LT.lt Nat _ hd wt) (lo : (hd == sysModules) = false) (kc : 0 ≤ c) (kc2 : c ≤ 1000) (kf : 0 ≤ fr) (kf2 : fr ≤ 1000)
    (h1 : 0 < l1) (b1 : a1 + l1 ≤ n) (b2 : 0 ≤ a1) (c1 : @LT.lt Nat _ wt p1) (bt : fr ≤ a1) (g1 : 0 < (tx.length : Int)) (g2 : (tx.length : Int) ≤ 255) (hg : (tx.length : Int) ≤ n - l1) (ha : tx.cps.all (· < 128) = true) :
    Ctr w mean mg mb 8 113 [.ref sp, .str tx tt] (spL sp dx oc hd wt H n fr c t1 t2 t3 t4 t5 vs.toArray u #[.ref p1] u' ++ [(p1, listOf #[.int a1 s1, .int l1 r1] u1)]) (fun hp r led' => ∃ vs' ns' fr' c' x y a1' x1 D z1 z2 u9, led' = spL sp dx oc hd wt H n fr' c' t1 t2 x t4 y (List.toArray vs') u #[.ref p1] u' ++ [(p1, listOf #[.int a1' x1, .int l1 r1] u1), (D, listOf #[.int fr' z1, .int (tx.length : Int) z2] u9)] ∧ r = .ref D ∧ hp.get? D = none ∧ @LT.lt Nat _ p1 D ∧ IntsAre vs' ns' ∧ ns'.length = ns.length ∧ sl ns' a1' l1 = sl ns a1 l1 ∧ sl ns' fr' (tx.length : Int) = codes tx ∧ (∀ P : Int → Prop, (∀ x ∈ ns, P x) → (∀ x ∈ codes tx, P x) → ∀ x ∈ ns', P x) ∧ a1' + l1 ≤ n ∧ fr' + (tx.length : Int) ≤ a1' ∧ 0 ≤ fr' ∧ ((tx.length : Int) ≤ fr → c' = c ∧ fr' = fr - (tx.length : Int)) ∧ c ≤ c' ∧ c' ≤ c + 1) := by
  unfold Ctr
  k_fill
  intro dp un gd cn cs a' ccd cl outer A₀ base h₀ L m s Q E B F X N T hk hd' hu hret
  (try dsimp only [spL, List.cons_append, List.nil_append] at N)
  (refine wpAny_call ?_; k_dflt (refine' enter_def (binds := [(Str.ofString "space", Value.ref sp), (Str.ofString "text", Value.str tx tt)]) ?k1 ?k2 ?k3 ?k4 ?k5 ?kA ?kF ?kK ?k6 ?k7 ?k8 ?k9 ?kB ?_ ?c2 ?c3 ?c4 ?c5; (case kA => exact rfl); (case kF => exact rfl); (case kK => assumption); (case k1 => k_asm); (case k2 => k_asm); (case k3 => k_asm); (case k4 => k_asm); (case k5 => k_asm); (case k6 => k_is); (case k7 => k_is); (case k8 => ktr_room); (case k9 => exact BindsTo.of_eq rfl); (case c5 => decide); (case kB => exact locs rfl); (case c2 => exact rfl); (case c3 => exact rfl); (case c4 => exact rfl); k_whole; intro g' L' h' hL' kb' lt' F' N' B' X' T'; (try simp only [AllLt, and_true] at lt'); (try dsimp only); (try k_fold)))
  have hcl := codes_length tx
  k_steps
  refine' use (alloc1_m _ _ _ _ hi hn hz o1 o2 o3 o4 lo kc kc2 kf kf2 h1 b1 b2 c1 bt g1 g2 hg) ?B ?F ?X ?N ?T ?K ?d ?u ?s ?r ?_; (case B => k_asm); (case F => k_asm); (case X => k_asm); (case N => k_asm); (case T => k_asm); (case K => first | exact rfl | assumption); (case s => lcg_sub); (case r => ((try dsimp only [spL, List.cons_append, List.nil_append]); walk_at "REST")); (case d => ktr_room); (case u => ktr_units)
  intro r9 led9 h9 tk9 F9 N9 P9 M9
  obtain ⟨vs1, ns1, fr1, cc1, x1, y1, aa1, xx1, f9, ⟨z9, e9⟩, hi1, hl1, ss1, PP1, ch1, ch2, fr0, cc0, cc3, cc4⟩ := P9
  subst e9; subst f9; clear M9
  (try dsimp only [spL, List.cons_append, List.nil_append] at N9)
  k_steps
  refine' use (octets_of_c _ _ _ _ ha (by omega)) ?B ?F ?X ?N ?T ?K ?d ?u ?s ?r ?_; (case B => k_asm); (case F => k_asm); (case X => k_asm); (case N => k_asm); (case T => k_asm); (case K => first | exact rfl | assumption); (case s => lcg_sub); (case r => ((try dsimp only [spL, List.cons_append, List.nil_append]); walk_at "REST")); (case d => ktr_room); (case u => ktr_units)
  intro r9 led9 h9 tk9 F9 N9 P9 M9
  obtain ⟨D9, vs9, e9, f9, o9, i9⟩ := P9
  subst e9; subst f9; replace o9 := AllNe.of (off_fresh M9 o9); clear M9
  (try simp only [AllNe, and_true] at o9); (repeat (obtain ⟨_, o9⟩ := o9))
  (try dsimp only [spL, List.cons_append, List.nil_append] at N9)
  k_steps
  rename IntsAre _ _ => hiW
  rename _ = wr _ _ _ => hwr
  rename List.length _ = List.length _ => hlW
  refine' hret _ _ _ _ ?cF (news_sub ?cN ?cS) ?cK ⟨_, _, _, _, _, _, _, _, _, _, _, _, rfl, rfl, ?cD, ?cL, hiW, hlW.trans hl1, (pl_off (len := (tx.length : Int)) hwr fr0 (by omega) (by omega) (by omega)).trans ss1, pl_self hwr fr0 (by omega) (by omega), fun P p1 p2 => hwr ▸ wr_all (PP1 P p1) p2, ch1, ch2, fr0, cc0, cc3, cc4⟩
  case cL => omega
  case cF => k_asm
  case cN => assumption
  case cS => ((try dsimp only [spL, List.cons_append, List.nil_append]); lcg_sub)
  case cK => exact KeepBut.fr kb' (by k_asm)
  case cD => exact fresh_of kb' (by assumption) (.head _) (by (try dsimp only [spL, List.cons_append, List.nil_append]); walk_at "NOTIN")
end

section
variable (w : World) (mean : ExcName → Option Value) (mg mb : Str → Option Value)
open KStt LCg
theorem placed2_c {sp dx oc hd wt p1 p2 : Addr} {H : Hk} {n fr c : Int} {t1 t2 t3 t4 t5 s1 r1 s2 r2 : Tok} {vs : List Value} {ns : List Int} {u u' u1 u2 : Nat} {a1 l1 a2 l2 : Int} {tx : Str} {tt : Tok} (hi : IntsAre vs ns) (hn : n = ns.length) (hz : ns.length ≤ 1000)
    (o1 : @LT.lt Nat _ dx sp) (o2 : @LT.lt Nat _ sp oc) (o3 : @LT.lt Nat _ oc hd) (o4 : @LT.lt Nat _ hd wt) (lo : (hd == sysModules) = false) (kc : 0 ≤ c) (kc2 : c ≤ 1000) (kf : 0 ≤ fr) (kf2 : fr ≤ 1000)
    (h1 : 0 < l1) (h2 : 0 < l2) (b1 : a1 + l1 ≤ n) (b2 : a2 + l2 ≤ a1) (b3 : 0 ≤ a2) (c1 : @LT.lt Nat _ wt p1) (c2 : @LT.lt Nat _ p1 p2) (bt : fr ≤ a2) (g1 : 0 < (tx.length : Int)) (g2 : (tx.length : Int) ≤ 255) (hg : (tx.length : Int) ≤ n - l1 - l2) (ha : tx.cps.all (· < 128) = true) :
    Ctr w mean mg mb 8 113 [.ref sp, .str tx tt] (spL sp dx oc hd wt H n fr c t1 t2 t3 t4 t5 vs.toArray u #[.ref p1, .ref p2] u' ++ [(p1, listOf #[.int a1 s1, .int l1 r1] u1), (p2, listOf #[.int a2 s2, .int l2 r2] u2)]) (fun hp r led' => ∃ vs' ns' fr' c' x y a1' x1 a2' x2 D z1 z2 u9, led' = spL sp dx oc hd wt H n fr' c' t1 t2 x t4 y (List.toArray vs') u #[.ref p1, .ref p2] u' ++ [(p1, listOf #[.int a1' x1, .int l1 r1] u1), (p2, listOf #[.int a2' x2, .int l2 r2] u2), (D, listOf #[.int fr' z1, .int (tx.length : Int) z2] u9)] ∧ r = .ref D ∧ hp.get? D = none ∧ @LT.lt Nat _ p2 D ∧ IntsAre vs' ns' ∧ ns'.length = ns.length ∧ sl ns' a1' l1 = sl ns a1 l1 ∧ sl ns' a2' l2 = sl ns a2 l2 ∧ sl ns' fr' (tx.length : Int) = codes tx ∧ (∀ P : Int → Prop, (∀ x ∈ ns, P x) → (∀ x ∈ codes tx, P x) → ∀ x ∈ ns', P x) ∧ a1' + l1 ≤ n ∧ a2' + l2 ≤ a1' ∧ fr' + (tx.length : Int) ≤ a2' ∧ 0 ≤ fr' ∧ ((tx.length : Int) ≤ fr → c' = c ∧ fr' = fr - (tx.length : Int)) ∧ c ≤ c' ∧ c' ≤ c + 1) := by
  unfold Ctr
  k_fill
  intro dp un gd cn cs a' ccd cl outer A₀ base h₀ L m s Q E B F X N T hk hd' hu hret
  (try dsimp only [spL, List.cons_append, List.nil_append] at N)
  (refine wpAny_call ?_; k_dflt (refine' enter_def (binds := [(Str.ofString "space", Value.ref sp), (Str.ofString "text", Value.str tx tt)]) ?k1 ?k2 ?k3 ?k4 ?k5 ?kA ?kF ?kK ?k6 ?k7 ?k8 ?k9 ?kB ?_ ?c2 ?c3 ?c4 ?c5; (case kA => exact rfl); (case kF => exact rfl); (case kK => assumption); (case k1 => k_asm); (case k2 => k_asm); (case k3 => k_asm); (case k4 => k_asm); (case k5 => k_asm); (case k6 => k_is); (case k7 => k_is); (case k8 => ktr_room); (case k9 => exact BindsTo.of_eq rfl); (case c5 => decide); (case kB => exact locs rfl); (case c2 => exact rfl); (case c3 => exact rfl); (case c4 => exact rfl); k_whole; intro g' L' h' hL' kb' lt' F' N' B' X' T'; (try simp only [AllLt, and_true] at lt'); (try dsimp only); (try k_fold)))
  have hcl := codes_length tx
  k_steps
  refine' use (alloc2_m _ _ _ _ hi hn hz o1 o2 o3 o4 lo kc kc2 kf kf2 h1 h2 b1 b2 b3 c1 c2 bt g1 g2 hg) ?B ?F ?X ?N ?T ?K ?d ?u ?s ?r ?_; (case B => k_asm); (case F => k_asm); (case X => k_asm); (case N => k_asm); (case T => k_asm); (case K => first | exact rfl | assumption); (case s => lcg_sub); (case r => ((try dsimp only [spL, List.cons_append, List.nil_append]); walk_at "REST")); (case d => ktr_room); (case u => ktr_units)
  intro r9 led9 h9 tk9 F9 N9 P9 M9
  obtain ⟨vs1, ns1, fr1, cc1, x1, y1, aa1, xx1, aa2, xx2, f9, ⟨z9, e9⟩, hi1, hl1, ss1, ss2, PP1, ch1, ch2, ch3, fr0, cc0, cc3, cc4⟩ := P9
  subst e9; subst f9; clear M9
  (try dsimp only [spL, List.cons_append, List.nil_append] at N9)
  k_steps
  refine' use (octets_of_c _ _ _ _ ha (by omega)) ?B ?F ?X ?N ?T ?K ?d ?u ?s ?r ?_; (case B => k_asm); (case F => k_asm); (case X => k_asm); (case N => k_asm); (case T => k_asm); (case K => first | exact rfl | assumption); (case s => lcg_sub); (case r => ((try dsimp only [spL, List.cons_append, List.nil_append]); walk_at "REST")); (case d => ktr_room); (case u => ktr_units)
  intro r9 led9 h9 tk9 F9 N9 P9 M9
  obtain ⟨D9, vs9, e9, f9, o9, i9⟩ := P9
  subst e9; subst f9; replace o9 := AllNe.of (off_fresh M9 o9); clear M9
  (try simp only [AllNe, and_true] at o9); (repeat (obtain ⟨_, o9⟩ := o9))
  (try dsimp only [spL, List.cons_append, List.nil_append] at N9)
  k_steps
  rename IntsAre _ _ => hiW
  rename _ = wr _ _ _ => hwr
  rename List.length _ = List.length _ => hlW
  refine' hret _ _ _ _ ?cF (news_sub ?cN ?cS) ?cK ⟨_, _, _, _, _, _, _, _, _, _, _, _, _, _, rfl, rfl, ?cD, ?cL, hiW, hlW.trans hl1, (pl_off (len := (tx.length : Int)) hwr fr0 (by omega) (by omega) (by omega)).trans ss1, (pl_off (len := (tx.length : Int)) hwr fr0 (by omega) (by omega) (by omega)).trans ss2, pl_self hwr fr0 (by omega) (by omega), fun P p1 p2 => hwr ▸ wr_all (PP1 P p1) p2, ch1, ch2, ch3, fr0, cc0, cc3, cc4⟩
  case cL => omega
  case cF => k_asm
  case cN => assumption
  case cS => ((try dsimp only [spL, List.cons_append, List.nil_append]); lcg_sub)
  case cK => exact KeepBut.fr kb' (by k_asm)
  case cD => exact fresh_of kb' (by assumption) (.head _) (by (try dsimp only [spL, List.cons_append, List.nil_append]); walk_at "NOTIN")
end

section
variable (w : World) (mean : ExcName → Option Value) (mg mb : Str → Option Value)
open KStt LCg
theorem placed3_c {sp dx oc hd wt p1 p2 p3 : Addr} {H : Hk} {n fr c : Int} {t1 t2 t3 t4 t5 s1 r1 s2 r2 s3 r3 : Tok} {vs : List Value} {ns : List Int} {u u' u1 u2 u3 : Nat} {a1 l1 a2 l2 a3 l3 : Int} {tx : Str} {tt : Tok} (hi : IntsAre vs ns) (hn : n = ns.length) (hz : ns.length ≤ 1000)
    (o1 : @LT.lt Nat _ dx sp) (o2 : @LT.lt Nat _ sp oc) (o3 : @LT.lt Nat _ oc hd) (o4 : @LT.lt Nat _ hd wt) (lo : (hd == sysModules) = false) (kc : 0 ≤ c) (kc2 : c ≤ 1000) (kf : 0 ≤ fr) (kf2 : fr ≤ 1000)
    (h1 : 0 < l1) (h2 : 0 < l2) (h3 : 0 < l3) (b1 : a1 + l1 ≤ n) (b2 : a2 + l2 ≤ a1) (b3 : a3 + l3 ≤ a2) (b4 : 0 ≤ a3) (c1 : @LT.lt Nat _ wt p1) (c2 : @LT.lt Nat _ p1 p2) (c3 : @LT.lt Nat _ p2 p3) (bt : fr ≤ a3) (g1 : 0 < (tx.length : Int)) (g2 : (tx.length : Int) ≤ 255) (hg : (tx.length : Int) ≤ n - l1 - l2 - l3) (ha : tx.cps.all (· < 128) = true) :
    Ctr w mean mg mb 8 113 [.ref sp, .str tx tt] (spL sp dx oc hd wt H n fr c t1 t2 t3 t4 t5 vs.toArray u #[.ref p1, .ref p2, .ref p3] u' ++ [(p1, listOf #[.int a1 s1, .int l1 r1] u1), (p2, listOf #[.int a2 s2, .int l2 r2] u2), (p3, listOf #[.int a3 s3, .int l3 r3] u3)]) (fun hp r led' => ∃ vs' ns' fr' c' x y a1' x1 a2' x2 a3' x3 D z1 z2 u9, led' = spL sp dx oc hd wt H n fr' c' t1 t2 x t4 y (List.toArray vs') u #[.ref p1, .ref p2, .ref p3] u' ++ [(p1, listOf #[.int a1' x1, .int l1 r1] u1), (p2, listOf #[.int a2' x2, .int l2 r2] u2), (p3, listOf #[.int a3' x3, .int l3 r3] u3), (D, listOf #[.int fr' z1, .int (tx.length : Int) z2] u9)] ∧ r = .ref D ∧ hp.get? D = none ∧ @LT.lt Nat _ p3 D ∧ IntsAre vs' ns' ∧ ns'.length = ns.length ∧ sl ns' a1' l1 = sl ns a1 l1 ∧ sl ns' a2' l2 = sl ns a2 l2 ∧ sl ns' a3' l3 = sl ns a3 l3 ∧ sl ns' fr' (tx.length : Int) = codes tx ∧ (∀ P : Int → Prop, (∀ x ∈ ns, P x) → (∀ x ∈ codes tx, P x) → ∀ x ∈ ns', P x) ∧ a1' + l1 ≤ n ∧ a2' + l2 ≤ a1' ∧ a3' + l3 ≤ a2' ∧ fr' + (tx.length : Int) ≤ a3' ∧ 0 ≤ fr' ∧ ((tx.length : Int) ≤ fr → c' = c ∧ fr' = fr - (tx.length : Int)) ∧ c ≤ c' ∧ c' ≤ c + 1) := by
  unfold Ctr
  k_fill
  intro dp un gd cn cs a' ccd cl outer A₀ base h₀ L m s Q E B F X N T hk hd' hu hret
  (try dsimp only [spL, List.cons_append, List.nil_append] at N)
  (refine wpAny_call ?_; k_dflt (refine' enter_def (binds := [(Str.ofString "space", Value.ref sp), (Str.ofString "text", Value.str tx tt)]) ?k1 ?k2 ?k3 ?k4 ?k5 ?kA ?kF ?kK ?k6 ?k7 ?k8 ?k9 ?kB ?_ ?c2 ?c3 ?c4 ?c5; (case kA => exact rfl); (case kF => exact rfl); (case kK => assumption); (case k1 => k_asm); (case k2 => k_asm); (case k3 => k_asm); (case k4 => k_asm); (case k5 => k_asm); (case k6 => k_is); (case k7 => k_is); (case k8 => ktr_room); (case k9 => exact BindsTo.of_eq rfl); (case c5 => decide); (case kB => exact locs rfl); (case c2 => exact rfl); (case c3 => exact rfl); (case c4 => exact rfl); k_whole; intro g' L' h' hL' kb' lt' F' N' B' X' T'; (try simp only [AllLt, and_true] at lt'); (try dsimp only); (try k_fold)))
  have hcl := codes_length tx
  k_steps
  refine' use (alloc3_m _ _ _ _ hi hn hz o1 o2 o3 o4 lo kc kc2 kf kf2 h1 h2 h3 b1 b2 b3 b4 c1 c2 c3 bt g1 g2 hg) ?B ?F ?X ?N ?T ?K ?d ?u ?s ?r ?_; (case B => k_asm); (case F => k_asm); (case X => k_asm); (case N => k_asm); (case T => k_asm); (case K => first | exact rfl | assumption); (case s => lcg_sub); (case r => ((try dsimp only [spL, List.cons_append, List.nil_append]); walk_at "REST")); (case d => ktr_room); (case u => ktr_units)
  intro r9 led9 h9 tk9 F9 N9 P9 M9
  obtain ⟨vs1, ns1, fr1, cc1, x1, y1, aa1, xx1, aa2, xx2, aa3, xx3, f9, ⟨z9, e9⟩, hi1, hl1, ss1, ss2, ss3, PP1, ch1, ch2, ch3, ch4, fr0, cc0, cc3, cc4⟩ := P9
  subst e9; subst f9; clear M9
  (try dsimp only [spL, List.cons_append, List.nil_append] at N9)
  k_steps
  refine' use (octets_of_c _ _ _ _ ha (by omega)) ?B ?F ?X ?N ?T ?K ?d ?u ?s ?r ?_; (case B => k_asm); (case F => k_asm); (case X => k_asm); (case N => k_asm); (case T => k_asm); (case K => first | exact rfl | assumption); (case s => lcg_sub); (case r => ((try dsimp only [spL, List.cons_append, List.nil_append]); walk_at "REST")); (case d => ktr_room); (case u => ktr_units)
  intro r9 led9 h9 tk9 F9 N9 P9 M9
  obtain ⟨D9, vs9, e9, f9, o9, i9⟩ := P9
  subst e9; subst f9; replace o9 := AllNe.of (off_fresh M9 o9); clear M9
  (try simp only [AllNe, and_true] at o9); (repeat (obtain ⟨_, o9⟩ := o9))
  (try dsimp only [spL, List.cons_append, List.nil_append] at N9)
  k_steps
  rename IntsAre _ _ => hiW
  rename _ = wr _ _ _ => hwr
  rename List.length _ = List.length _ => hlW
  refine' hret _ _ _ _ ?cF (news_sub ?cN ?cS) ?cK ⟨_, _, _, _, _, _, _, _, _, _, _, _, _, _, _, _, rfl, rfl, ?cD, ?cL, hiW, hlW.trans hl1, (pl_off (len := (tx.length : Int)) hwr fr0 (by omega) (by omega) (by omega)).trans ss1, (pl_off (len := (tx.length : Int)) hwr fr0 (by omega) (by omega) (by omega)).trans ss2, (pl_off (len := (tx.length : Int)) hwr fr0 (by omega) (by omega) (by omega)).trans ss3, pl_self hwr fr0 (by omega) (by omega), fun P p1 p2 => hwr ▸ wr_all (PP1 P p1) p2, ch1, ch2, ch3, ch4, fr0, cc0, cc3, cc4⟩
  case cL => omega
  case cF => k_asm
  case cN => assumption
  case cS => ((try dsimp only [spL, List.cons_append, List.nil_append]); lcg_sub)
  case cK => exact KeepBut.fr kb' (by k_asm)
  case cD => exact fresh_of kb' (by assumption) (.head _) (by (try dsimp only [spL, List.cons_append, List.nil_append]); walk_at "NOTIN")
end

theorem fresh_call {as : List Addr} {h g h' : Heap} {L D : Addr} {m : Str → Option Value} (kb : KeepBut as h g) (F : Fr g L h' m) (o : h'.get? D = none) (hn : D ∉ as) : h.get? D = none := by
  cases e : h.get? D with
  | none => rfl
  | some o' => rw [F.keep _ _ (kb _ _ e hn)] at o; cases o
section
variable (w : World) (mean : ExcName → Option Value) (mg mb : Str → Option Value)
open KStt LCg
theorem push0_c {sp dx oc hd wt : Addr} {H : Hk} {n fr c : Int} {t1 t2 t3 t4 t5 : Tok} {vs : List Value} {ns : List Int} {u u' : Nat} {tx : Str} {tt : Tok} (hi : IntsAre vs ns) (hn : n = ns.length) (hz : ns.length ≤ 1000)
    (o1 : @LT.lt Nat _ dx sp) (o2 : @LT.lt Nat _ sp oc) (o3 : @LT.lt Nat _ oc hd) (o4 : @LT.lt Nat _ hd wt) (lo : (hd == sysModules) = false) (kc : 0 ≤ c) (kc2 : c ≤ 1000) (kf : 0 ≤ fr) (kf2 : fr ≤ 1000) (bt : fr ≤ n) (g1 : 0 < (tx.length : Int)) (g2 : (tx.length : Int) ≤ 255) (hg : (tx.length : Int) ≤ fr) (ha : tx.cps.all (· < 128) = true) :
    Ctr w mean mg mb 10 120 [.ref sp, .str tx tt] (spL sp dx oc hd wt H n fr c t1 t2 t3 t4 t5 vs.toArray u #[] u' ++ []) (fun hp r led' => ∃ vs' ns' fr' c' x y D z1 z2 u9 uw, led' = spL sp dx oc hd wt H n fr' c' t1 t2 x t4 y (List.toArray vs') u #[.ref D] uw ++ [(D, listOf #[.int fr' z1, .int (tx.length : Int) z2] u9)] ∧ r = .none ∧ hp.get? D = none ∧ @LT.lt Nat _ wt D ∧ IntsAre vs' ns' ∧ ns'.length = ns.length ∧ sl ns' fr' (tx.length : Int) = codes tx ∧ (∀ P : Int → Prop, (∀ x ∈ ns, P x) → (∀ x ∈ codes tx, P x) → ∀ x ∈ ns', P x) ∧ fr' + (tx.length : Int) ≤ n ∧ 0 ≤ fr' ∧ ((tx.length : Int) ≤ fr → c' = c ∧ fr' = fr - (tx.length : Int)) ∧ c ≤ c' ∧ c' ≤ c + 1) := by
  unfold Ctr
  k_fill
  intro dp un gd cn cs a' ccd cl outer A₀ base h₀ L m s Q E B F X N T hk hd' hu hret
  (try dsimp only [spL, List.cons_append, List.nil_append] at N)
  (refine wpAny_call ?_; k_dflt (refine' enter_def (binds := [(Str.ofString "space", Value.ref sp), (Str.ofString "text", Value.str tx tt)]) ?k1 ?k2 ?k3 ?k4 ?k5 ?kA ?kF ?kK ?k6 ?k7 ?k8 ?k9 ?kB ?_ ?c2 ?c3 ?c4 ?c5; (case kA => exact rfl); (case kF => exact rfl); (case kK => assumption); (case k1 => k_asm); (case k2 => k_asm); (case k3 => k_asm); (case k4 => k_asm); (case k5 => k_asm); (case k6 => k_is); (case k7 => k_is); (case k8 => ktr_room); (case k9 => exact BindsTo.of_eq rfl); (case c5 => decide); (case kB => exact locs rfl); (case c2 => exact rfl); (case c3 => exact rfl); (case c4 => exact rfl); k_whole; intro g' L' h' hL' kb' lt' F' N' B' X' T'; (try simp only [AllLt, and_true] at lt'); (try dsimp only); (try k_fold)))
  k_steps
  refine' use (placed0_c _ _ _ _ hi hn hz o1 o2 o3 o4 lo kc kc2 kf kf2 bt g1 g2 hg ha) ?B ?F ?X ?N ?T ?K ?d ?u ?s ?r ?_; (case B => k_asm); (case F => k_asm); (case X => k_asm); (case N => k_asm); (case T => k_asm); (case K => first | exact rfl | assumption); (case s => lcg_sub); (case r => ((try dsimp only [spL, List.cons_append, List.nil_append]); walk_at "REST")); (case d => ktr_room); (case u => ktr_units)
  intro r9 led9 h9 tk9 F9 N9 P9 M9
  obtain ⟨vs1, ns1, fr1, cc1, x1, y1, D9, z1, z2, u9, f9, e9, o9, lD9, hi1, hl1, sn, PP1, ch1, fr0, cc0, cc3, cc4⟩ := P9
  subst e9; subst f9
  have oD := o9
  replace o9 := AllNe.of (off_fresh M9 o9); clear M9
  (try simp only [AllNe, and_true] at o9); (repeat (obtain ⟨_, o9⟩ := o9))
  replace oD := fresh_call kb' F' oD (by (try dsimp only [spL, List.cons_append, List.nil_append]); walk_at "NOTIN")
  (try dsimp only [spL, List.cons_append, List.nil_append] at N9)
  k_steps
  refine' hret _ _ _ _ ?cF (news_sub ?cN ?cS) ?cK ⟨_, _, _, _, _, _, _, _, _, _, _, rfl, rfl, oD, lD9, hi1, hl1, sn, PP1, ch1, fr0, cc0, cc3, cc4⟩
  case cF => k_asm
  case cN => assumption
  case cS => ((try dsimp only [spL, List.cons_append, List.nil_append]); lcg_sub)
  case cK => exact KeepBut.fr kb' (by k_asm)
end

section
variable (w : World) (mean : ExcName → Option Value) (mg mb : Str → Option Value)
open KStt LCg
theorem push1_c {sp dx oc hd wt p1 : Addr} {H : Hk} {n fr c : Int} {t1 t2 t3 t4 t5 s1 r1 : Tok} {vs : List Value} {ns : List Int} {u u' u1 : Nat} {a1 l1 : Int} {tx : Str} {tt : Tok} (hi : IntsAre vs ns) (hn : n = ns.length) (hz : ns.length ≤ 1000)
    (o1 : @LT.lt Nat _ dx sp) (o2 : @LT.lt Nat _ sp oc) (o3 : @LT.lt Nat _ oc hd) (o4 : @LT.lt Nat _ hd wt) (lo : (hd == sysModules) = false) (kc : 0 ≤ c) (kc2 : c ≤ 1000) (kf : 0 ≤ fr) (kf2 : fr ≤ 1000)
    (h1 : 0 < l1) (b1 : a1 + l1 ≤ n) (b2 : 0 ≤ a1) (c1 : @LT.lt Nat _ wt p1) (bt : fr ≤ a1) (g1 : 0 < (tx.length : Int)) (g2 : (tx.length : Int) ≤ 255) (hg : (tx.length : Int) ≤ n - l1) (ha : tx.cps.all (· < 128) = true) :
    Ctr w mean mg mb 10 120 [.ref sp, .str tx tt] (spL sp dx oc hd wt H n fr c t1 t2 t3 t4 t5 vs.toArray u #[.ref p1] u' ++ [(p1, listOf #[.int a1 s1, .int l1 r1] u1)]) (fun hp r led' => ∃ vs' ns' fr' c' x y a1' x1 D z1 z2 u9 uw, led' = spL sp dx oc hd wt H n fr' c' t1 t2 x t4 y (List.toArray vs') u #[.ref p1, .ref D] uw ++ [(p1, listOf #[.int a1' x1, .int l1 r1] u1), (D, listOf #[.int fr' z1, .int (tx.length : Int) z2] u9)] ∧ r = .none ∧ hp.get? D = none ∧ @LT.lt Nat _ p1 D ∧ IntsAre vs' ns' ∧ ns'.length = ns.length ∧ sl ns' a1' l1 = sl ns a1 l1 ∧ sl ns' fr' (tx.length : Int) = codes tx ∧ (∀ P : Int → Prop, (∀ x ∈ ns, P x) → (∀ x ∈ codes tx, P x) → ∀ x ∈ ns', P x) ∧ a1' + l1 ≤ n ∧ fr' + (tx.length : Int) ≤ a1' ∧ 0 ≤ fr' ∧ ((tx.length : Int) ≤ fr → c' = c ∧ fr' = fr - (tx.length : Int)) ∧ c ≤ c' ∧ c' ≤ c + 1) := by
  unfold Ctr
  k_fill
  intro dp un gd cn cs a' ccd cl outer A₀ base h₀ L m s Q E B F X N T hk hd' hu hret
  (try dsimp only [spL, List.cons_append, List.nil_append] at N)
  (refine wpAny_call ?_; k_dflt (refine' enter_def (binds := [(Str.ofString "space", Value.ref sp), (Str.ofString "text", Value.str tx tt)]) ?k1 ?k2 ?k3 ?k4 ?k5 ?kA ?kF ?kK ?k6 ?k7 ?k8 ?k9 ?kB ?_ ?c2 ?c3 ?c4 ?c5; (case kA => exact rfl); (case kF => exact rfl); (case kK => assumption); (case k1 => k_asm); (case k2 => k_asm); (case k3 => k_asm); (case k4 => k_asm); (case k5 => k_asm); (case k6 => k_is); (case k7 => k_is); (case k8 => ktr_room); (case k9 => exact BindsTo.of_eq rfl); (case c5 => decide); (case kB => exact locs rfl); (case c2 => exact rfl); (case c3 => exact rfl); (case c4 => exact rfl); k_whole; intro g' L' h' hL' kb' lt' F' N' B' X' T'; (try simp only [AllLt, and_true] at lt'); (try dsimp only); (try k_fold)))
  k_steps
  refine' use (placed1_c _ _ _ _ hi hn hz o1 o2 o3 o4 lo kc kc2 kf kf2 h1 b1 b2 c1 bt g1 g2 hg ha) ?B ?F ?X ?N ?T ?K ?d ?u ?s ?r ?_; (case B => k_asm); (case F => k_asm); (case X => k_asm); (case N => k_asm); (case T => k_asm); (case K => first | exact rfl | assumption); (case s => lcg_sub); (case r => ((try dsimp only [spL, List.cons_append, List.nil_append]); walk_at "REST")); (case d => ktr_room); (case u => ktr_units)
  intro r9 led9 h9 tk9 F9 N9 P9 M9
  obtain ⟨vs1, ns1, fr1, cc1, x1, y1, aa1, xx1, D9, z1, z2, u9, f9, e9, o9, lD9, hi1, hl1, ss1, sn, PP1, ch1, ch2, fr0, cc0, cc3, cc4⟩ := P9
  subst e9; subst f9
  have oD := o9
  replace o9 := AllNe.of (off_fresh M9 o9); clear M9
  (try simp only [AllNe, and_true] at o9); (repeat (obtain ⟨_, o9⟩ := o9))
  replace oD := fresh_call kb' F' oD (by (try dsimp only [spL, List.cons_append, List.nil_append]); walk_at "NOTIN")
  (try dsimp only [spL, List.cons_append, List.nil_append] at N9)
  k_steps
  refine' hret _ _ _ _ ?cF (news_sub ?cN ?cS) ?cK ⟨_, _, _, _, _, _, _, _, _, _, _, _, _, rfl, rfl, oD, lD9, hi1, hl1, ss1, sn, PP1, ch1, ch2, fr0, cc0, cc3, cc4⟩
  case cF => k_asm
  case cN => assumption
  case cS => ((try dsimp only [spL, List.cons_append, List.nil_append]); lcg_sub)
  case cK => exact KeepBut.fr kb' (by k_asm)
end

section
variable (w : World) (mean : ExcName → Option Value) (mg mb : Str → Option Value)
open KStt LCg
theorem push2_c {sp dx oc hd wt p1 p2 : Addr} {H : Hk} {n fr c : Int} {t1 t2 t3 t4 t5 s1 r1 s2 r2 : Tok} {vs : List Value} {ns : List Int} {u u' u1 u2 : Nat} {a1 l1 a2 l2 : Int} {tx : Str} {tt : Tok} (hi : IntsAre vs ns) (hn : n = ns.length) (hz : ns.length ≤ 1000)
    (o1 : @LT.lt Nat _ dx sp) (o2 : @LT.lt Nat _ sp oc) (o3 : @LT.lt Nat _ oc hd) (o4 : @LT.lt Nat _ hd wt) (lo : (hd == sysModules) = false) (kc : 0 ≤ c) (kc2 : c ≤ 1000) (kf : 0 ≤ fr) (kf2 : fr ≤ 1000)
    (h1 : 0 < l1) (h2 : 0 < l2) (b1 : a1 + l1 ≤ n) (b2 : a2 + l2 ≤ a1) (b3 : 0 ≤ a2) (c1 : @LT.lt Nat _ wt p1) (c2 : @LT.lt Nat _ p1 p2) (bt : fr ≤ a2) (g1 : 0 < (tx.length : Int)) (g2 : (tx.length : Int) ≤ 255) (hg : (tx.length : Int) ≤ n - l1 - l2) (ha : tx.cps.all (· < 128) = true) :
    Ctr w mean mg mb 10 120 [.ref sp, .str tx tt] (spL sp dx oc hd wt H n fr c t1 t2 t3 t4 t5 vs.toArray u #[.ref p1, .ref p2] u' ++ [(p1, listOf #[.int a1 s1, .int l1 r1] u1), (p2, listOf #[.int a2 s2, .int l2 r2] u2)]) (fun hp r led' => ∃ vs' ns' fr' c' x y a1' x1 a2' x2 D z1 z2 u9 uw, led' = spL sp dx oc hd wt H n fr' c' t1 t2 x t4 y (List.toArray vs') u #[.ref p1, .ref p2, .ref D] uw ++ [(p1, listOf #[.int a1' x1, .int l1 r1] u1), (p2, listOf #[.int a2' x2, .int l2 r2] u2), (D, listOf #[.int fr' z1, .int (tx.length : Int) z2] u9)] ∧ r = .none ∧ hp.get? D = none ∧ @LT.lt Nat _ p2 D ∧ IntsAre vs' ns' ∧ ns'.length = ns.length ∧ sl ns' a1' l1 = sl ns a1 l1 ∧ sl ns' a2' l2 = sl ns a2 l2 ∧ sl ns' fr' (tx.length : Int) = codes tx ∧ (∀ P : Int → Prop, (∀ x ∈ ns, P x) → (∀ x ∈ codes tx, P x) → ∀ x ∈ ns', P x) ∧ a1' + l1 ≤ n ∧ a2' + l2 ≤ a1' ∧ fr' + (tx.length : Int) ≤ a2' ∧ 0 ≤ fr' ∧ ((tx.length : Int) ≤ fr → c' = c ∧ fr' = fr - (tx.length : Int)) ∧ c ≤ c' ∧ c' ≤ c + 1) := by
  unfold Ctr
  k_fill
  intro dp un gd cn cs a' ccd cl outer A₀ base h₀ L m s Q E B F X N T hk hd' hu hret
  (try dsimp only [spL, List.cons_append, List.nil_append] at N)
  (refine wpAny_call ?_; k_dflt (refine' enter_def (binds := [(Str.ofString "space", Value.ref sp), (Str.ofString "text", Value.str tx tt)]) ?k1 ?k2 ?k3 ?k4 ?k5 ?kA ?kF ?kK ?k6 ?k7 ?k8 ?k9 ?kB ?_ ?c2 ?c3 ?c4 ?c5; (case kA => exact rfl); (case kF => exact rfl); (case kK => assumption); (case k1 => k_asm); (case k2 => k_asm); (case k3 => k_asm); (case k4 => k_asm); (case k5 => k_asm); (case k6 => k_is); (case k7 => k_is); (case k8 => ktr_room); (case k9 => exact BindsTo.of_eq rfl); (case c5 => decide); (case kB => exact locs rfl); (case c2 => exact rfl); (case c3 => exact rfl); (case c4 => exact rfl); k_whole; intro g' L' h' hL' kb' lt' F' N' B' X' T'; (try simp only [AllLt, and_true] at lt'); (try dsimp only); (try k_fold)))
  k_steps
  refine' use (placed2_c _ _ _ _ hi hn hz o1 o2 o3 o4 lo kc kc2 kf kf2 h1 h2 b1 b2 b3 c1 c2 bt g1 g2 hg ha) ?B ?F ?X ?N ?T ?K ?d ?u ?s ?r ?_; (case B => k_asm); (case F => k_asm); (case X => k_asm); (case N => k_asm); (case T => k_asm); (case K => first | exact rfl | assumption); (case s => lcg_sub); (case r => ((try dsimp only [spL, List.cons_append, List.nil_append]); walk_at "REST")); (case d => ktr_room); (case u => ktr_units)
  intro r9 led9 h9 tk9 F9 N9 P9 M9
  obtain ⟨vs1, ns1, fr1, cc1, x1, y1, aa1, xx1, aa2, xx2, D9, z1, z2, u9, f9, e9, o9, lD9, hi1, hl1, ss1, ss2, sn, PP1, ch1, ch2, ch3, fr0, cc0, cc3, cc4⟩ := P9
  subst e9; subst f9
  have oD := o9
  replace o9 := AllNe.of (off_fresh M9 o9); clear M9
  (try simp only [AllNe, and_true] at o9); (repeat (obtain ⟨_, o9⟩ := o9))
  replace oD := fresh_call kb' F' oD (by (try dsimp only [spL, List.cons_append, List.nil_append]); walk_at "NOTIN")
  (try dsimp only [spL, List.cons_append, List.nil_append] at N9)
  k_steps
  refine' hret _ _ _ _ ?cF (news_sub ?cN ?cS) ?cK ⟨_, _, _, _, _, _, _, _, _, _, _, _, _, _, _, rfl, rfl, oD, lD9, hi1, hl1, ss1, ss2, sn, PP1, ch1, ch2, ch3, fr0, cc0, cc3, cc4⟩
  case cF => k_asm
  case cN => assumption
  case cS => ((try dsimp only [spL, List.cons_append, List.nil_append]); lcg_sub)
  case cK => exact KeepBut.fr kb' (by k_asm)
end

section
variable (w : World) (mean : ExcName → Option Value) (mg mb : Str → Option Value)
open KStt LCg
theorem push3_c {sp dx oc hd wt p1 p2 p3 : Addr} {H : Hk} {n fr c : Int} {t1 t2 t3 t4 t5 s1 r1 s2 r2 s3 r3 : Tok} {vs : List Value} {ns : List Int} {u u' u1 u2 u3 : Nat} {a1 l1 a2 l2 a3 l3 : Int} {tx : Str} {tt : Tok} (hi : IntsAre vs ns) (hn : n = ns.length) (hz : ns.length ≤ 1000)
    (o1 : @LT.lt Nat _ dx sp) (o2 : @LT.lt Nat _ sp oc) (o3 : @LT.lt Nat _ oc hd) (o4 : @LT.lt Nat _ hd wt) (lo : (hd == sysModules) = false) (kc : 0 ≤ c) (kc2 : c ≤ 1000) (kf : 0 ≤ fr) (kf2 : fr ≤ 1000)
    (h1 : 0 < l1) (h2 : 0 < l2) (h3 : 0 < l3) (b1 : a1 + l1 ≤ n) (b2 : a2 + l2 ≤ a1) (b3 : a3 + l3 ≤ a2) (b4 : 0 ≤ a3) (c1 : @LT.lt Nat _ wt p1) (c2 : @LT.lt Nat _ p1 p2) (c3 : @LT.lt Nat _ p2 p3) (bt : fr ≤ a3) (g1 : 0 < (tx.length : Int)) (g2 : (tx.length : Int) ≤ 255) (hg : (tx.length : Int) ≤ n - l1 - l2 - l3) (ha : tx.cps.all (· < 128) = true) :
    Ctr w mean mg mb 10 120 [.ref sp, .str tx tt] (spL sp dx oc hd wt H n fr c t1 t2 t3 t4 t5 vs.toArray u #[.ref p1, .ref p2, .ref p3] u' ++ [(p1, listOf #[.int a1 s1, .int l1 r1] u1), (p2, listOf #[.int a2 s2, .int l2 r2] u2), (p3, listOf #[.int a3 s3, .int l3 r3] u3)]) (fun hp r led' => ∃ vs' ns' fr' c' x y a1' x1 a2' x2 a3' x3 D z1 z2 u9 uw, led' = spL sp dx oc hd wt H n fr' c' t1 t2 x t4 y (List.toArray vs') u #[.ref p1, .ref p2, .ref p3, .ref D] uw ++ [(p1, listOf #[.int a1' x1, .int l1 r1] u1), (p2, listOf #[.int a2' x2, .int l2 r2] u2), (p3, listOf #[.int a3' x3, .int l3 r3] u3), (D, listOf #[.int fr' z1, .int (tx.length : Int) z2] u9)] ∧ r = .none ∧ hp.get? D = none ∧ @LT.lt Nat _ p3 D ∧ IntsAre vs' ns' ∧ ns'.length = ns.length ∧ sl ns' a1' l1 = sl ns a1 l1 ∧ sl ns' a2' l2 = sl ns a2 l2 ∧ sl ns' a3' l3 = sl ns a3 l3 ∧ sl ns' fr' (tx.length : Int) = codes tx ∧ (∀ P : Int → Prop, (∀ x ∈ ns, P x) → (∀ x ∈ codes tx, P x) → ∀ x ∈ ns', P x) ∧ a1' + l1 ≤ n ∧ a2' + l2 ≤ a1' ∧ a3' + l3 ≤ a2' ∧ fr' + (tx.length : Int) ≤ a3' ∧ 0 ≤ fr' ∧ ((tx.length : Int) ≤ fr → c' = c ∧ fr' = fr - (tx.length : Int)) ∧ c ≤ c' ∧ c' ≤ c + 1) := by
  unfold Ctr
  k_fill
  intro dp un gd cn cs a' ccd cl outer A₀ base h₀ L m s Q E B F X N T hk hd' hu hret
  (try dsimp only [spL, List.cons_append, List.nil_append] at N)
  (refine wpAny_call ?_; k_dflt (refine' enter_def (binds := [(Str.ofString "space", Value.ref sp), (Str.ofString "text", Value.str tx tt)]) ?k1 ?k2 ?k3 ?k4 ?k5 ?kA ?kF ?kK ?k6 ?k7 ?k8 ?k9 ?kB ?_ ?c2 ?c3 ?c4 ?c5; (case kA => exact rfl); (case kF => exact rfl); (case kK => assumption); (case k1 => k_asm); (case k2 => k_asm); (case k3 => k_asm); (case k4 => k_asm); (case k5 => k_asm); (case k6 => k_is); (case k7 => k_is); (case k8 => ktr_room); (case k9 => exact BindsTo.of_eq rfl); (case c5 => decide); (case kB => exact locs rfl); (case c2 => exact rfl); (case c3 => exact rfl); (case c4 => exact rfl); k_whole; intro g' L' h' hL' kb' lt' F' N' B' X' T'; (try simp only [AllLt, and_true] at lt'); (try dsimp only); (try k_fold)))
  k_steps
  refine' use (placed3_c _ _ _ _ hi hn hz o1 o2 o3 o4 lo kc kc2 kf kf2 h1 h2 h3 b1 b2 b3 b4 c1 c2 c3 bt g1 g2 hg ha) ?B ?F ?X ?N ?T ?K ?d ?u ?s ?r ?_; (case B => k_asm); (case F => k_asm); (case X => k_asm); (case N => k_asm); (case T => k_asm); (case K => first | exact rfl | assumption); (case s => lcg_sub); (case r => ((try dsimp only [spL, List.cons_append, List.nil_append]); walk_at "REST")); (case d => ktr_room); (case u => ktr_units)
  intro r9 led9 h9 tk9 F9 N9 P9 M9
  obtain ⟨vs1, ns1, fr1, cc1, x1, y1, aa1, xx1, aa2, xx2, aa3, xx3, D9, z1, z2, u9, f9, e9, o9, lD9, hi1, hl1, ss1, ss2, ss3, sn, PP1, ch1, ch2, ch3, ch4, fr0, cc0, cc3, cc4⟩ := P9
  subst e9; subst f9
  have oD := o9
  replace o9 := AllNe.of (off_fresh M9 o9); clear M9
  (try simp only [AllNe, and_true] at o9); (repeat (obtain ⟨_, o9⟩ := o9))
  replace oD := fresh_call kb' F' oD (by (try dsimp only [spL, List.cons_append, List.nil_append]); walk_at "NOTIN")
  (try dsimp only [spL, List.cons_append, List.nil_append] at N9)
  k_steps
  refine' hret _ _ _ _ ?cF (news_sub ?cN ?cS) ?cK ⟨_, _, _, _, _, _, _, _, _, _, _, _, _, _, _, _, _, rfl, rfl, oD, lD9, hi1, hl1, ss1, ss2, ss3, sn, PP1, ch1, ch2, ch3, ch4, fr0, cc0, cc3, cc4⟩
  case cF => k_asm
  case cN => assumption
  case cS => ((try dsimp only [spL, List.cons_append, List.nil_append]); lcg_sub)
  case cK => exact KeepBut.fr kb' (by k_asm)
end

theorem txt_len (l : List Int) : (KStt.txt l).length = l.length := by simp [KStt.txt, Str.length]
theorem txt_app {A B : List Int} (ha : ∀ x ∈ A, 0 ≤ x ∧ x < 128) (hb : ∀ x ∈ B, 0 ≤ x ∧ x < 128) : KStt.txt A ++ KStt.txt B = KStt.txt (A ++ B) := by
  apply codes_inj
  rw [codes_append, codes_txt fun x h => (ha x h).1, codes_txt fun x h => (hb x h).1, codes_txt fun x h => ?_]
  rcases List.mem_append.mp h with h | h
  · exact (ha x h).1
  · exact (hb x h).1
theorem txt_ascii {A : List Int} (ha : ∀ x ∈ A, 0 ≤ x ∧ x < 128) : (KStt.txt A).cps.all (· < 128) = true := by
  simp only [KStt.txt, List.all_toArray, List.all_map, List.all_eq_true]
  intro x hx
  have := ha x hx
  simp only [Function.comp_apply, decide_eq_true_eq]
  omega
theorem cat_ascii {A B : List Int} (ha : ∀ x ∈ A, 0 ≤ x ∧ x < 128) (hb : ∀ x ∈ B, 0 ≤ x ∧ x < 128) : (KStt.txt A ++ KStt.txt B).cps.all (· < 128) = true := by
  rw [txt_app ha hb]
  exact txt_ascii fun x h => (List.mem_append.mp h).elim (ha x) (hb x)
open KStt in
theorem cat_codes {A B : List Int} (ha : ∀ x ∈ A, 0 ≤ x ∧ x < 128) (hb : ∀ x ∈ B, 0 ≤ x ∧ x < 128) : codes (KStt.txt A ++ KStt.txt B) = A ++ B := by
  rw [txt_app ha hb, codes_txt fun x h => ?_]
  rcases List.mem_append.mp h with h | h
  · exact (ha x h).1
  · exact (hb x h).1

section
variable {prog : Program} {w : World} {A : Around} {E : Value → Shared → Prop} {h : Heap} {g : Array GenState} {d : Drawn} {t : Nat} {os : OsState}
theorem sl_index : typeLookup (.type "slice") "__index__" = pure none := by rw [typeLookup_type, builtinLookup_eq_fast]; kernel_rfl
theorem int_index : typeLookup (.type "int") "__index__" = pure (some (.builtin "int.__index__")) := by rw [typeLookup_type, builtinLookup_eq_fast]; kernel_rfl
theorem neg2_arr (pre : List Value) (v1 v2 x : Value) : (((pre ++ [v1, v2]).toArray.extract 0 (max 0 (min (if (-2 : Int) < 0 then -2 + (((pre ++ [v1, v2]).toArray.size : Nat) : Int) else -2) (((pre ++ [v1, v2]).toArray.size : Nat) : Int))).toNat ++ #[x]) ++
    (pre ++ [v1, v2]).toArray.extract (max (max 0 (min (if (-2 : Int) < 0 then -2 + (((pre ++ [v1, v2]).toArray.size : Nat) : Int) else -2) (((pre ++ [v1, v2]).toArray.size : Nat) : Int))) (if (1 : Int) > 0 then (((pre ++ [v1, v2]).toArray.size : Nat) : Int) else -1)).toNat) = (pre ++ [x]).toArray := by
  have hs : (pre ++ [v1, v2]).toArray.size = pre.length + 2 := by simp
  rw [hs, if_pos (by decide), if_pos (by decide)]
  rw [show (max 0 (min (-2 + ((pre.length + 2 : Nat) : Int)) ((pre.length + 2 : Nat) : Int))).toNat = pre.length by omega,
    show (max (max 0 (min (-2 + ((pre.length + 2 : Nat) : Int)) ((pre.length + 2 : Nat) : Int))) ((pre.length + 2 : Nat) : Int)).toNat = pre.length + 2 by omega]
  apply Array.toList_inj.mp
  simp
theorem set_neg2_run {wt sl l' : Addr} {tk : Tok} {x v1 v2 : Value} {pre : List Value} {u u2 : Nat} {Q : PySem.Fin → Shared → Prop} (hw : h.get? wt = some (listOf (pre ++ [v1, v2]).toArray u)) (hs : h.get? sl = some { cls := .type "slice", data := .fields #[.int (-2) tk, .none, .none] })
    (hl : h.get? l' = some (listOf #[x] u2)) (hne : (wt == l') = false) (hz : pre.length ≤ 100)
    (hq : ∀ h' u', Heap.SameBut wt h h' → h'.get? wt = some (listOf (pre ++ [x]).toArray u') → Q (.done (.ret .none)) ⟨h', g, d, t, os⟩) :
    wpAny (model prog w) A (Builtin.«list.__setitem__» ⟨[.ref wt, .ref sl, .ref l'], []⟩) Q E ⟨h, g, d, t, os⟩ := by
  have hi := sl_index
  have hj := int_index
  have hsr : Builtin.List.listSameRef (Value.ref wt) (Value.ref l') = false := hne
  have hlt : Builtin.List.listTooLong ((pre ++ [v1, v2]).toArray.size + #[x].size) = false := by
    unfold Builtin.List.listTooLong
    simp only [List.size_toArray, List.length_append, List.length_cons, List.length_nil, decide_eq_false_iff_not, sizeLine_eq]
    omega
  have na := neg2_arr pre v1 v2 x
  unfold Builtin.«list.__setitem__»
  repeat (any_goals (first | assumption | (with_reducible refine wpAny_loadPart_at hs ?_) | (with_reducible refine wpAny_loadPart_at hl ?_) | (with_reducible refine wpAny_loadPart_at hw ?_) | (with_reducible refine wpAny_of_eq hj ?_) | wp_step | (simp only [hsr, hlt, Bool.false_eq_true, if_false])))
  have key : ∀ F : Array Value → Array Value, F (pre ++ [v1, v2]).toArray = (pre ++ [x]).toArray → ∃ un, Obj.mapSeq F (listOf (pre ++ [v1, v2]).toArray u) = listOf (pre ++ [x]).toArray un := fun F hF => by
    refine ⟨if (pre ++ [x]).toArray.size == (pre ++ [v1, v2]).toArray.size then u else u + 1, ?_⟩
    simp only [Obj.mapSeq, W.listOf, hF]
  generalize hF : (fun xs : Array Value => xs.extract 0 (max 0 (min (if (-2 : Int) < 0 then -2 + (((pre ++ [v1, v2]).toArray.size : Nat) : Int) else -2) (((pre ++ [v1, v2]).toArray.size : Nat) : Int))).toNat ++ #[x] ++
    xs.extract (max (max 0 (min (if (-2 : Int) < 0 then -2 + (((pre ++ [v1, v2]).toArray.size : Nat) : Int) else -2) (((pre ++ [v1, v2]).toArray.size : Nat) : Int))) (if (1 : Int) > 0 then (((pre ++ [v1, v2]).toArray.size : Nat) : Int) else -1)).toNat) = F
  have hFw : F (pre ++ [v1, v2]).toArray = (pre ++ [x]).toArray := by rw [← hF]; exact na
  obtain ⟨un, hun⟩ := key F hFw
  have hpl : (W.listOf (pre ++ [x]).toArray un).data.pastItsLine = none := by
    show Data.pastItsLine (.seq _ _) = none
    unfold Data.pastItsLine
    simp only [List.size_toArray, List.length_append, List.length_cons, List.length_nil, sizeLine_eq]
    rw [if_neg (by omega)]
  have hw' := Heap.get?_update_self (Obj.mapSeq F) hw (by rw [hun]; rfl)
  rw [hun, hpl]
  refine wpAny_pure ?_
  repeat wp_step
  exact hq _ un ⟨Heap.size_update _ _ _, fun b hb => Heap.get?_update_other _ _ (Ne.symm hb)⟩ (hw'.trans (congrArg some hun))
end
theorem setItem_neg2 {prog : Program} {w : World} {A : Around} {E : Value → Shared → Prop} {hh : Heap} {g : Array GenState} {d : Drawn} {t : Nat} {os : OsState} {h₀ : Heap} {L : Addr} {m : Str → Option Value} {news rest : List (Addr × Obj)}
    {wt l' : Addr} {tk : Tok} {x v1 v2 : Value} {pre : List Value} {u u2 : Nat} {Q : Unit → Shared → Prop} (F : Fr h₀ L hh m) (N : News h₀ L hh news) (hw : (wt, W.listOf (pre ++ [v1, v2]).toArray u) ∈ news) (hl : (l', W.listOf #[x] u2) ∈ news) (hne : (wt == l') = false) (hz : pre.length ≤ 100)
    (hr : Rest [(wt, W.listOf (pre ++ [v1, v2]).toArray u)] news rest)
    (hq : ∀ h' u', Fr h₀ L h' m → News h₀ L h' ((wt, W.listOf (pre ++ [x]).toArray u') :: rest) → Q () ⟨h', g, d, t, os⟩) :
    wpAny (model prog w) A (setItem (.ref wt) (.ref hh.objs.size) (.ref l')) Q E ⟨hh.push { cls := .type "slice", data := .fields #[.int (-2) tk, .none, .none] }, g, d, t, os⟩ := by
  have hw0 := Heap.get?_push_of_some { cls := .type "slice", data := .fields #[.int (-2) tk, .none, .none] } (N _ hw).1
  have hl0 := Heap.get?_push_of_some { cls := .type "slice", data := .fields #[.int (-2) tk, .none, .none] } (N _ hl).1
  have hs0 : (hh.push { cls := .type "slice", data := .fields #[.int (-2) tk, .none, .none] }).get? hh.objs.size = some { cls := .type "slice", data := .fields #[.int (-2) tk, .none, .none] } := Heap.get?_push_at rfl rfl
  have F0 := F.push { cls := .type "slice", data := .fields #[.int (-2) tk, .none, .none] }
  have hT : (⟨hh.push { cls := .type "slice", data := .fields #[.int (-2) tk, .none, .none] }, g, d, t, os⟩ : Shared).TypeIs (.ref wt) "list" := ⟨_, hw0, rfl⟩
  have hlk := PySem.F.slot_list_setitem.lookup
  unfold setItem sequenceKey
  repeat (any_goals (first | assumption | (with_reducible refine wpAny_loadPart_at hw0 ?_) | (with_reducible refine wpAny_callSpecial?_slot hT PySem.F.slot_list_setitem ?_) | wp_step))
  refine codeAny_call_builtin PySem.F.slot_list_setitem.plain PySem.F.entry_list_setitem (PySem.F.slot_list_setitem.check _ _ _ _ _ _ _ _ hT (PySem.F.args_list_setitem_3 _ _ _) (set_neg2_run hw0 hs0 hl0 hne hz fun h' u' sb ho => ?_))
  refine wpAny_pure (hq h' u' (F0.change sb (N _ hw).2.1 (N _ hw).2.2) fun p hp => ?_)
  rcases List.mem_cons.mp hp with rfl | hp
  · exact ⟨ho, (N _ hw).2⟩
  · obtain ⟨h1, h2⟩ := hr.mem p hp
    exact ⟨(sb.2 _ (Ne.symm (h2 _ (.head _)))).trans (Heap.get?_push_of_some _ (N p h1).1), (N p h1).2⟩

section
variable (w : World) (mean : ExcName → Option Value) (mg mb : Str → Option Value)
open KStt LCg
local macro_rules | `(tactic| walk_at "call ref") => `(tactic| (k_here; (with_reducible show wpAny _ _ (call (Value.ref 68) _) _ _ _); k_dflt (refine' use (text_at_c _ _ _ _ ?hi ?h0 ?h2 ?h1 ?hz ?hr) ?B ?F ?X ?N ?T ?K ?d ?u ?s ?r ?_; (case B => k_asm); (case F => k_asm); (case X => k_asm); (case N => k_asm); (case T => k_asm); (case K => first | exact rfl | assumption); (case s => lcg_sub); (case r => ((try dsimp only [spL, List.cons_append, List.nil_append]); walk_at "REST")); (case d => ktr_room); (case u => ktr_units); (case hi => l_ints); (case h0 => omega); (case h2 => omega); (case h1 => omega); (case hz => omega); (case hr => with_reducible assumption)); (intro r9 led9 h9 tk9 F9 N9 P9 M9; obtain ⟨f9, t9, e9⟩ := P9; subst e9; subst f9; clear M9; (try dsimp only [spL, List.cons_append, List.nil_append] at N9); (try k_sweep); (try dsimp only))))
theorem join2_c {sp dx oc hd wt p1 p2 : Addr} {H : Hk} {n fr c : Int} {t1 t2 t3 t4 t5 s1 r1 s2 r2 : Tok} {vs : List Value} {ns : List Int} {u u' u1 u2 : Nat} {a1 l1 a2 l2 : Int} (hi : IntsAre vs ns) (hn : n = ns.length) (hz : ns.length ≤ 1000)
    (o1 : @LT.lt Nat _ dx sp) (o2 : @LT.lt Nat _ sp oc) (o3 : @LT.lt Nat _ oc hd) (o4 : @LT.lt Nat _ hd wt) (lo : (hd == sysModules) = false) (kc : 0 ≤ c) (kc2 : c ≤ 1000) (kf : 0 ≤ fr) (kf2 : fr ≤ 1000)
    (h1 : 0 < l1) (h2 : 0 < l2) (b1 : a1 + l1 ≤ n) (b2 : a2 + l2 ≤ a1) (b3 : 0 ≤ a2) (c1 : @LT.lt Nat _ wt p1) (c2 : @LT.lt Nat _ p1 p2) (bt : fr ≤ a2) (g1 : 0 < (l1 + l2)) (g2 : (l1 + l2) ≤ 255) (hg : (l1 + l2) ≤ n - l1 - l2) (hr : ∀ x ∈ ns, 0 ≤ x ∧ x < 128) :
    Ctr w mean mg mb 10 127 [.ref sp] (spL sp dx oc hd wt H n fr c t1 t2 t3 t4 t5 vs.toArray u #[.ref p1, .ref p2] u' ++ [(p1, listOf #[.int a1 s1, .int l1 r1] u1), (p2, listOf #[.int a2 s2, .int l2 r2] u2)]) (fun hp r led' => ∃ vs' ns' fr' c' x y D z1 z2 u9 uw, led' = spL sp dx oc hd wt H n fr' c' t1 t2 x t4 y (List.toArray vs') u #[.ref D] uw ++ [(D, listOf #[.int fr' z1, .int (l1 + l2) z2] u9)] ∧ r = .none ∧ hp.get? D = none ∧ @LT.lt Nat _ wt D ∧ IntsAre vs' ns' ∧ ns'.length = ns.length ∧ sl ns' fr' (l1 + l2) = sl ns a1 l1 ++ sl ns a2 l2 ∧ (∀ P : Int → Prop, (∀ x ∈ ns, P x) → ∀ x ∈ ns', P x) ∧ fr' + (l1 + l2) ≤ n ∧ 0 ≤ fr' ∧ ((l1 + l2) ≤ fr → c' = c ∧ fr' = fr - (l1 + l2)) ∧ c ≤ c' ∧ c' ≤ c + 1) := by
  unfold Ctr
  k_fill
  intro dp un gd cn cs a' ccd cl outer A₀ base h₀ L m s Q E B F X N T hk hd' hu hret
  (try dsimp only [spL, List.cons_append, List.nil_append] at N)
  (refine wpAny_call ?_; k_dflt (refine' enter_def (binds := [(Str.ofString "space", Value.ref sp)]) ?k1 ?k2 ?k3 ?k4 ?k5 ?kA ?kF ?kK ?k6 ?k7 ?k8 ?k9 ?kB ?_ ?c2 ?c3 ?c4 ?c5; (case kA => exact rfl); (case kF => exact rfl); (case kK => assumption); (case k1 => k_asm); (case k2 => k_asm); (case k3 => k_asm); (case k4 => k_asm); (case k5 => k_asm); (case k6 => k_is); (case k7 => k_is); (case k8 => ktr_room); (case k9 => exact BindsTo.of_eq rfl); (case c5 => decide); (case kB => exact locs rfl); (case c2 => exact rfl); (case c3 => exact rfl); (case c4 => exact rfl); k_whole; intro g' L' h' hL' kb' lt' F' N' B' X' T'; (try simp only [AllLt, and_true] at lt'); (try dsimp only); (try k_fold)))
  k_steps
  refine' use (alloc2_m _ _ _ _ hi hn hz o1 o2 o3 o4 lo kc kc2 kf kf2 h1 h2 b1 b2 b3 c1 c2 bt g1 g2 hg) ?B ?F ?X ?N ?T ?K ?d ?u ?s ?r ?_; (case B => k_asm); (case F => k_asm); (case X => k_asm); (case N => k_asm); (case T => k_asm); (case K => first | exact rfl | assumption); (case s => lcg_sub); (case r => ((try dsimp only [spL, List.cons_append, List.nil_append]); walk_at "REST")); (case d => ktr_room); (case u => ktr_units)
  intro r9 led9 h9 tk9 F9 N9 P9 M9
  obtain ⟨vs1, ns1, fr1, cc1, x1, y1, aa1, xx1, aa2, xx2, f9, ⟨z9, e9⟩, hi1, hl1, ss1, ss2, PP1, ch1, ch2, ch3, fr0, cc0, cc3, cc4⟩ := P9
  subst e9; subst f9; clear M9
  (try dsimp only [spL, List.cons_append, List.nil_append] at N9)
  have hr1 : ∀ x ∈ ns1, 0 ≤ x ∧ x < 128 := PP1 _ hr
  k_steps
  have hA : ∀ x ∈ sl ns1 aa1 l1, 0 ≤ x ∧ x < 128 := sl_all hr1
  have hB : ∀ x ∈ sl ns1 aa2 l2, 0 ≤ x ∧ x < 128 := sl_all hr1
  have lA := sl_length (ns := ns1) (a := aa1) (l := l1) (by omega) (by omega) (by omega)
  have lB := sl_length (ns := ns1) (a := aa2) (l := l2) (by omega) (by omega) (by omega)
  have lA' := txt_len (sl ns1 aa1 l1)
  have lB' := txt_len (sl ns1 aa2 l2)
  refine KOpn.add (by omega) ?_
  intro tk9 k9 hl9
  k_steps
  refine' use (octets_of_c _ _ _ _ (cat_ascii hA hB) (by omega)) ?B ?F ?X ?N ?T ?K ?d ?u ?s ?r ?_; (case B => k_asm); (case F => k_asm); (case X => k_asm); (case N => k_asm); (case T => k_asm); (case K => first | exact rfl | assumption); (case s => lcg_sub); (case r => ((try dsimp only [spL, List.cons_append, List.nil_append]); walk_at "REST")); (case d => ktr_room); (case u => ktr_units)
  intro r9 led9 h9 tk9 F9 N9 P9 M9
  obtain ⟨D9, vs9, e9, f9, o9, i9⟩ := P9
  subst e9; subst f9; replace o9 := AllNe.of (off_fresh M9 o9); clear M9
  (try simp only [AllNe, and_true] at o9); (repeat (obtain ⟨_, o9⟩ := o9))
  (try dsimp only [spL, List.cons_append, List.nil_append] at N9)
  rw [cat_codes hA hB] at i9
  have lAB : ((sl ns1 aa1 l1 ++ sl ns1 aa2 l2).length : Int) = l1 + l2 := by rw [List.length_append]; omega
  k_steps
  dsimp only
  refine' setItem_neg2 (pre := []) (v1 := .ref p1) (v2 := .ref p2) ?F ?N ?w ?l ?ne ?z ?r ?_
  case F => k_asm
  case N => k_asm
  case w => k_mem
  case l => exact .head _
  case ne => exact beq_eq_false_iff_ne.mpr (show @Ne Nat _ _ by omega)
  case z => exact Nat.le_of_ble_eq_true rfl
  case r => walk_at "REST"
  intro hz9 uw Fz Nz
  (try dsimp only [List.cons_append, List.nil_append] at Nz)
  rename IntsAre _ _ => hiW
  rename _ = wr _ _ _ => hwr
  rename List.length _ = List.length _ => hlW
  k_steps
  refine' hret _ _ _ _ ?cF (news_sub ?cN ?cS) ?cK ⟨_, _, _, _, _, _, _, _, _, _, _, rfl, rfl, ?cD, ?cL, hiW, hlW.trans hl1, (pl_self hwr fr0 lAB (by omega)).trans (by rw [ss1, ss2]), (fun P p1 => hwr ▸ wr_all (PP1 P p1) (fun x hx => (List.mem_append.mp hx).elim (sl_all (PP1 P p1) x) (sl_all (PP1 P p1) x))), (by omega), fr0, cc0, cc3, cc4⟩
  case cF => k_asm
  case cN => assumption
  case cS => ((try dsimp only [spL, List.cons_append, List.nil_append]); lcg_sub)
  case cK => exact KeepBut.fr kb' (by k_asm)
  case cD => exact fresh_of kb' (by assumption) (.tail _ (.tail _ (.head _))) (by (try dsimp only [spL, List.cons_append, List.nil_append]); walk_at "NOTIN")
  case cL => omega
end

section
variable (w : World) (mean : ExcName → Option Value) (mg mb : Str → Option Value)
open KStt LCg
local macro_rules | `(tactic| walk_at "call ref") => `(tactic| (k_here; (with_reducible show wpAny _ _ (call (Value.ref 68) _) _ _ _); k_dflt (refine' use (text_at_c _ _ _ _ ?hi ?h0 ?h2 ?h1 ?hz ?hr) ?B ?F ?X ?N ?T ?K ?d ?u ?s ?r ?_; (case B => k_asm); (case F => k_asm); (case X => k_asm); (case N => k_asm); (case T => k_asm); (case K => first | exact rfl | assumption); (case s => lcg_sub); (case r => ((try dsimp only [spL, List.cons_append, List.nil_append]); walk_at "REST")); (case d => ktr_room); (case u => ktr_units); (case hi => l_ints); (case h0 => omega); (case h2 => omega); (case h1 => omega); (case hz => omega); (case hr => with_reducible assumption)); (intro r9 led9 h9 tk9 F9 N9 P9 M9; obtain ⟨f9, t9, e9⟩ := P9; subst e9; subst f9; clear M9; (try dsimp only [spL, List.cons_append, List.nil_append] at N9); (try k_sweep); (try dsimp only))))
theorem join3_c {sp dx oc hd wt p1 p2 p3 : Addr} {H : Hk} {n fr c : Int} {t1 t2 t3 t4 t5 s1 r1 s2 r2 s3 r3 : Tok} {vs : List Value} {ns : List Int} {u u' u1 u2 u3 : Nat} {a1 l1 a2 l2 a3 l3 : Int} (hi : IntsAre vs ns) (hn : n = ns.length) (hz : ns.length ≤ 1000)
    (o1 : @LT.lt Nat _ dx sp) (o2 : @LT.lt Nat _ sp oc) (o3 : @LT.lt Nat _ oc hd) (o4 : @LT.lt Nat _ hd wt) (lo : (hd == sysModules) = false) (kc : 0 ≤ c) (kc2 : c ≤ 1000) (kf : 0 ≤ fr) (kf2 : fr ≤ 1000)
    (h1 : 0 < l1) (h2 : 0 < l2) (h3 : 0 < l3) (b1 : a1 + l1 ≤ n) (b2 : a2 + l2 ≤ a1) (b3 : a3 + l3 ≤ a2) (b4 : 0 ≤ a3) (c1 : @LT.lt Nat _ wt p1) (c2 : @LT.lt Nat _ p1 p2) (c3 : @LT.lt Nat _ p2 p3) (bt : fr ≤ a3) (g1 : 0 < (l2 + l3)) (g2 : (l2 + l3) ≤ 255) (hg : (l2 + l3) ≤ n - l1 - l2 - l3) (hr : ∀ x ∈ ns, 0 ≤ x ∧ x < 128) :
    Ctr w mean mg mb 10 127 [.ref sp] (spL sp dx oc hd wt H n fr c t1 t2 t3 t4 t5 vs.toArray u #[.ref p1, .ref p2, .ref p3] u' ++ [(p1, listOf #[.int a1 s1, .int l1 r1] u1), (p2, listOf #[.int a2 s2, .int l2 r2] u2), (p3, listOf #[.int a3 s3, .int l3 r3] u3)]) (fun hp r led' => ∃ vs' ns' fr' c' x y a1' x1 D z1 z2 u9 uw, led' = spL sp dx oc hd wt H n fr' c' t1 t2 x t4 y (List.toArray vs') u #[.ref p1, .ref D] uw ++ [(p1, listOf #[.int a1' x1, .int l1 r1] u1), (D, listOf #[.int fr' z1, .int (l2 + l3) z2] u9)] ∧ r = .none ∧ hp.get? D = none ∧ @LT.lt Nat _ p1 D ∧ IntsAre vs' ns' ∧ ns'.length = ns.length ∧ sl ns' a1' l1 = sl ns a1 l1 ∧ sl ns' fr' (l2 + l3) = sl ns a2 l2 ++ sl ns a3 l3 ∧ (∀ P : Int → Prop, (∀ x ∈ ns, P x) → ∀ x ∈ ns', P x) ∧ a1' + l1 ≤ n ∧ fr' + (l2 + l3) ≤ a1' ∧ 0 ≤ fr' ∧ ((l2 + l3) ≤ fr → c' = c ∧ fr' = fr - (l2 + l3)) ∧ c ≤ c' ∧ c' ≤ c + 1) := by
  unfold Ctr
  k_fill
  intro dp un gd cn cs a' ccd cl outer A₀ base h₀ L m s Q E B F X N T hk hd' hu hret
  (try dsimp only [spL, List.cons_append, List.nil_append] at N)
  (refine wpAny_call ?_; k_dflt (refine' enter_def (binds := [(Str.ofString "space", Value.ref sp)]) ?k1 ?k2 ?k3 ?k4 ?k5 ?kA ?kF ?kK ?k6 ?k7 ?k8 ?k9 ?kB ?_ ?c2 ?c3 ?c4 ?c5; (case kA => exact rfl); (case kF => exact rfl); (case kK => assumption); (case k1 => k_asm); (case k2 => k_asm); (case k3 => k_asm); (case k4 => k_asm); (case k5 => k_asm); (case k6 => k_is); (case k7 => k_is); (case k8 => ktr_room); (case k9 => exact BindsTo.of_eq rfl); (case c5 => decide); (case kB => exact locs rfl); (case c2 => exact rfl); (case c3 => exact rfl); (case c4 => exact rfl); k_whole; intro g' L' h' hL' kb' lt' F' N' B' X' T'; (try simp only [AllLt, and_true] at lt'); (try dsimp only); (try k_fold)))
  k_steps
  refine' use (alloc3_m _ _ _ _ hi hn hz o1 o2 o3 o4 lo kc kc2 kf kf2 h1 h2 h3 b1 b2 b3 b4 c1 c2 c3 bt g1 g2 hg) ?B ?F ?X ?N ?T ?K ?d ?u ?s ?r ?_; (case B => k_asm); (case F => k_asm); (case X => k_asm); (case N => k_asm); (case T => k_asm); (case K => first | exact rfl | assumption); (case s => lcg_sub); (case r => ((try dsimp only [spL, List.cons_append, List.nil_append]); walk_at "REST")); (case d => ktr_room); (case u => ktr_units)
  intro r9 led9 h9 tk9 F9 N9 P9 M9
  obtain ⟨vs1, ns1, fr1, cc1, x1, y1, aa1, xx1, aa2, xx2, aa3, xx3, f9, ⟨z9, e9⟩, hi1, hl1, ss1, ss2, ss3, PP1, ch1, ch2, ch3, ch4, fr0, cc0, cc3, cc4⟩ := P9
  subst e9; subst f9; clear M9
  (try dsimp only [spL, List.cons_append, List.nil_append] at N9)
  have hr1 : ∀ x ∈ ns1, 0 ≤ x ∧ x < 128 := PP1 _ hr
  k_steps
  have hA : ∀ x ∈ sl ns1 aa2 l2, 0 ≤ x ∧ x < 128 := sl_all hr1
  have hB : ∀ x ∈ sl ns1 aa3 l3, 0 ≤ x ∧ x < 128 := sl_all hr1
  have lA := sl_length (ns := ns1) (a := aa2) (l := l2) (by omega) (by omega) (by omega)
  have lB := sl_length (ns := ns1) (a := aa3) (l := l3) (by omega) (by omega) (by omega)
  have lA' := txt_len (sl ns1 aa2 l2)
  have lB' := txt_len (sl ns1 aa3 l3)
  refine KOpn.add (by omega) ?_
  intro tk9 k9 hl9
  k_steps
  refine' use (octets_of_c _ _ _ _ (cat_ascii hA hB) (by omega)) ?B ?F ?X ?N ?T ?K ?d ?u ?s ?r ?_; (case B => k_asm); (case F => k_asm); (case X => k_asm); (case N => k_asm); (case T => k_asm); (case K => first | exact rfl | assumption); (case s => lcg_sub); (case r => ((try dsimp only [spL, List.cons_append, List.nil_append]); walk_at "REST")); (case d => ktr_room); (case u => ktr_units)
  intro r9 led9 h9 tk9 F9 N9 P9 M9
  obtain ⟨D9, vs9, e9, f9, o9, i9⟩ := P9
  subst e9; subst f9; replace o9 := AllNe.of (off_fresh M9 o9); clear M9
  (try simp only [AllNe, and_true] at o9); (repeat (obtain ⟨_, o9⟩ := o9))
  (try dsimp only [spL, List.cons_append, List.nil_append] at N9)
  rw [cat_codes hA hB] at i9
  have lAB : ((sl ns1 aa2 l2 ++ sl ns1 aa3 l3).length : Int) = l2 + l3 := by rw [List.length_append]; omega
  k_steps
  dsimp only
  refine' setItem_neg2 (pre := [.ref p1]) (v1 := .ref p2) (v2 := .ref p3) ?F ?N ?w ?l ?ne ?z ?r ?_
  case F => k_asm
  case N => k_asm
  case w => k_mem
  case l => exact .head _
  case ne => exact beq_eq_false_iff_ne.mpr (show @Ne Nat _ _ by omega)
  case z => exact Nat.le_of_ble_eq_true rfl
  case r => walk_at "REST"
  intro hz9 uw Fz Nz
  (try dsimp only [List.cons_append, List.nil_append] at Nz)
  rename IntsAre _ _ => hiW
  rename _ = wr _ _ _ => hwr
  rename List.length _ = List.length _ => hlW
  k_steps
  refine' hret _ _ _ _ ?cF (news_sub ?cN ?cS) ?cK ⟨_, _, _, _, _, _, _, _, _, _, _, _, _, rfl, rfl, ?cD, ?cL, hiW, hlW.trans hl1, (pl_off (len := l2 + l3) hwr fr0 lAB (by omega) (by omega)).trans ss1, (pl_self hwr fr0 lAB (by omega)).trans (by rw [ss2, ss3]), (fun P p1 => hwr ▸ wr_all (PP1 P p1) (fun x hx => (List.mem_append.mp hx).elim (sl_all (PP1 P p1) x) (sl_all (PP1 P p1) x))), ch1, (by omega), fr0, cc0, cc3, cc4⟩
  case cF => k_asm
  case cN => assumption
  case cS => ((try dsimp only [spL, List.cons_append, List.nil_append]); lcg_sub)
  case cK => exact KeepBut.fr kb' (by k_asm)
  case cD => exact fresh_of kb' (by assumption) (.tail _ (.tail _ (.head _))) (by (try dsimp only [spL, List.cons_append, List.nil_append]); walk_at "NOTIN")
  case cL => omega
end

section
variable (w : World) (mean : ExcName → Option Value) (mg mb : Str → Option Value)
open KStt LCg
local macro_rules | `(tactic| walk_at "call ref") => `(tactic| (k_here; (with_reducible show wpAny _ _ (call (Value.ref 68) _) _ _ _); k_dflt (refine' use (text_at_c _ _ _ _ ?hi ?h0 ?h2 ?h1 ?hz ?hr) ?B ?F ?X ?N ?T ?K ?d ?u ?s ?r ?_; (case B => k_asm); (case F => k_asm); (case X => k_asm); (case N => k_asm); (case T => k_asm); (case K => first | exact rfl | assumption); (case s => lcg_sub); (case r => ((try dsimp only [spL, List.cons_append, List.nil_append]); walk_at "REST")); (case d => ktr_room); (case u => ktr_units); (case hi => l_ints); (case h0 => omega); (case h2 => omega); (case h1 => omega); (case hz => omega); (case hr => with_reducible assumption)); (intro r9 led9 h9 tk9 F9 N9 P9 M9; obtain ⟨f9, t9, e9⟩ := P9; subst e9; subst f9; clear M9; (try dsimp only [spL, List.cons_append, List.nil_append] at N9); (try k_sweep); (try dsimp only))))
theorem join4_c {sp dx oc hd wt p1 p2 p3 p4 : Addr} {H : Hk} {n fr c : Int} {t1 t2 t3 t4 t5 s1 r1 s2 r2 s3 r3 s4 r4 : Tok} {vs : List Value} {ns : List Int} {u u' u1 u2 u3 u4 : Nat} {a1 l1 a2 l2 a3 l3 a4 l4 : Int} (hi : IntsAre vs ns) (hn : n = ns.length) (hz : ns.length ≤ 1000)
    (o1 : @LT.lt Nat _ dx sp) (o2 : @LT.lt Nat _ sp oc) (o3 : @LT.lt Nat _ oc hd) (o4 : @LT.lt Nat _ hd wt) (lo : (hd == sysModules) = false) (kc : 0 ≤ c) (kc2 : c ≤ 1000) (kf : 0 ≤ fr) (kf2 : fr ≤ 1000)
    (h1 : 0 < l1) (h2 : 0 < l2) (h3 : 0 < l3) (h4 : 0 < l4) (b1 : a1 + l1 ≤ n) (b2 : a2 + l2 ≤ a1) (b3 : a3 + l3 ≤ a2) (b4 : a4 + l4 ≤ a3) (b5 : 0 ≤ a4) (c1 : @LT.lt Nat _ wt p1) (c2 : @LT.lt Nat _ p1 p2) (c3 : @LT.lt Nat _ p2 p3) (c4 : @LT.lt Nat _ p3 p4) (bt : fr ≤ a4) (g1 : 0 < (l3 + l4)) (g2 : (l3 + l4) ≤ 255) (hg : (l3 + l4) ≤ n - l1 - l2 - l3 - l4) (hr : ∀ x ∈ ns, 0 ≤ x ∧ x < 128) :
    Ctr w mean mg mb 10 127 [.ref sp] (spL sp dx oc hd wt H n fr c t1 t2 t3 t4 t5 vs.toArray u #[.ref p1, .ref p2, .ref p3, .ref p4] u' ++ [(p1, listOf #[.int a1 s1, .int l1 r1] u1), (p2, listOf #[.int a2 s2, .int l2 r2] u2), (p3, listOf #[.int a3 s3, .int l3 r3] u3), (p4, listOf #[.int a4 s4, .int l4 r4] u4)]) (fun hp r led' => ∃ vs' ns' fr' c' x y a1' x1 a2' x2 D z1 z2 u9 uw, led' = spL sp dx oc hd wt H n fr' c' t1 t2 x t4 y (List.toArray vs') u #[.ref p1, .ref p2, .ref D] uw ++ [(p1, listOf #[.int a1' x1, .int l1 r1] u1), (p2, listOf #[.int a2' x2, .int l2 r2] u2), (D, listOf #[.int fr' z1, .int (l3 + l4) z2] u9)] ∧ r = .none ∧ hp.get? D = none ∧ @LT.lt Nat _ p2 D ∧ IntsAre vs' ns' ∧ ns'.length = ns.length ∧ sl ns' a1' l1 = sl ns a1 l1 ∧ sl ns' a2' l2 = sl ns a2 l2 ∧ sl ns' fr' (l3 + l4) = sl ns a3 l3 ++ sl ns a4 l4 ∧ (∀ P : Int → Prop, (∀ x ∈ ns, P x) → ∀ x ∈ ns', P x) ∧ a1' + l1 ≤ n ∧ a2' + l2 ≤ a1' ∧ fr' + (l3 + l4) ≤ a2' ∧ 0 ≤ fr' ∧ ((l3 + l4) ≤ fr → c' = c ∧ fr' = fr - (l3 + l4)) ∧ c ≤ c' ∧ c' ≤ c + 1) := by
  unfold Ctr
  k_fill
  intro dp un gd cn cs a' ccd cl outer A₀ base h₀ L m s Q E B F X N T hk hd' hu hret
  (try dsimp only [spL, List.cons_append, List.nil_append] at N)
  (refine wpAny_call ?_; k_dflt (refine' enter_def (binds := [(Str.ofString "space", Value.ref sp)]) ?k1 ?k2 ?k3 ?k4 ?k5 ?kA ?kF ?kK ?k6 ?k7 ?k8 ?k9 ?kB ?_ ?c2 ?c3 ?c4 ?c5; (case kA => exact rfl); (case kF => exact rfl); (case kK => assumption); (case k1 => k_asm); (case k2 => k_asm); (case k3 => k_asm); (case k4 => k_asm); (case k5 => k_asm); (case k6 => k_is); (case k7 => k_is); (case k8 => ktr_room); (case k9 => exact BindsTo.of_eq rfl); (case c5 => decide); (case kB => exact locs rfl); (case c2 => exact rfl); (case c3 => exact rfl); (case c4 => exact rfl); k_whole; intro g' L' h' hL' kb' lt' F' N' B' X' T'; (try simp only [AllLt, and_true] at lt'); (try dsimp only); (try k_fold)))
  k_steps
  refine' use (alloc4_m _ _ _ _ hi hn hz o1 o2 o3 o4 lo kc kc2 kf kf2 h1 h2 h3 h4 b1 b2 b3 b4 b5 c1 c2 c3 c4 bt g1 g2 hg) ?B ?F ?X ?N ?T ?K ?d ?u ?s ?r ?_; (case B => k_asm); (case F => k_asm); (case X => k_asm); (case N => k_asm); (case T => k_asm); (case K => first | exact rfl | assumption); (case s => lcg_sub); (case r => ((try dsimp only [spL, List.cons_append, List.nil_append]); walk_at "REST")); (case d => ktr_room); (case u => ktr_units)
  intro r9 led9 h9 tk9 F9 N9 P9 M9
  obtain ⟨vs1, ns1, fr1, cc1, x1, y1, aa1, xx1, aa2, xx2, aa3, xx3, aa4, xx4, f9, ⟨z9, e9⟩, hi1, hl1, ss1, ss2, ss3, ss4, PP1, ch1, ch2, ch3, ch4, ch5, fr0, cc0, cc3, cc4⟩ := P9
  subst e9; subst f9; clear M9
  (try dsimp only [spL, List.cons_append, List.nil_append] at N9)
  have hr1 : ∀ x ∈ ns1, 0 ≤ x ∧ x < 128 := PP1 _ hr
  k_steps
  have hA : ∀ x ∈ sl ns1 aa3 l3, 0 ≤ x ∧ x < 128 := sl_all hr1
  have hB : ∀ x ∈ sl ns1 aa4 l4, 0 ≤ x ∧ x < 128 := sl_all hr1
  have lA := sl_length (ns := ns1) (a := aa3) (l := l3) (by omega) (by omega) (by omega)
  have lB := sl_length (ns := ns1) (a := aa4) (l := l4) (by omega) (by omega) (by omega)
  have lA' := txt_len (sl ns1 aa3 l3)
  have lB' := txt_len (sl ns1 aa4 l4)
  refine KOpn.add (by omega) ?_
  intro tk9 k9 hl9
  k_steps
  refine' use (octets_of_c _ _ _ _ (cat_ascii hA hB) (by omega)) ?B ?F ?X ?N ?T ?K ?d ?u ?s ?r ?_; (case B => k_asm); (case F => k_asm); (case X => k_asm); (case N => k_asm); (case T => k_asm); (case K => first | exact rfl | assumption); (case s => lcg_sub); (case r => ((try dsimp only [spL, List.cons_append, List.nil_append]); walk_at "REST")); (case d => ktr_room); (case u => ktr_units)
  intro r9 led9 h9 tk9 F9 N9 P9 M9
  obtain ⟨D9, vs9, e9, f9, o9, i9⟩ := P9
  subst e9; subst f9; replace o9 := AllNe.of (off_fresh M9 o9); clear M9
  (try simp only [AllNe, and_true] at o9); (repeat (obtain ⟨_, o9⟩ := o9))
  (try dsimp only [spL, List.cons_append, List.nil_append] at N9)
  rw [cat_codes hA hB] at i9
  have lAB : ((sl ns1 aa3 l3 ++ sl ns1 aa4 l4).length : Int) = l3 + l4 := by rw [List.length_append]; omega
  k_steps
  dsimp only
  refine' setItem_neg2 (pre := [.ref p1, .ref p2]) (v1 := .ref p3) (v2 := .ref p4) ?F ?N ?w ?l ?ne ?z ?r ?_
  case F => k_asm
  case N => k_asm
  case w => k_mem
  case l => exact .head _
  case ne => exact beq_eq_false_iff_ne.mpr (show @Ne Nat _ _ by omega)
  case z => exact Nat.le_of_ble_eq_true rfl
  case r => walk_at "REST"
  intro hz9 uw Fz Nz
  (try dsimp only [List.cons_append, List.nil_append] at Nz)
  rename IntsAre _ _ => hiW
  rename _ = wr _ _ _ => hwr
  rename List.length _ = List.length _ => hlW
  k_steps
  refine' hret _ _ _ _ ?cF (news_sub ?cN ?cS) ?cK ⟨_, _, _, _, _, _, _, _, _, _, _, _, _, _, _, rfl, rfl, ?cD, ?cL, hiW, hlW.trans hl1, (pl_off (len := l3 + l4) hwr fr0 lAB (by omega) (by omega)).trans ss1, (pl_off (len := l3 + l4) hwr fr0 lAB (by omega) (by omega)).trans ss2, (pl_self hwr fr0 lAB (by omega)).trans (by rw [ss3, ss4]), (fun P p1 => hwr ▸ wr_all (PP1 P p1) (fun x hx => (List.mem_append.mp hx).elim (sl_all (PP1 P p1) x) (sl_all (PP1 P p1) x))), ch1, ch2, (by omega), fr0, cc0, cc3, cc4⟩
  case cF => k_asm
  case cN => assumption
  case cS => ((try dsimp only [spL, List.cons_append, List.nil_append]); lcg_sub)
  case cK => exact KeepBut.fr kb' (by k_asm)
  case cD => exact fresh_of kb' (by assumption) (.tail _ (.tail _ (.head _))) (by (try dsimp only [spL, List.cons_append, List.nil_append]); walk_at "NOTIN")
  case cL => omega
end

theorem FlyB.sub {B : Heap} {l : List Env} {e dx : Addr} {od : Obj} {as : List Addr} {led led' : List (Addr × Obj)} {h h' : Heap} (Y : FlyB B l e dx od as led h h') (s : ∀ p ∈ led', p ∈ led) : FlyB B l e dx od as led' h h' :=
  ⟨Y.fly, Y.dict, Y.bd, fun q hq => Y.ledB q (s q hq), fun a ha => Y.new a (ha.imp id fun ha => ha.imp id fun ⟨q, hq, e⟩ => ⟨q, s q hq, e⟩), Y.keep, Y.up⟩
theorem useX {w : World} {mean : ExcName → Option Value} {mg mb : Str → Option Value} {d : Nat} {f : Addr} {vs : List Value} {led : List (Addr × Obj)} {Post : Heap → Value → List (Addr × Obj) → Prop} {PostX : List (Addr × Obj) → Obj → Prop}
    {dp un : Nat} {gd : Option (List Code)} {cn : Str} {cs : Scope} {a : Addr} {ccd : Value} {cl : List (Str × Addr)} {outer : List Env} {A₀ : Around} {base h₀ : Heap} {L : Addr} {m : Str → Option Value} {s : Shared} {Q E : Value → Shared → Prop} {big rest : List (Addr × Obj)}
    (C : CtrX w mean mg mb d f vs led Post PostX) (B : Below A₀ base outer h₀) (F : Fr h₀ L s.heap m) (X : (Mine.hd.heap_39 w.params).In h₀) (N : News h₀ L s.heap big) (T : Top Mine.hd.view_39 (looseW Mine.hd.view_39 [Str.ofString "BasicError"]) mean mg mb h₀) (hk : cs.kind = .function)
    (hd : dp + d < recursionLimit) (hu : un + 8 * d < cLine) (hs : ∀ p ∈ led, p ∈ big) (hr : Rest led big rest)
    (k : ∀ r led' h' tk', Fr h₀ L h' m → News h₀ L h' (led' ++ rest) → Post s.heap r led' → News h₀ L s.heap big → Q r { s with heap := h', toks := tk' })
    (kx : ∀ e dx od B' led' h' tk', FlyB B' (envX cn cs L a ccd cl :: outer) e dx od (led.map (·.1)) led' s.heap h' → PostX led' od → (∀ b ∈ led.map (·.1), ∃ p ∈ big, p.1 = b) → (∀ q ∈ rest, q ∈ big ∧ q.1 ∉ led.map (·.1)) → E (.ref e) { s with heap := h', toks := tk' }) :
    wpAny (model PySem.Challenge.rw_xm0013_01.row.prog w) (ktrTop dp un gd cn cs L a ccd cl outer) (call (.ref f) vs) Q E s :=
  C dp un gd cn cs a ccd cl outer A₀ base h₀ L m s Q E B F X (news_sub N hs) T hk hd hu (fun r led' h' tk' F' N' kb P => k r led' h' tk' F' (news_on N kb N' (fun p hp => (hr.mem p hp).1) hr.off) P N)
    fun e dx od B' led' h' tk' Y P => kx e dx od B' led' h' tk' Y P (fun b hb => by obtain ⟨p, hp, rfl⟩ := List.mem_map.mp hb; exact ⟨p, hs p hp, rfl⟩) fun q hq => ⟨(hr.mem q hq).1, hr.off q hq⟩

section
variable (w : World) (mean : ExcName → Option Value) (mg mb : Str → Option Value)
theorem joinX2_c {sp dx oc hd wt p1 p2 : Addr} {H : Hk} {n fr c : Int} {t1 t2 t3 t4 t5 s1 r1 s2 r2 : Tok} {vs : List Value} {ns : List Int} {u u' u1 u2 : Nat} {a1 l1 a2 l2 : Int} (hi : IntsAre vs ns) (hn : n = ns.length) (hz : ns.length ≤ 1000)
    (o1 : @LT.lt Nat _ dx sp) (o2 : @LT.lt Nat _ sp oc) (o3 : @LT.lt Nat _ oc hd) (o4 : @LT.lt Nat _ hd wt) (lo : (hd == sysModules) = false) (kc : 0 ≤ c) (kc2 : c ≤ 1000) (kf : 0 ≤ fr) (kf2 : fr ≤ 1000)
    (h1 : 0 < l1) (h2 : 0 < l2) (b1 : a1 + l1 ≤ n) (b2 : a2 + l2 ≤ a1) (b3 : 0 ≤ a2) (c1 : @LT.lt Nat _ wt p1) (c2 : @LT.lt Nat _ p1 p2) (g2 : l1 + l2 ≤ 255) (hf : fr < l1 + l2) (hg : n - l1 - l2 < l1 + l2) :
    CtrX w mean mg mb 10 127 [.ref sp] (spL sp dx oc hd wt H n fr c t1 t2 t3 t4 t5 vs.toArray u #[.ref p1, .ref p2] u' ++ [(p1, listOf #[.int a1 s1, .int l1 r1] u1), (p2, listOf #[.int a2 s2, .int l2 r2] u2)]) (fun _ _ _ => False)
      (fun led' od => (∃ h1 h2 k1 k2 tc l, od = excD h1 h2 k1 k2 (.str (Str.ofString "OS") tc) l) ∧ ∃ vs' ns' x y x1 x2, led' = spL sp dx oc hd wt H n (n - l1 - l2) (c + 1) t1 t2 x t4 y (List.toArray vs') u #[.ref p1, .ref p2] u' ++ [(p1, listOf #[.int (n - l1) x1, .int l1 r1] u1), (p2, listOf #[.int (n - l1 - l2) x2, .int l2 r2] u2)] ∧ IntsAre vs' ns' ∧ ns'.length = ns.length ∧ sl ns' (n - l1) l1 = sl ns a1 l1 ∧ sl ns' (n - l1 - l2) l2 = sl ns a2 l2 ∧ ∀ P : Int → Prop, (∀ x ∈ ns, P x) → ∀ x ∈ ns', P x) := by
  unfold CtrX
  k_fill
  intro dp un gd cn cs a' ccd cl outer A₀ base h₀ L m s Q E B F X N T hk hd' hu hret hraise
  (try dsimp only [spL, List.cons_append, List.nil_append] at N)
  (refine wpAny_call ?_; k_dflt (refine' enter_def (binds := [(Str.ofString "space", Value.ref sp)]) ?k1 ?k2 ?k3 ?k4 ?k5 ?kA ?kF ?kK ?k6 ?k7 ?k8 ?k9 ?kB ?_ ?c2 ?c3 ?c4 ?c5; (case kA => exact rfl); (case kF => exact rfl); (case kK => assumption); (case k1 => k_asm); (case k2 => k_asm); (case k3 => k_asm); (case k4 => k_asm); (case k5 => k_asm); (case k6 => k_is); (case k7 => k_is); (case k8 => ktr_room); (case k9 => exact BindsTo.of_eq rfl); (case c5 => decide); (case kB => exact locs rfl); (case c2 => exact rfl); (case c3 => exact rfl); (case c4 => exact rfl); k_whole; intro g' L' h' hL' kb' lt' F' N' B' X' T'; (try simp only [AllLt, and_true] at lt'); (try dsimp only); (try k_fold)))
  k_steps
  refine' useX (allocX2_c _ _ _ _ hi hn hz o1 o2 o3 o4 lo kc kc2 kf kf2 h1 h2 b1 b2 b3 c1 c2 g2 hf hg) ?B ?F ?X ?N ?T ?K ?d ?u ?s ?r ?_ ?_; (case B => k_asm); (case F => k_asm); (case X => k_asm); (case N => k_asm); (case T => k_asm); (case K => first | exact rfl | assumption); (case s => lcg_sub); (case r => ((try dsimp only [spL, List.cons_append, List.nil_append]); walk_at "REST")); (case d => ktr_room); (case u => ktr_units)
  · exact fun _ _ _ _ _ _ z => z.elim
  intro e dx' od Bx led9 h9 tk9 Y P9 hs9 hr9
  exact fly_on rfl rfl B' (by k_asm) (by k_asm) hs9 hr9 Y kb' fun h' Y' => hraise e dx' od Bx led9 h' _ (Y'.sub fun p hp => List.mem_append_left _ hp) P9
end

structure Pl where
  q : Addr
  a : Int
  l : Int
  s : Tok
  r : Tok
  u : Nat
abbrev Pl.ent (p : Pl) : Addr × Obj := (p.q, W.listOf #[.int p.a p.s, .int p.l p.r] p.u)
structure Sp where
  sp : Addr
  dx : Addr
  oc : Addr
  hd : Addr
  wt : Addr
  H : Hk
  n : Int
  fr : Int
  c : Int
  t1 : Tok
  t2 : Tok
  t3 : Tok
  t4 : Tok
  t5 : Tok
  vs : List Value
  ns : List Int
  u : Nat
  u' : Nat
/-- the ledger of a space and of the places that wait in it -/
abbrev stL (S : Sp) (ps : List Pl) : List (Addr × Obj) := spL S.sp S.dx S.oc S.hd S.wt S.H S.n S.fr S.c S.t1 S.t2 S.t3 S.t4 S.t5 S.vs.toArray S.u (ps.map fun p => Value.ref p.q).toArray S.u' ++ ps.map Pl.ent
def Desc : Int → List Pl → Int → Prop
  | top, [], b => b ≤ top
  | top, p :: r, b => 0 < p.l ∧ p.a + p.l ≤ top ∧ Desc p.a r b
def Asc : Nat → List Pl → Prop
  | _, [] => True
  | x, p :: r => @LT.lt Nat _ x p.q ∧ Asc p.q r
structure Ok (S : Sp) (ps : List Pl) : Prop where
  hi : IntsAre S.vs S.ns
  hn : S.n = S.ns.length
  hz : S.ns.length ≤ 1000
  o1 : @LT.lt Nat _ S.dx S.sp
  o2 : @LT.lt Nat _ S.sp S.oc
  o3 : @LT.lt Nat _ S.oc S.hd
  o4 : @LT.lt Nat _ S.hd S.wt
  lo : (S.hd == sysModules) = false
  kc : 0 ≤ S.c
  kf : 0 ≤ S.fr
  desc : Desc S.n ps S.fr
  asc : Asc S.wt ps
  emp : ps = [] → S.fr = S.n
  hr : ∀ x ∈ S.ns, 0 ≤ x ∧ x < 128
def txs (S : Sp) (ps : List Pl) : List (List Int) := ps.map fun p => sl S.ns p.a p.l
def live (ps : List Pl) : Int := (ps.map (·.l)).sum
structure SameS (S S' : Sp) : Prop where
  sp : S'.sp = S.sp
  n : S'.n = S.n
  dx : S'.dx = S.dx
theorem codes_range {x : Str} (ha : x.cps.all (· < 128) = true) : ∀ y ∈ KStt.codes x, 0 ≤ y ∧ y < 128 := by
  intro y hy
  have e := KStt.txt_codes x
  simp only [KStt.codes, List.mem_map] at hy
  obtain ⟨c, hc, rfl⟩ := hy
  have := Array.all_eq_true'.mp ha c (by simpa using hc)
  simp only [decide_eq_true_eq] at this
  omega
/-- the last two joined -/
def joinL : List (List Int) → List (List Int)
  | [] => []
  | [a] => [a]
  | [a, b] => [a ++ b]
  | a :: r => a :: joinL r
/-- the length of the last two -/
def lenL : List Pl → Int
  | [] => 0
  | [a] => a.l
  | [a, b] => a.l + b.l
  | _ :: r => lenL r
section
variable (w : World) (mean : ExcName → Option Value) (mg mb : Str → Option Value)
open KStt
theorem push_g {S : Sp} {tx : Str} {tt : Tok} (ha : tx.cps.all (· < 128) = true) (g1 : 0 < (tx.length : Int)) (g2 : (tx.length : Int) ≤ 255) (hc : S.c ≤ 1000) : ∀ ps : List Pl, Ok S ps → ps.length ≤ 3 → live ps + tx.length ≤ S.n →
    Ctr w mean mg mb 10 120 [.ref S.sp, .str tx tt] (stL S ps) (fun _ r led' => r = .none ∧ ∃ S' ps', led' = stL S' ps' ∧ SameS S S' ∧ Ok S' ps' ∧ ps'.length = ps.length + 1 ∧ txs S' ps' = txs S ps ++ [codes tx] ∧ live ps' = live ps + tx.length ∧
      ((tx.length : Int) ≤ S.fr → S'.c = S.c ∧ S'.fr = S.fr - tx.length) ∧ S.c ≤ S'.c ∧ S'.c ≤ S.c + 1)
  | [], O, hl, hg => by
    have hn := O.hn
    have hz := O.hz
    have kf := O.kf
    have hd := O.desc
    have hs := O.asc
    simp only [Desc] at hd
    simp only [Asc, and_true] at hs
    have bt := hd
    simp only [live, List.map_cons, List.map_nil, List.sum_cons, List.sum_nil] at hg
    have he := O.emp rfl
    refine (push0_c w mean mg mb O.hi O.hn O.hz O.o1 O.o2 O.o3 O.o4 O.lo O.kc hc O.kf (by omega)    bt g1 g2 (by omega) ha).mono ?_
    rintro _ r _ ⟨vs', ns', fr', c', x, y, D, z1, z2, u9, uw, rfl, rfl, -, lD, hi', hl', sn, PP, ch1, f0, cc, cx3, cx4⟩
    refine ⟨rfl, { S with fr := fr', c := c', t3 := x, t5 := y, vs := vs', ns := ns', u' := uw }, [⟨D, fr', (tx.length : Int), z1, z2, u9⟩], rfl, ⟨rfl, rfl, rfl⟩, ⟨hi', by simp only; omega, by simp only; omega, O.o1, O.o2, O.o3, O.o4, O.lo, by simp only; have := O.kc; omega, f0, ⟨g1, ch1, Int.le_refl _⟩, ⟨lD, trivial⟩, by simp, PP _ O.hr (codes_range ha)⟩, rfl, ?_, ?_, cc, cx3, cx4⟩
    · simp only [txs, List.map_cons, List.map_nil, sn]; rfl
    · simp only [live, List.map_cons, List.map_nil, List.sum_cons, List.sum_nil]; omega
  | [p1], O, hl, hg => by
    have hn := O.hn
    have hz := O.hz
    have kf := O.kf
    have hd := O.desc
    have hs := O.asc
    simp only [Desc] at hd
    simp only [Asc, and_true] at hs
    obtain ⟨h1, b1, bt⟩ := hd
    have c1 := hs
    simp only [live, List.map_cons, List.map_nil, List.sum_cons, List.sum_nil] at hg
    refine (push1_c w mean mg mb O.hi O.hn O.hz O.o1 O.o2 O.o3 O.o4 O.lo O.kc hc O.kf (by omega) h1 b1 (by omega) c1 bt g1 g2 (by omega) ha).mono ?_
    rintro _ r _ ⟨vs', ns', fr', c', x, y, a1', x1, D, z1, z2, u9, uw, rfl, rfl, -, lD, hi', hl', ss1, sn, PP, ch1, ch2, f0, cc, cx3, cx4⟩
    refine ⟨rfl, { S with fr := fr', c := c', t3 := x, t5 := y, vs := vs', ns := ns', u' := uw }, [⟨p1.q, a1', p1.l, x1, p1.r, p1.u⟩, ⟨D, fr', (tx.length : Int), z1, z2, u9⟩], rfl, ⟨rfl, rfl, rfl⟩, ⟨hi', by simp only; omega, by simp only; omega, O.o1, O.o2, O.o3, O.o4, O.lo, by simp only; have := O.kc; omega, f0, ⟨h1, ch1, g1, ch2, Int.le_refl _⟩, ⟨c1, lD, trivial⟩, by simp, PP _ O.hr (codes_range ha)⟩, rfl, ?_, ?_, cc, cx3, cx4⟩
    · simp only [txs, List.map_cons, List.map_nil, ss1, sn]; rfl
    · simp only [live, List.map_cons, List.map_nil, List.sum_cons, List.sum_nil]; omega
  | [p1, p2], O, hl, hg => by
    have hn := O.hn
    have hz := O.hz
    have kf := O.kf
    have hd := O.desc
    have hs := O.asc
    simp only [Desc] at hd
    simp only [Asc, and_true] at hs
    obtain ⟨h1, b1, h2, b2, bt⟩ := hd
    obtain ⟨c1, c2⟩ := hs
    simp only [live, List.map_cons, List.map_nil, List.sum_cons, List.sum_nil] at hg
    refine (push2_c w mean mg mb O.hi O.hn O.hz O.o1 O.o2 O.o3 O.o4 O.lo O.kc hc O.kf (by omega) h1 h2 b1 b2 (by omega) c1 c2 bt g1 g2 (by omega) ha).mono ?_
    rintro _ r _ ⟨vs', ns', fr', c', x, y, a1', x1, a2', x2, D, z1, z2, u9, uw, rfl, rfl, -, lD, hi', hl', ss1, ss2, sn, PP, ch1, ch2, ch3, f0, cc, cx3, cx4⟩
    refine ⟨rfl, { S with fr := fr', c := c', t3 := x, t5 := y, vs := vs', ns := ns', u' := uw }, [⟨p1.q, a1', p1.l, x1, p1.r, p1.u⟩, ⟨p2.q, a2', p2.l, x2, p2.r, p2.u⟩, ⟨D, fr', (tx.length : Int), z1, z2, u9⟩], rfl, ⟨rfl, rfl, rfl⟩, ⟨hi', by simp only; omega, by simp only; omega, O.o1, O.o2, O.o3, O.o4, O.lo, by simp only; have := O.kc; omega, f0, ⟨h1, ch1, h2, ch2, g1, ch3, Int.le_refl _⟩, ⟨c1, c2, lD, trivial⟩, by simp, PP _ O.hr (codes_range ha)⟩, rfl, ?_, ?_, cc, cx3, cx4⟩
    · simp only [txs, List.map_cons, List.map_nil, ss1, ss2, sn]; rfl
    · simp only [live, List.map_cons, List.map_nil, List.sum_cons, List.sum_nil]; omega
  | [p1, p2, p3], O, hl, hg => by
    have hn := O.hn
    have hz := O.hz
    have kf := O.kf
    have hd := O.desc
    have hs := O.asc
    simp only [Desc] at hd
    simp only [Asc, and_true] at hs
    obtain ⟨h1, b1, h2, b2, h3, b3, bt⟩ := hd
    obtain ⟨c1, c2, c3⟩ := hs
    simp only [live, List.map_cons, List.map_nil, List.sum_cons, List.sum_nil] at hg
    refine (push3_c w mean mg mb O.hi O.hn O.hz O.o1 O.o2 O.o3 O.o4 O.lo O.kc hc O.kf (by omega) h1 h2 h3 b1 b2 b3 (by omega) c1 c2 c3 bt g1 g2 (by omega) ha).mono ?_
    rintro _ r _ ⟨vs', ns', fr', c', x, y, a1', x1, a2', x2, a3', x3, D, z1, z2, u9, uw, rfl, rfl, -, lD, hi', hl', ss1, ss2, ss3, sn, PP, ch1, ch2, ch3, ch4, f0, cc, cx3, cx4⟩
    refine ⟨rfl, { S with fr := fr', c := c', t3 := x, t5 := y, vs := vs', ns := ns', u' := uw }, [⟨p1.q, a1', p1.l, x1, p1.r, p1.u⟩, ⟨p2.q, a2', p2.l, x2, p2.r, p2.u⟩, ⟨p3.q, a3', p3.l, x3, p3.r, p3.u⟩, ⟨D, fr', (tx.length : Int), z1, z2, u9⟩], rfl, ⟨rfl, rfl, rfl⟩, ⟨hi', by simp only; omega, by simp only; omega, O.o1, O.o2, O.o3, O.o4, O.lo, by simp only; have := O.kc; omega, f0, ⟨h1, ch1, h2, ch2, h3, ch3, g1, ch4, Int.le_refl _⟩, ⟨c1, c2, c3, lD, trivial⟩, by simp, PP _ O.hr (codes_range ha)⟩, rfl, ?_, ?_, cc, cx3, cx4⟩
    · simp only [txs, List.map_cons, List.map_nil, ss1, ss2, ss3, sn]; rfl
    · simp only [live, List.map_cons, List.map_nil, List.sum_cons, List.sum_nil]; omega
  | _ :: _ :: _ :: _ :: _, _, hl, _ => absurd hl (by simp)
theorem join_g {S : Sp} (hc : S.c ≤ 1000) : ∀ ps : List Pl, Ok S ps → 2 ≤ ps.length → ps.length ≤ 4 → live ps + lenL ps ≤ S.n → lenL ps ≤ 255 →
    Ctr w mean mg mb 10 127 [.ref S.sp] (stL S ps) (fun _ r led' => r = .none ∧ ∃ S' ps', led' = stL S' ps' ∧ SameS S S' ∧ Ok S' ps' ∧ ps'.length + 1 = ps.length ∧ txs S' ps' = joinL (txs S ps) ∧ live ps' = live ps ∧
      (lenL ps ≤ S.fr → S'.c = S.c ∧ S'.fr = S.fr - lenL ps) ∧ S.c ≤ S'.c ∧ S'.c ≤ S.c + 1)
  | [p1, p2], O, h2, hl, hg, g2 => by
    have hn := O.hn
    have hz := O.hz
    have kf := O.kf
    have hd := O.desc
    have hs := O.asc
    simp only [Desc] at hd
    simp only [Asc, and_true] at hs
    obtain ⟨h1, b1, h2, b2, bt⟩ := hd
    obtain ⟨c1, c2⟩ := hs
    simp only [live, lenL, List.map_cons, List.map_nil, List.sum_cons, List.sum_nil, List.getLast?, List.dropLast] at hg g2
    have g1 : 0 < p1.l + p2.l := by omega
    refine (join2_c w mean mg mb O.hi O.hn O.hz O.o1 O.o2 O.o3 O.o4 O.lo O.kc hc O.kf (by omega) h1 h2 b1 b2 (by omega) c1 c2 bt g1 (by omega) (by omega) O.hr).mono ?_
    rintro _ r _ ⟨vs', ns', fr', c', x, y, D, z1, z2, u9, uw, rfl, rfl, -, lD, hi', hl', sn, PP, ch1, f0, cc, cx3, cx4⟩
    refine ⟨rfl, { S with fr := fr', c := c', t3 := x, t5 := y, vs := vs', ns := ns', u' := uw }, [⟨D, fr', p1.l + p2.l, z1, z2, u9⟩], rfl, ⟨rfl, rfl, rfl⟩, ⟨hi', by simp only; omega, by simp only; omega, O.o1, O.o2, O.o3, O.o4, O.lo, by simp only; have := O.kc; omega, f0, ⟨g1, ch1, Int.le_refl _⟩, ⟨lD, trivial⟩, by simp, PP _ O.hr⟩, rfl, ?_, ?_, ?_, cx3, cx4⟩
    · simp only [txs, joinL, List.map_cons, List.map_nil, sn]
    · simp only [live, List.map_cons, List.map_nil, List.sum_cons, List.sum_nil]; omega
    · simp only [lenL]; exact cc
  | [p1, p2, p3], O, h2, hl, hg, g2 => by
    have hn := O.hn
    have hz := O.hz
    have kf := O.kf
    have hd := O.desc
    have hs := O.asc
    simp only [Desc] at hd
    simp only [Asc, and_true] at hs
    obtain ⟨h1, b1, h2, b2, h3, b3, bt⟩ := hd
    obtain ⟨c1, c2, c3⟩ := hs
    simp only [live, lenL, List.map_cons, List.map_nil, List.sum_cons, List.sum_nil, List.getLast?, List.dropLast] at hg g2
    have g1 : 0 < p2.l + p3.l := by omega
    refine (join3_c w mean mg mb O.hi O.hn O.hz O.o1 O.o2 O.o3 O.o4 O.lo O.kc hc O.kf (by omega) h1 h2 h3 b1 b2 b3 (by omega) c1 c2 c3 bt g1 (by omega) (by omega) O.hr).mono ?_
    rintro _ r _ ⟨vs', ns', fr', c', x, y, a1', x1, D, z1, z2, u9, uw, rfl, rfl, -, lD, hi', hl', ss1, sn, PP, ch1, ch2, f0, cc, cx3, cx4⟩
    refine ⟨rfl, { S with fr := fr', c := c', t3 := x, t5 := y, vs := vs', ns := ns', u' := uw }, [⟨p1.q, a1', p1.l, x1, p1.r, p1.u⟩, ⟨D, fr', p2.l + p3.l, z1, z2, u9⟩], rfl, ⟨rfl, rfl, rfl⟩, ⟨hi', by simp only; omega, by simp only; omega, O.o1, O.o2, O.o3, O.o4, O.lo, by simp only; have := O.kc; omega, f0, ⟨h1, ch1, g1, ch2, Int.le_refl _⟩, ⟨c1, lD, trivial⟩, by simp, PP _ O.hr⟩, rfl, ?_, ?_, ?_, cx3, cx4⟩
    · simp only [txs, joinL, List.map_cons, List.map_nil, ss1, sn]
    · simp only [live, List.map_cons, List.map_nil, List.sum_cons, List.sum_nil]; omega
    · simp only [lenL]; exact cc
  | [p1, p2, p3, p4], O, h2, hl, hg, g2 => by
    have hn := O.hn
    have hz := O.hz
    have kf := O.kf
    have hd := O.desc
    have hs := O.asc
    simp only [Desc] at hd
    simp only [Asc, and_true] at hs
    obtain ⟨h1, b1, h2, b2, h3, b3, h4, b4, bt⟩ := hd
    obtain ⟨c1, c2, c3, c4⟩ := hs
    simp only [live, lenL, List.map_cons, List.map_nil, List.sum_cons, List.sum_nil, List.getLast?, List.dropLast] at hg g2
    have g1 : 0 < p3.l + p4.l := by omega
    refine (join4_c w mean mg mb O.hi O.hn O.hz O.o1 O.o2 O.o3 O.o4 O.lo O.kc hc O.kf (by omega) h1 h2 h3 h4 b1 b2 b3 b4 (by omega) c1 c2 c3 c4 bt g1 (by omega) (by omega) O.hr).mono ?_
    rintro _ r _ ⟨vs', ns', fr', c', x, y, a1', x1, a2', x2, D, z1, z2, u9, uw, rfl, rfl, -, lD, hi', hl', ss1, ss2, sn, PP, ch1, ch2, ch3, f0, cc, cx3, cx4⟩
    refine ⟨rfl, { S with fr := fr', c := c', t3 := x, t5 := y, vs := vs', ns := ns', u' := uw }, [⟨p1.q, a1', p1.l, x1, p1.r, p1.u⟩, ⟨p2.q, a2', p2.l, x2, p2.r, p2.u⟩, ⟨D, fr', p3.l + p4.l, z1, z2, u9⟩], rfl, ⟨rfl, rfl, rfl⟩, ⟨hi', by simp only; omega, by simp only; omega, O.o1, O.o2, O.o3, O.o4, O.lo, by simp only; have := O.kc; omega, f0, ⟨h1, ch1, h2, ch2, g1, ch3, Int.le_refl _⟩, ⟨c1, c2, lD, trivial⟩, by simp, PP _ O.hr⟩, rfl, ?_, ?_, ?_, cx3, cx4⟩
    · simp only [txs, joinL, List.map_cons, List.map_nil, ss1, ss2, sn]
    · simp only [live, List.map_cons, List.map_nil, List.sum_cons, List.sum_nil]; omega
    · simp only [lenL]; exact cc
  | [], _, h2, _, _, _ => absurd h2 (by simp)
  | [_], _, h2, _, _, _ => absurd h2 (by simp)
  | _ :: _ :: _ :: _ :: _ :: _, _, _, hl, _, _ => absurd hl (by simp)
theorem joinX_g {S : Sp} (hc : S.c ≤ 1000) {p1 p2 : Pl} (O : Ok S [p1, p2]) (g2 : p1.l + p2.l ≤ 255) (hf : S.fr < p1.l + p2.l) (hg : S.n - (p1.l + p2.l) < p1.l + p2.l) :
    CtrX w mean mg mb 10 127 [.ref S.sp] (stL S [p1, p2]) (fun _ _ _ => False) (fun led' od => (∃ h1 h2 k1 k2 tc l, od = excD h1 h2 k1 k2 (.str (Str.ofString "OS") tc) l) ∧ ∃ S' ps', led' = stL S' ps' ∧ SameS S S' ∧ Ok S' ps' ∧ ps'.length = 2 ∧ txs S' ps' = txs S [p1, p2]) := by
    have hn := O.hn
    have hz := O.hz
    have kf := O.kf
    have hd := O.desc
    have hs := O.asc
    simp only [Desc] at hd
    simp only [Asc, and_true] at hs
    obtain ⟨h1, b1, h2, b2, bt⟩ := hd
    obtain ⟨c1, c2⟩ := hs
    have C := joinX2_c w mean mg mb (H := S.H) (t1 := S.t1) (t2 := S.t2) (t3 := S.t3) (t4 := S.t4) (t5 := S.t5) (u := S.u) (u' := S.u') (s1 := p1.s) (r1 := p1.r) (s2 := p2.s) (r2 := p2.r) (u1 := p1.u) (u2 := p2.u) O.hi O.hn O.hz O.o1 O.o2 O.o3 O.o4 O.lo O.kc hc O.kf (by omega) h1 h2 b1 b2 (by omega) c1 c2 g2 hf (by omega)
    intro dp un gd cn cs a ccd cl outer A₀ base h₀ L m s Q E B F X N T hk hd hu hret hraise
    refine C dp un gd cn cs a ccd cl outer A₀ base h₀ L m s Q E B F X N T hk hd hu (fun _ _ _ _ _ _ _ z => z.elim) fun e dx od Bx led' h' tk' Y P => hraise e dx od Bx led' h' tk' Y ⟨P.1, ?_⟩
    obtain ⟨_, vs', ns', x, y, x1, x2, rfl, hi', hl', ss1, ss2, PP⟩ := P
    refine ⟨{ S with fr := S.n - p1.l - p2.l, c := S.c + 1, t3 := x, t5 := y, vs := vs', ns := ns' }, [⟨p1.q, S.n - p1.l, p1.l, x1, p1.r, p1.u⟩, ⟨p2.q, S.n - p1.l - p2.l, p2.l, x2, p2.r, p2.u⟩], rfl, ⟨rfl, rfl, rfl⟩,
      ⟨hi', by simp only; omega, by simp only; omega, O.o1, O.o2, O.o3, O.o4, O.lo, by simp only; have := O.kc; omega, by simp only; omega, ⟨h1, by simp only; omega, h2, by simp only; omega, Int.le_refl _⟩, ⟨c1, c2, trivial⟩, by simp, PP _ O.hr⟩, rfl, ?_⟩
    simp only [txs, List.map_cons, List.map_nil, ss1, ss2]
end

inductive Way
  | leaf (i : Nat)
  | node (x y : Way)
namespace Way
open KStt
def txt (ts : List Str) : Way → List Int
  | leaf i => codes (ts.getD i (Str.ofString ""))
  | node x y => x.txt ts ++ y.txt ts
def len (ts : List Str) (W : Way) : Int := (W.txt ts).length
def need (ts : List Str) : Way → Int
  | leaf i => (leaf i).len ts
  | node x y => 2 * (node x y).len ts
def sgn (ts : List Str) : Way → Int
  | leaf i => (leaf i).len ts
  | node x y => x.sgn ts + y.sgn ts + (node x y).len ts
def lvs : Way → Nat
  | leaf _ => 1
  | node x y => x.lvs + y.lvs
def dd : Way → Nat
  | leaf _ => 12
  | node x y => x.dd + y.dd + 12
def ok (ts : List Str) : Way → Prop
  | leaf i => i < ts.length
  | node x y => x.ok ts ∧ y.ok ts
end Way
def IsWay (G : Heap) : Way → Value → Prop
  | .leaf i, v => ∃ t, v = .int i t
  | .node x y, v => ∃ a v1 v2, v = .ref a ∧ IsTup G a #[v1, v2] ∧ IsWay G x v1 ∧ IsWay G y v2
def TextsAre (G : Heap) (ta : Addr) (ts : List Str) : Prop := ∃ vs : List Value, G.IsList ta vs.toArray ∧ vs.length = ts.length ∧ ∀ (i : Nat) (x : Str), ts[i]? = some x → ∃ t, vs[i]? = some (.str x t)
structure TsOk (ts : List Str) : Prop where
  asc : ∀ x ∈ ts, x.cps.all (· < 128) = true
  pos : ∀ x ∈ ts, 0 < (x.length : Int)
  le : ∀ x ∈ ts, (x.length : Int) ≤ 3

/-- a call of a def of the text under what stands outside the ledger -/
abbrev CtrG (w : World) (mean : ExcName → Option Value) (mg mb : Str → Option Value) (d : Nat) (f : Addr) (vs : List Value) (G : Heap) (led : List (Addr × Obj)) (Post : Value → List (Addr × Obj) → Prop) (PostX : List (Addr × Obj) → Obj → Prop) : Prop :=
  ∀ (dp un : Nat) (gd : Option (List Code)) (cn : Str) (cs : Scope) (a : Addr) (ccd : Value) (cl : List (Str × Addr)) (outer : List Env) (A₀ : Around) (base h₀ : Heap) (L : Addr) (m : Str → Option Value) (s : Shared) (Q E : Value → Shared → Prop),
    Below A₀ base outer h₀ → Fr h₀ L s.heap m → (Mine.hd.heap_39 w.params).In h₀ → News h₀ L s.heap led → Top Mine.hd.view_39 (looseW Mine.hd.view_39 [Str.ofString "BasicError"]) mean mg mb h₀ → cs.kind = .function →
    dp + d < recursionLimit → un + 8 * d < cLine → (∀ b o, G.get? b = some o → s.heap.get? b = some o ∧ b ∉ led.map (·.1)) →
    (∀ r led' h' tk', Fr h₀ L h' m → News h₀ L h' led' → KeepBut (led.map (·.1)) s.heap h' → Post r led' → Q r { s with heap := h', toks := tk' }) →
    (∀ e dx od B led' h' tk', FlyB B (envX cn cs L a ccd cl :: outer) e dx od (led.map (·.1)) led' s.heap h' → PostX led' od → E (.ref e) { s with heap := h', toks := tk' }) →
    wpAny (model PySem.Challenge.rw_xm0013_01.row.prog w) (ktrTop dp un gd cn cs L a ccd cl outer) (call (.ref f) vs) Q E s

theorem Rest.all {led : List (Addr × Obj)} : ∀ {r : List (Addr × Obj)}, (∀ p ∈ r, p ∈ led) → Rest led r []
  | [], _ => .nil
  | p :: r, h => .drop (h p (.head _)) (Rest.all fun q hq => h q (.tail _ hq))
theorem IsList.up {G h : Heap} {a : Addr} {vs : Array Value} (x : G.IsList a vs) (k : ∀ b o, G.get? b = some o → h.get? b = some o) : h.IsList a vs := by
  obtain ⟨o, ho, r⟩ := x
  exact ⟨o, k _ _ ho, r⟩
theorem IsTup.up {G h : Heap} {a : Addr} {vs : Array Value} (x : IsTup G a vs) (k : ∀ b o, G.get? b = some o → h.get? b = some o) : IsTup h a vs := by
  obtain ⟨o, ho, r⟩ := x
  exact ⟨o, k _ _ ho, r⟩
section
variable (w : World) (mean : ExcName → Option Value) (mg mb : Str → Option Value)
open KStt
abbrev JF (S : Sp) (ps : List Pl) (ts : List Str) (W : Way) (S' : Sp) (ps' : List Pl) : Prop :=
  SameS S S' ∧ Ok S' ps' ∧ ps'.length = ps.length + 1 ∧ txs S' ps' = txs S ps ++ [W.txt ts] ∧ live ps' = live ps + W.len ts ∧ (W.sgn ts ≤ S.fr → S'.c = S.c ∧ S'.fr = S.fr - W.sgn ts) ∧ S.c ≤ S'.c ∧ S'.c + 1 ≤ S.c + 2 * W.lvs
abbrev JPost (S : Sp) (ps : List Pl) (ts : List Str) (W : Way) (r : Value) (led' : List (Addr × Obj)) : Prop :=
  r = .none ∧ ∃ S' ps', led' = stL S' ps' ∧ JF S ps ts W S' ps'
theorem leaf_j {ts : List Str} (tk : TsOk ts) (h4 : ts.length ≤ 4) {i : Nat} (hi : i < ts.length) {G : Heap} {ta : Addr} {t : Tok} {S : Sp} {ps : List Pl} (hT : TextsAre G ta ts) (O : Ok S ps) (hl : ps.length ≤ 3) (hn : live ps + (Way.leaf i).len ts ≤ S.n) (hc : S.c ≤ 1000) :
    CtrG w mean mg mb 12 151 [.ref S.sp, .int i t, .ref ta] G (stL S ps) (JPost S ps ts (.leaf i)) (fun _ _ => False) := by
  unfold CtrG
  k_fill
  intro dp un gd cn cs a' ccd cl outer A₀ base h₀ L m s Q E B F X N T hk hd' hu hG hret hraise
  obtain ⟨vs, hvs, hvl, hva⟩ := hT
  obtain ⟨tx, htx⟩ : ∃ tx, ts[i]? = some tx := ⟨_, List.getElem?_eq_getElem hi⟩
  obtain ⟨tt, htv⟩ := hva i tx htx
  have hm : tx ∈ ts := List.mem_of_getElem? htx
  have ha := tk.asc tx hm
  have g1 := tk.pos tx hm
  have g2 := tk.le tx hm
  have hd : ts.getD i (Str.ofString "") = tx := by rw [List.getD_eq_getElem?_getD, htx]; rfl
  have hlen : (Way.leaf i).len ts = tx.length := by simp only [Way.len, Way.txt, hd, codes_length]
  have hi2 := O.hz
  rw [hlen] at hn
  have C := push_g w mean mg mb (S := S) (tx := tx) (tt := tt) ha g1 (by omega) hc ps O hl hn
  generalize hled : stL S ps = led at *
  (refine wpAny_call ?_; k_dflt (refine' enter_def (binds := [(Str.ofString "space", Value.ref S.sp), (Str.ofString "way", Value.int i t), (Str.ofString "texts", Value.ref ta)]) ?k1 ?k2 ?k3 ?k4 ?k5 ?kA ?kF ?kK ?k6 ?k7 ?k8 ?k9 ?kB ?_ ?c2 ?c3 ?c4 ?c5; (case kA => exact rfl); (case kF => exact rfl); (case kK => assumption); (case k1 => k_asm); (case k2 => k_asm); (case k3 => k_asm); (case k4 => k_asm); (case k5 => k_asm); (case k6 => k_is); (case k7 => k_is); (case k8 => ktr_room); (case k9 => exact BindsTo.of_eq rfl); (case c5 => decide); (case kB => exact locs rfl); (case c2 => exact rfl); (case c3 => exact rfl); (case c4 => exact rfl); k_whole; intro g' L' h' hL' kb' lt' F' N' B' X' T'; (try simp only [AllLt, and_true] at lt'); (try dsimp only); (try k_fold)))
  have GG : ∀ b o, G.get? b = some o → g'.get? b = some o := fun b o e => kb' _ _ (hG b o e).1 (hG b o e).2
  have hvs' := IsList.up hvs fun b o e => F'.keep _ _ (GG b o e)
  k_steps
  refine item_listL (k := (i : Int)) (x := .str tx tt) (by first | assumption | exact IsList.up hvs fun b o e => (show Fr _ _ _ _ by assumption).keep _ _ (GG b o e)) (by omega) (by omega) htv ?_ (by with_unfolding_all rfl) (by intro _; with_unfolding_all rfl)
  k_steps
  refine' use C ?B ?F ?X ?N ?T ?K ?d ?u (fun _ h => h) (Rest.all fun _ h => h) ?_; (case B => k_asm); (case F => k_asm); (case X => k_asm); (case N => k_asm); (case T => k_asm); (case K => first | exact rfl | assumption); (case d => ktr_room); (case u => ktr_units)
  intro r9 led9 h9 tk9 F9 N9 P9 M9
  obtain ⟨e9, S', ps', f9, q1, q2, q3, q4, q5, q6, q7, q8⟩ := P9
  subst e9
  rw [List.append_nil] at N9
  k_steps
  refine hret _ _ _ _ (by k_asm) (by assumption) (KeepBut.fr kb' (by k_asm)) ⟨rfl, S', ps', f9, q1, q2, q3, ?_, ?_, ?_, q7, ?_⟩
  · rw [q4]; simp only [Way.txt, hd]
  · rw [q5, hlen]
  · simp only [Way.sgn, hlen]; exact q6
  · simp only [Way.lvs]; omega
end

section
variable (w : World) (mean : ExcName → Option Value) (mg mb : Str → Option Value)
open KStt
theorem ground_off {G g h : Heap} {L : Addr} {m : Str → Option Value} {led : List (Addr × Obj)} (GG : ∀ b o, G.get? b = some o → g.get? b = some o) (F : Fr g L h m) (N : News g L h led) : ∀ b o, G.get? b = some o → h.get? b = some o ∧ b ∉ led.map (·.1) := fun b o e =>
  ⟨F.keep _ _ (GG b o e), fun hm => by obtain ⟨p, hp, rfl⟩ := List.mem_map.mp hm; have := (N p hp).2.2; rw [GG _ _ e] at this; cases this⟩
theorem node_g {ts : List Str} {x y : Way} {G : Heap} {ta a : Addr} {v1 v2 : Value} {S : Sp} {ps : List Pl} {PostN : List (Addr × Obj) → Prop} {PostX : List (Addr × Obj) → Obj → Prop} (hv : IsTup G a #[v1, v2])
    (Cx : CtrG w mean mg mb x.dd 151 [.ref S.sp, v1, .ref ta] G (stL S ps) (JPost S ps ts x) (fun _ _ => False))
    (Cy : ∀ S' ps', JF S ps ts x S' ps' → CtrG w mean mg mb y.dd 151 [.ref S.sp, v2, .ref ta] G (stL S' ps') (JPost S' ps' ts y) (fun _ _ => False))
    (CJ : ∀ S' ps' S'' ps'', JF S ps ts x S' ps' → JF S' ps' ts y S'' ps'' → CtrX w mean mg mb 10 127 [.ref S.sp] (stL S'' ps'') (fun _ r led' => r = .none ∧ PostN led') PostX) :
    CtrG w mean mg mb (x.dd + y.dd + 12) 151 [.ref S.sp, .ref a, .ref ta] G (stL S ps) (fun r led' => r = .none ∧ PostN led') PostX := by
  unfold CtrG
  k_fill
  intro dp un gd cn cs a' ccd cl outer A₀ base h₀ L m s Q E B F X N T hk hd' hu hG hret hraise
  generalize hled : stL S ps = led at *
  (refine wpAny_call ?_; k_dflt (refine' enter_def (binds := [(Str.ofString "space", Value.ref S.sp), (Str.ofString "way", Value.ref a), (Str.ofString "texts", Value.ref ta)]) ?k1 ?k2 ?k3 ?k4 ?k5 ?kA ?kF ?kK ?k6 ?k7 ?k8 ?k9 ?kB ?_ ?c2 ?c3 ?c4 ?c5; (case kA => exact rfl); (case kF => exact rfl); (case kK => assumption); (case k1 => k_asm); (case k2 => k_asm); (case k3 => k_asm); (case k4 => k_asm); (case k5 => k_asm); (case k6 => k_is); (case k7 => k_is); (case k8 => ktr_room); (case k9 => exact BindsTo.of_eq rfl); (case c5 => decide); (case kB => exact locs rfl); (case c2 => exact rfl); (case c3 => exact rfl); (case c4 => exact rfl); k_whole; intro g' L' h' hL' kb' lt' F' N' B' X' T'; (try simp only [AllLt, and_true] at lt'); (try dsimp only); (try k_fold)))
  have GG : ∀ b o, G.get? b = some o → g'.get? b = some o := fun b o e => kb' _ _ (hG b o e).1 (hG b o e).2
  have hvg : IsTup g' a #[v1, v2] := IsTup.up hv GG
  k_steps
  refine call_isinstance_yes (Tx := "tuple") (T := "tuple") (let ⟨o, ho, hc, _⟩ := IsTup.up hvg F'.keep; ⟨o, ho, hc⟩) (by kernel_rfl) (by rw [isSubtype_type]; kernel_rfl) ?_
  k_steps
  refine' Cx _ _ _ _ _ _ _ _ _ _ _ _ _ _ _ _ _ ?B1 ?F1 ?X1 ?N1 ?T1 ?K1 ?d1 ?u1 (ground_off GG ?F1 ?N1) ?r1 (fun _ _ _ _ _ _ _ _ z => z.elim); (case B1 => k_asm); (case F1 => k_asm); (case X1 => k_asm); (case N1 => k_asm); (case T1 => k_asm); (case K1 => first | exact rfl | assumption); (case d1 => ktr_room); (case u1 => ktr_units)
  intro r9 led1 h9 tk9 F9 N9 k9 P9
  obtain ⟨e9, S1, ps1, f1, J1⟩ := P9
  subst e9
  have C2 := Cy S1 ps1 J1
  rw [← f1] at C2
  k_steps
  refine' C2 _ _ _ _ _ _ _ _ _ _ _ _ _ _ _ _ _ ?B2 ?F2 ?X2 ?N2 ?T2 ?K2 ?d2 ?u2 (ground_off GG ?F2 ?N2) ?r2 (fun _ _ _ _ _ _ _ _ z => z.elim); (case B2 => k_asm); (case F2 => k_asm); (case X2 => k_asm); (case N2 => k_asm); (case T2 => k_asm); (case K2 => first | exact rfl | assumption); (case d2 => ktr_room); (case u2 => ktr_units)
  intro r9 led2 h9 tk9 F9 N9 k9 P9
  obtain ⟨e9, S2, ps2, f2, J2⟩ := P9
  subst e9
  have C3 := CJ S1 ps1 S2 ps2 J1 J2
  rw [← f2] at C3
  k_steps
  refine' C3 _ _ _ _ _ _ _ _ _ _ _ _ _ _ _ _ _ ?B3 ?F3 ?X3 ?N3 ?T3 ?K3 ?d3 ?u3 ?r3 ?x3; (case B3 => k_asm); (case F3 => k_asm); (case X3 => k_asm); (case N3 => k_asm); (case T3 => k_asm); (case K3 => first | exact rfl | assumption); (case d3 => ktr_room); (case u3 => ktr_units)
  case r3 =>
    intro r9 led3 h9 tk9 F9 N9 k9 P9
    obtain ⟨e9, P9⟩ := P9
    subst e9
    k_steps
    exact hret _ _ _ _ (by k_asm) (by assumption) (KeepBut.fr kb' (by k_asm)) ⟨rfl, P9⟩
  case x3 =>
    intro e dx' od Bx led' h'' tk'' Y P
    exact fly_on (rest := []) rfl rfl B' (by k_asm) (by k_asm) (fun b hb => by obtain ⟨p, hp, rfl⟩ := List.mem_map.mp hb; exact ⟨p, hp, rfl⟩) (fun q hq => nomatch hq) Y kb' fun h5 Y' => hraise _ _ _ _ _ h5 _ (Y'.sub fun p hp => List.mem_append_left _ hp) P
end

theorem Desc.mem : ∀ {ps : List Pl} {top b : Int}, Desc top ps b → 0 ≤ b → ∀ p ∈ ps, 0 ≤ p.a ∧ 0 < p.l ∧ p.a + p.l ≤ top
  | [], _, _, _, _, _, h => nomatch h
  | q :: r, top, b, ⟨h1, h2, h3⟩, hb, p, hp => by
    have low : ∀ {ps : List Pl} {t : Int}, Desc t ps b → b ≤ t := by
      intro ps
      induction ps with
      | nil => exact fun h => h
      | cons p r ih => rintro t ⟨x1, x2, x3⟩; have := ih x3; omega
    have := low h3
    rcases List.mem_cons.mp hp with rfl | hp
    · exact ⟨by omega, h1, h2⟩
    · obtain ⟨x1, x2, x3⟩ := Desc.mem h3 hb p hp
      exact ⟨x1, x2, by omega⟩
theorem Ok.len {S : Sp} {ps : List Pl} (O : Ok S ps) : ∀ p ∈ ps, ((sl S.ns p.a p.l).length : Int) = p.l := fun p hp => by
  obtain ⟨h1, h2, h3⟩ := O.desc.mem O.kf p hp
  have := O.hn
  exact sl_length h1 (by omega) (by omega)
theorem last_two (f : Pl → List Int) : ∀ (us : List (List Int)) {ps : List Pl} {A B : List Int}, (∀ p ∈ ps, ((f p).length : Int) = p.l) → ps.map f = us ++ [A, B] → lenL ps = A.length + B.length ∧ joinL (ps.map f) = us ++ [A ++ B] ∧ 2 ≤ ps.length
  | [], ps, A, B, h, e => by
    rcases ps with _ | ⟨p, _ | ⟨q, _ | _⟩⟩ <;> simp at e
    obtain ⟨rfl, rfl⟩ := e
    have h1 := h p (.head _)
    have h2 := h q (.tail _ (.head _))
    refine ⟨?_, rfl, by simp⟩
    simp only [lenL]; omega
  | u :: us, ps, A, B, h, e => by
    rcases ps with _ | ⟨p, r⟩
    · simp at e
    · simp only [List.map_cons, List.cons_append, List.cons.injEq] at e
      obtain ⟨rfl, e⟩ := e
      obtain ⟨h1, h2, h3⟩ := last_two f us (ps := r) (fun q hq => h q (.tail _ hq)) e
      rcases r with _ | ⟨a, _ | ⟨b, r'⟩⟩
      · simp at h3
      · simp at h3
      · refine ⟨h1, ?_, by simp⟩
        show f p :: joinL ((a :: b :: r').map f) = _
        rw [h2]; rfl
namespace Way
variable {ts : List Str}
theorem len_node (x y : Way) : (node x y).len ts = x.len ts + y.len ts := by simp [len, txt]
theorem len_nn (W : Way) : 0 ≤ W.len ts := by simp [len]
theorem sgn_nn : ∀ W : Way, 0 ≤ W.sgn ts
  | .leaf i => len_nn _
  | .node x y => by have := sgn_nn x; have := sgn_nn y; have := len_nn (ts := ts) (node x y); simp only [sgn]; omega
theorem need_le : ∀ W : Way, W.need ts ≤ 2 * W.len ts
  | .leaf i => by have := len_nn (ts := ts) (leaf i); simp only [need]; omega
  | .node x y => Int.le_refl _
theorem len_bounds (tk : TsOk ts) : ∀ W : Way, W.ok ts → 1 ≤ W.len ts ∧ W.len ts ≤ 3 * W.lvs
  | .leaf i, h => by
    have h' : i < ts.length := h
    obtain ⟨tx, htx⟩ : ∃ tx, ts[i]? = some tx := ⟨_, List.getElem?_eq_getElem h'⟩
    have hm := List.mem_of_getElem? htx
    have hd : ts.getD i (Str.ofString "") = tx := by rw [List.getD_eq_getElem?_getD, htx]; rfl
    have h1 := tk.pos tx hm
    have h2 := tk.le tx hm
    simp only [len, txt, hd, KStt.codes_length, lvs]
    omega
  | .node x y, h => by
    have h1 := len_bounds tk x h.1
    have h2 := len_bounds tk y h.2
    rw [len_node]; simp only [lvs]; omega
end Way
section
variable (w : World) (mean : ExcName → Option Value) (mg mb : Str → Option Value)
open KStt
theorem way_j {ts : List Str} (tk : TsOk ts) (h4 : ts.length ≤ 4) {G : Heap} {ta : Addr} (hT : TextsAre G ta ts) : ∀ (W : Way), W.ok ts → ∀ {v : Value} {S : Sp} {ps : List Pl}, IsWay G W v → Ok S ps → ps.length + W.lvs ≤ 4 → live ps + W.need ts ≤ S.n → S.c + 2 * W.lvs ≤ 1000 →
    CtrG w mean mg mb W.dd 151 [.ref S.sp, v, .ref ta] G (stL S ps) (JPost S ps ts W) (fun _ _ => False)
  | .leaf i, hok, v, S, ps, hw, O, hl, hn, hc => by
    obtain ⟨t, rfl⟩ := hw
    simp only [Way.lvs, Way.need] at hl hn hc
    exact leaf_j w mean mg mb tk h4 hok hT O (by omega) hn (by omega)
  | .node x y, hok, v, S, ps, hw, O, hl, hn, hc => by
    obtain ⟨a, v1, v2, rfl, hv, hx, hy⟩ := hw
    simp only [Way.lvs, Way.need] at hl hn hc
    have nx := Way.need_le (ts := ts) x
    have ny := Way.need_le (ts := ts) y
    have ln := Way.len_node (ts := ts) x y
    obtain ⟨bx1, bx2⟩ := Way.len_bounds tk x hok.1
    obtain ⟨by1, by2⟩ := Way.len_bounds tk y hok.2
    have sx := Way.sgn_nn (ts := ts) x
    have sy := Way.sgn_nn (ts := ts) y
    refine node_g w mean mg mb (PostN := fun led' => ∃ S' ps', led' = stL S' ps' ∧ JF S ps ts (.node x y) S' ps') hv (way_j tk h4 hT x hok.1 hx O (by omega) (by omega) (by omega)) (fun S1 ps1 J => ?_) (fun S1 ps1 S2 ps2 J1 J2 => ?_)
    · obtain ⟨j1, j2, j3, j4, j5, j6, j7, j8⟩ := J
      have := way_j tk h4 hT y hok.2 hy j2 (by omega) (by rw [j1.n]; omega) (by omega)
      rw [j1.sp] at this
      exact this
    · obtain ⟨j1, j2, j3, j4, j5, j6, j7, j8⟩ := J1
      obtain ⟨k1, k2, k3, k4, k5, k6, k7, k8⟩ := J2
      have e : txs S2 ps2 = txs S ps ++ [x.txt ts, y.txt ts] := by rw [k4, j4, List.append_assoc]; rfl
      obtain ⟨e1, e2, e3⟩ := last_two (fun p => sl S2.ns p.a p.l) (txs S ps) k2.len e
      have e1' : lenL ps2 = x.len ts + y.len ts := e1
      have C := join_g w mean mg mb (S := S2) (by omega) ps2 k2 e3 (by omega) (by rw [k1.n, j1.n]; omega) (by omega)
      rw [k1.sp, j1.sp] at C
      refine (C.mono fun _ r led' P => ?_).noX
      obtain ⟨rfl, S3, ps3, rfl, q1, q2, q3, q4, q5, q6, q7, q8⟩ := P
      refine ⟨rfl, S3, ps3, rfl, ⟨q1.sp.trans (k1.sp.trans j1.sp), q1.n.trans (k1.n.trans j1.n), q1.dx.trans (k1.dx.trans j1.dx)⟩, q2, by omega, ?_, by omega, fun hs => ?_, by omega, by simp only [Way.lvs]; omega⟩
      · rw [q4]; exact e2
      · simp only [Way.sgn] at hs ⊢
        obtain ⟨y1, y2⟩ := j6 (by omega)
        obtain ⟨y3, y4⟩ := k6 (by omega)
        obtain ⟨y5, y6⟩ := q6 (by omega)
        exact ⟨by omega, by omega⟩
theorem way_x {ts : List Str} (tk : TsOk ts) (h4 : ts.length ≤ 4) {G : Heap} {ta : Addr} (hT : TextsAre G ta ts) {x y : Way} (hok : (Way.node x y).ok ts) {v : Value} {S : Sp} (hw : IsWay G (.node x y) v) (O : Ok S []) (hl : (Way.node x y).lvs ≤ 4) (hn : S.n = 2 * (Way.node x y).len ts - 1) (hc : S.c + 8 ≤ 1000) :
    CtrG w mean mg mb (Way.node x y).dd 151 [.ref S.sp, v, .ref ta] G (stL S []) (fun _ _ => False)
      (fun led' od => (∃ h1 h2 k1 k2 tc l, od = excD h1 h2 k1 k2 (.str (Str.ofString "OS") tc) l) ∧ ∃ S' ps', led' = stL S' ps' ∧ SameS S S' ∧ Ok S' ps' ∧ ps'.length = 2 ∧ txs S' ps' = [x.txt ts, y.txt ts]) := by
  obtain ⟨a, v1, v2, rfl, hv, hx, hy⟩ := hw
  simp only [Way.lvs] at hl
  have nx := Way.need_le (ts := ts) x
  have ny := Way.need_le (ts := ts) y
  have ln := Way.len_node (ts := ts) x y
  obtain ⟨bx1, bx2⟩ := Way.len_bounds tk x hok.1
  obtain ⟨by1, by2⟩ := Way.len_bounds tk y hok.2
  have l0 : live [] = 0 := rfl
  have C := node_g w mean mg mb (x := x) (y := y) (PostN := fun _ => False)
    (PostX := fun led' od => (∃ h1 h2 k1 k2 tc l, od = excD h1 h2 k1 k2 (.str (Str.ofString "OS") tc) l) ∧ ∃ S' ps', led' = stL S' ps' ∧ SameS S S' ∧ Ok S' ps' ∧ ps'.length = 2 ∧ txs S' ps' = [x.txt ts, y.txt ts]) hv
    (way_j w mean mg mb tk h4 hT x hok.1 hx O (by simp only [List.length_nil]; omega) (by omega) (by omega)) (fun S1 ps1 J => by
      obtain ⟨j1, j2, j3, j4, j5, j6, j7, j8⟩ := J
      simp only [List.length_nil] at j3
      have := way_j w mean mg mb tk h4 hT y hok.2 hy j2 (by omega) (by rw [j1.n]; omega) (by omega)
      rw [j1.sp] at this
      exact this) (fun S1 ps1 S2 ps2 J1 J2 => by
      obtain ⟨j1, j2, j3, j4, j5, j6, j7, j8⟩ := J1
      obtain ⟨k1, k2, k3, k4, k5, k6, k7, k8⟩ := J2
      simp only [List.length_nil] at j3
      have e : txs S2 ps2 = [x.txt ts, y.txt ts] := by rw [k4, j4]; rfl
      obtain ⟨e1, e2, e3⟩ := last_two (fun p => sl S2.ns p.a p.l) [] k2.len e
      have e1' : lenL ps2 = x.len ts + y.len ts := e1
      rcases ps2 with _ | ⟨p1, _ | ⟨p2, _ | _⟩⟩ <;> simp only [List.length_cons, List.length_nil] at k3 <;> (try omega)
      have e4 : p1.l + p2.l = x.len ts + y.len ts := e1'
      obtain ⟨d1, d2, d3, d4, d5⟩ := k2.desc
      have hn2 : S2.n = S.n := k1.n.trans j1.n
      have C := joinX_g w mean mg mb (S := S2) (p1 := p1) (p2 := p2) (by omega) k2 (by omega) (by simp only [Desc] at d5; omega) (by omega)
      rw [k1.sp, j1.sp] at C
      intro dp un gd cn cs a ccd cl outer A₀ base h₀ L m s Q E B F X N T hk hd hu hret hraise
      refine C dp un gd cn cs a ccd cl outer A₀ base h₀ L m s Q E B F X N T hk hd hu (fun _ _ _ _ _ _ _ z => z.elim) fun ee dx od Bx led' h' tk' Y P => hraise ee dx od Bx led' h' tk' Y ⟨P.1, ?_⟩
      obtain ⟨_, S3, ps3, rfl, q1, q2, q3, q4⟩ := P
      exact ⟨S3, ps3, rfl, ⟨q1.sp.trans (k1.sp.trans j1.sp), q1.n.trans (k1.n.trans j1.n), q1.dx.trans (k1.dx.trans j1.dx)⟩, q2, q3, by rw [q4]; exact e⟩)
  intro dp un gd cn cs a ccd cl outer A₀ base h₀ L m s Q E B F X N T hk hd hu hG hret hraise
  exact C dp un gd cn cs a ccd cl outer A₀ base h₀ L m s Q E B F X N T hk hd hu hG (fun _ _ _ _ _ _ _ z => z.2.elim) hraise
end

section
variable {prog : Program} {w : World} {A : Around} {E : Value → Shared → Prop} {s : Shared} {h₀ : Heap} {L : Addr} {m : Str → Option Value} {news : List (Addr × Obj)}
theorem list_sort_one {a : Addr} {x : Value} {n : Nat} {P : PySem.Fin → Shared → Prop} (ho : s.heap.get? a = some (seqObj "list" #[x] n))
    (h : ∀ c2 h', (∀ b o, b ≠ a → s.heap.get? b = some o → h'.get? b = some o) → h'.get? a = some (seqObj "list" #[x] c2) → P (.done (.ret .none)) { s with heap := h' }) :
    wpAny (model prog w) A (Builtin.«list.sort» ⟨[.ref a], []⟩) P E s := by
  have ha : a < s.heap.objs.size := Heap.lt_size ho
  obtain ⟨e1, ho1⟩ : ∃ e1, (s.heap.update a (Obj.mapSeq fun _ => (#[] : Array Value))).get? a = some (seqObj "list" #[] e1) := ⟨_, get?_update_seq ho fun _ => #[]⟩
  have ho3 : (((s.heap.update a (Obj.mapSeq fun _ => (#[] : Array Value))).push (seqObj "tuple" #[x] 0)).push (seqObj "list" #[] 0)).get? a = some (seqObj "list" #[] e1) := Heap.get?_push_of_some _ (Heap.get?_push_of_some _ ho1)
  rw [list_sort_plain]
  refine wpAny_bind (listItems_at ho rfl ?_)
  refine wpAny_bind (listUpdate_at ho rfl ?_ (Nat.le_of_ble_eq_true rfl) (Nat.zero_le _))
  refine wpAny_bind (seqEpoch_at ho1 rfl ?_)
  refine wpAny_bind (wpAny_newTuple ?_ (Nat.le_of_ble_eq_true rfl))
  refine wpAny_bind (wpAny_newList ?_ (Nat.zero_le _))
  refine wpAny_holding ?_
  dsimp only
  have hlt : (#[x] : Array Value).size < 2 := Nat.lt_succ_self 1
  rw [if_pos hlt, if_pos hlt]
  refine wpAny_bind (wpAny_pure ?_)
  refine wpAny_bind (wpAny_pure ?_)
  show wpAny (model prog w) A _ P E { s with heap := ((s.heap.update a (Obj.mapSeq fun _ => (#[] : Array Value))).push (seqObj "tuple" #[x] 0)).push (seqObj "list" #[] 0) }
  dsimp only
  refine wpAny_bind (seqEpoch_at ho3 rfl ?_)
  have hout : Array.map (fun p : Value × Value => p.2) (arrOf (SortSt.mk' general' ((#[x] : Array Value).zip #[x]) #[] 7 none)) = #[x] := by
    first | rfl | (simp [arrOf, SortSt.mk']; done) | (unfold arrOf SortSt.mk'; simp)
  rw [hout]
  refine wpAny_bind (listUpdate_at ho3 rfl ?_ (Nat.zero_le _) (Nat.le_of_ble_eq_true rfl))
  obtain ⟨c2, hc2⟩ : ∃ c2, ((((s.heap.update a (Obj.mapSeq fun _ => (#[] : Array Value))).push (seqObj "tuple" #[x] 0)).push (seqObj "list" #[] 0)).update a (Obj.mapSeq fun _ => (#[x] : Array Value))).get? a = some (seqObj "list" #[x] c2) := ⟨_, get?_update_seq ho3 fun _ => #[x]⟩
  simp only [bne_self_eq_false, Bool.false_eq_true, if_false]
  exact wpAny_pure (h c2 _ (fun b o hb e => (Heap.get?_update_ne _ _ _ _ hb).trans (Heap.get?_push_of_some _ (Heap.get?_push_of_some _ ((Heap.get?_update_ne _ _ _ _ hb).trans e)))) hc2)
theorem sorted_one {l : Addr} {x : Value} {Q : Value → Shared → Prop} (F : Fr h₀ L s.heap m) (N : News h₀ L s.heap news) (hl : s.heap.IsList l #[x])
    (h : ∀ D c h', Fr h₀ L h' m → News h₀ L h' ((D, W.listOf #[x] c) :: news) → (∀ q ∈ news, q.1 < D) → Q (.ref D) { s with heap := h' }) :
    wpAny (model prog w) A (call (.builtin "sorted") [.ref l]) Q E s := by
  refine Calls.call_function_entry kind_sorted plain_sorted entry_sorted (args_sorted1 _) ?_
  unfold Builtin.«sorted»
  refine wpAny_bind (m := checkCount "sorted" 1 1 _) (wpAny_pure ?_)
  refine wpAny_bind (collect_list (vs := [x]) hl ?_ (Nat.le_of_ble_eq_true rfl))
  refine wpAny_bind (wpAny_newList ?_ (Nat.le_of_ble_eq_true rfl))
  have hsz : ((s.heap.push (seqObj "list" #[] 0)).update s.heap.objs.size (Obj.mapSeq (· ++ #[x]))).objs.size = s.heap.objs.size + 1 := by
    rw [Heap.size_update, size_push']
  have hoL : (((s.heap.push (seqObj "list" #[] 0)).update s.heap.objs.size (Obj.mapSeq (· ++ #[x]))).push (seqObj "list" #[x] 0)).get? (s.heap.objs.size + 1) = some (seqObj "list" #[x] 0) := by
    rw [← hsz]; exact Heap.get?_push_size _ rfl
  have keep : ∀ b o, s.heap.get? b = some o → (((s.heap.push (seqObj "list" #[] 0)).update s.heap.objs.size (Obj.mapSeq (· ++ #[x]))).push (seqObj "list" #[x] 0)).get? b = some o := fun b o q => by
    have hlt : b < s.heap.objs.size := Heap.lt_size q
    rw [Heap.get?_push_ne _ _ _ (by rw [hsz]; exact Nat.ne_of_lt (Nat.lt_succ_of_lt hlt)), Heap.get?_update_ne _ _ _ _ (Nat.ne_of_lt hlt), Heap.get?_push_ne _ _ _ (Nat.ne_of_lt hlt)]
    exact q
  have hL : L < s.heap.objs.size := F.ns.lt
  show wpAny _ _ _ _ _ { s with heap := ((s.heap.push (seqObj "list" #[] 0)).update s.heap.objs.size (Obj.mapSeq (· ++ #[x]))).push (seqObj "list" #[x] 0) }
  rw [hsz]
  refine wpAny_bind (wpAny_holding (wpAny_call_entry slot_list_sort ⟨_, hoL, rfl⟩ entry_list_sort ?body (args_list_sort _)))
  case body =>
    refine list_sort_one hoL fun c2 h' k1 k2 => ⟨_, rfl, wpAny_pure ⟨_, rfl, ?_⟩⟩
    have up : ∀ b o, s.heap.get? b = some o → h'.get? b = some o := fun b o e => k1 b o (Nat.ne_of_lt (Nat.lt_succ_of_lt (Heap.lt_size e))) (keep b o e)
    refine h _ c2 h' (F.kept up) (fun p hp => ?_) fun q hq => Nat.lt_succ_of_lt (Heap.lt_size (N q hq).1)
    rcases List.mem_cons.mp hp with rfl | hp
    · exact ⟨k2, Nat.ne_of_gt (Nat.lt_succ_of_lt hL), Heap.get?_none_of_le (Nat.le_trans F.above (Nat.le_succ_of_le (Nat.le_of_lt hL)))⟩
    · exact N.grown up p hp
end

theorem off3_all {I C D : Addr} : ∀ {l : List (Addr × Obj)}, LCg.Off3 I C D l → AllNe I l ∧ AllNe C l ∧ AllNe D l
  | [], _ => ⟨trivial, trivial, trivial⟩
  | p :: r, h => by
    obtain ⟨h1, h2, h3⟩ := LCg.Off3.mem h p (.head _)
    obtain ⟨r1, r2, r3⟩ := off3_all (LCg.Off3.of fun q hq => LCg.Off3.mem h q (.tail _ hq))
    exact ⟨⟨h1, r1⟩, ⟨h2, r2⟩, ⟨h3, r3⟩⟩
section
variable (w : World) (mean : ExcName → Option Value) (mg mb : Str → Option Value)
open KStt LCg
local macro_rules | `(tactic| walk_at "call ref") => `(tactic| (k_here; (with_reducible show wpAny _ _ (call (Value.ref 68) _) _ _ _); k_dflt (refine' use (text_at_c _ _ _ _ ?hi ?h0 ?h2 ?h1 ?hz ?hr) ?B ?F ?X ?N ?T ?K ?d ?u ?s ?r ?_; (case B => k_asm); (case F => k_asm); (case X => k_asm); (case N => k_asm); (case T => k_asm); (case K => first | exact rfl | assumption); (case s => lcg_sub); (case r => ((try dsimp only [spL, List.cons_append, List.nil_append]); walk_at "REST")); (case d => ktr_room); (case u => ktr_units); (case hi => l_ints); (case h0 => omega); (case h2 => omega); (case h1 => omega); (case hz => omega); (case hr => with_reducible assumption)); (intro r9 led9 h9 tk9 F9 N9 P9 M9; obtain ⟨f9, t9, e9⟩ := P9; subst e9; subst f9; clear M9; (try dsimp only [spL, List.cons_append, List.nil_append] at N9); (try k_sweep); (try dsimp only))))
theorem waiting1_c {sp dx oc hd wt p1 : Addr} {H : Hk} {n fr c : Int} {t1 t2 t3 t4 t5 s1 r1 : Tok} {vs : List Value} {ns : List Int} {u u' u1 : Nat} {a1 l1 : Int} (hi : IntsAre vs ns) (hn : n = ns.length) (hz : ns.length ≤ 1000) (hr : ∀ x ∈ ns, 0 ≤ x ∧ x < 128) (o1 : @LT.lt Nat _ dx sp) (o2 : @LT.lt Nat _ sp oc) (o3 : @LT.lt Nat _ oc hd) (o4 : @LT.lt Nat _ hd wt) (h1 : 0 ≤ l1) (b1 : 0 ≤ a1) (e1 : a1 + l1 ≤ ns.length) (c1 : @LT.lt Nat _ wt p1) :
    Ctr w mean mg mb 4 168 [.ref sp] (spL sp dx oc hd wt H n fr c t1 t2 t3 t4 t5 vs.toArray u #[.ref p1] u' ++ [(p1, listOf #[.int a1 s1, .int l1 r1] u1)]) (fun hp r led' => ∃ D uD y1, r = .ref D ∧ hp.get? D = none ∧ led' = spL sp dx oc hd wt H n fr c t1 t2 t3 t4 t5 vs.toArray u #[.ref p1] u' ++ [(p1, listOf #[.int a1 s1, .int l1 r1] u1)] ++ [(D, W.listOf #[.str (txt (sl ns a1 l1)) y1] uD)]) := by
  unfold Ctr
  k_fill
  intro dp un gd cn cs a' ccd cl outer A₀ base h₀ L m s Q E B F X N T hk hd' hu hret
  (try dsimp only [spL, List.cons_append, List.nil_append] at N)
  (refine wpAny_call ?_; k_dflt (refine' enter_defC (binds := [(Str.ofString "space", Value.ref sp)]) ?k1 ?k2 ?k3 ?k4 ?k5 ?kA ?kF ?kK ?k6 ?k7 ?k8 ?k9 ?kB ?kD ?_ ?c2 ?c3 ?c4; (case kA => exact rfl); (case kF => exact rfl); (case kK => assumption); (case k1 => k_asm); (case k2 => k_asm); (case k3 => k_asm); (case k4 => k_asm); (case k5 => k_asm); (case k6 => k_is); (case k7 => k_is); (case k8 => ktr_room); (case k9 => exact BindsTo.of_eq rfl); (case kB => exact rfl); (case kD => decide +kernel); (case c2 => exact rfl); (case c3 => exact rfl); (case c4 => exact rfl); k_whole; intro g' L' h' tk' cells' hL' kb' lt' F' N' Y' B' X' T'; (replace F' : Fr g' L' h' (fun _ => none) := F'); (try simp only [AllLt, and_true] at lt'); k_cells Y'; (try simp only [List.cons_append, List.nil_append] at N'); (try dsimp only); (try k_fold)))
  k_steps
  rename LCg.Off3 _ _ _ _ => off9
  have hO0 := off3_all off9
  clear off9
  simp only [AllNe, and_true] at hO0
  obtain ⟨hI0, hC0, hD0⟩ := hO0
  (repeat (obtain ⟨_, hI0⟩ := hI0)); (repeat (obtain ⟨_, hC0⟩ := hC0)); (repeat (obtain ⟨_, hD0⟩ := hD0))
  k_steps
  refine' hret _ _ _ _ ?cF (news_sub ?cN ?cS) ?cK ⟨_, _, _, rfl, ?cD, rfl⟩
  case cF => k_asm
  case cN => assumption
  case cS => ((try dsimp only [spL, List.cons_append, List.nil_append]); lcg_sub)
  case cK => exact KeepBut.fr kb' (by k_asm)
  case cD => exact fresh_of kb' (by assumption) (.head _) (by (try dsimp only [spL, List.cons_append, List.nil_append]); walk_at "NOTIN")
theorem waiting2_c {sp dx oc hd wt p1 p2 : Addr} {H : Hk} {n fr c : Int} {t1 t2 t3 t4 t5 s1 r1 s2 r2 : Tok} {vs : List Value} {ns : List Int} {u u' u1 u2 : Nat} {a1 l1 a2 l2 : Int} (hi : IntsAre vs ns) (hn : n = ns.length) (hz : ns.length ≤ 1000) (hr : ∀ x ∈ ns, 0 ≤ x ∧ x < 128) (o1 : @LT.lt Nat _ dx sp) (o2 : @LT.lt Nat _ sp oc) (o3 : @LT.lt Nat _ oc hd) (o4 : @LT.lt Nat _ hd wt) (h1 : 0 ≤ l1) (b1 : 0 ≤ a1) (e1 : a1 + l1 ≤ ns.length) (h2 : 0 ≤ l2) (b2 : 0 ≤ a2) (e2 : a2 + l2 ≤ ns.length) (c1 : @LT.lt Nat _ wt p1) (c2 : @LT.lt Nat _ p1 p2) :
    Ctr w mean mg mb 4 168 [.ref sp] (spL sp dx oc hd wt H n fr c t1 t2 t3 t4 t5 vs.toArray u #[.ref p1, .ref p2] u' ++ [(p1, listOf #[.int a1 s1, .int l1 r1] u1), (p2, listOf #[.int a2 s2, .int l2 r2] u2)]) (fun hp r led' => ∃ D uD y1 y2, r = .ref D ∧ hp.get? D = none ∧ led' = spL sp dx oc hd wt H n fr c t1 t2 t3 t4 t5 vs.toArray u #[.ref p1, .ref p2] u' ++ [(p1, listOf #[.int a1 s1, .int l1 r1] u1), (p2, listOf #[.int a2 s2, .int l2 r2] u2)] ++ [(D, W.listOf #[.str (txt (sl ns a1 l1)) y1, .str (txt (sl ns a2 l2)) y2] uD)]) := by
  unfold Ctr
  k_fill
  intro dp un gd cn cs a' ccd cl outer A₀ base h₀ L m s Q E B F X N T hk hd' hu hret
  (try dsimp only [spL, List.cons_append, List.nil_append] at N)
  (refine wpAny_call ?_; k_dflt (refine' enter_defC (binds := [(Str.ofString "space", Value.ref sp)]) ?k1 ?k2 ?k3 ?k4 ?k5 ?kA ?kF ?kK ?k6 ?k7 ?k8 ?k9 ?kB ?kD ?_ ?c2 ?c3 ?c4; (case kA => exact rfl); (case kF => exact rfl); (case kK => assumption); (case k1 => k_asm); (case k2 => k_asm); (case k3 => k_asm); (case k4 => k_asm); (case k5 => k_asm); (case k6 => k_is); (case k7 => k_is); (case k8 => ktr_room); (case k9 => exact BindsTo.of_eq rfl); (case kB => exact rfl); (case kD => decide +kernel); (case c2 => exact rfl); (case c3 => exact rfl); (case c4 => exact rfl); k_whole; intro g' L' h' tk' cells' hL' kb' lt' F' N' Y' B' X' T'; (replace F' : Fr g' L' h' (fun _ => none) := F'); (try simp only [AllLt, and_true] at lt'); k_cells Y'; (try simp only [List.cons_append, List.nil_append] at N'); (try dsimp only); (try k_fold)))
  k_steps
  rename LCg.Off3 _ _ _ _ => off9
  have hO0 := off3_all off9
  clear off9
  simp only [AllNe, and_true] at hO0
  obtain ⟨hI0, hC0, hD0⟩ := hO0
  (repeat (obtain ⟨_, hI0⟩ := hI0)); (repeat (obtain ⟨_, hC0⟩ := hC0)); (repeat (obtain ⟨_, hD0⟩ := hD0))
  k_steps
  rename LCg.Off3 _ _ _ _ => off9
  have hO1 := off3_all off9
  clear off9
  simp only [AllNe, and_true] at hO1
  obtain ⟨hI1, hC1, hD1⟩ := hO1
  (repeat (obtain ⟨_, hI1⟩ := hI1)); (repeat (obtain ⟨_, hC1⟩ := hC1)); (repeat (obtain ⟨_, hD1⟩ := hD1))
  k_steps
  refine' hret _ _ _ _ ?cF (news_sub ?cN ?cS) ?cK ⟨_, _, _, _, rfl, ?cD, rfl⟩
  case cF => k_asm
  case cN => assumption
  case cS => ((try dsimp only [spL, List.cons_append, List.nil_append]); lcg_sub)
  case cK => exact KeepBut.fr kb' (by k_asm)
  case cD => exact fresh_of kb' (by assumption) (.head _) (by (try dsimp only [spL, List.cons_append, List.nil_append]); walk_at "NOTIN")
end

section
variable (w : World) (mean : ExcName → Option Value) (mg mb : Str → Option Value)
open KStt LCg
local macro_rules | `(tactic| walk_at "storeName") => `(tactic| (k_here; (with_reducible show wpAny _ _ (storeName _ (Str.ofString "found") _) _ _ _); exfalso; omega))
local macro_rules | `(tactic| walk_at "call builtin:sorted") => `(tactic| (k_here; (with_unfolding_all refine' sorted_one ?k1 ?k2 ?k3 ?_; (case k1 => k_asm); (case k2 => k_asm); (case k3 => kso_list); k_whole); intro D' c' h' F' N' l1; (try k_lt l1); (try k_sweep)))
theorem sound1_c {sp dx oc hd wt p1 : Addr} {H : Hk} {n fr c : Int} {t1 t2 t3 t4 t5 s1 r1 : Tok} {vs : List Value} {u u' u1 : Nat} {a1 l1 : Int} (o1 : @LT.lt Nat _ dx sp) (o2 : @LT.lt Nat _ sp oc) (o3 : @LT.lt Nat _ oc hd) (o4 : @LT.lt Nat _ hd wt) (lo : (hd == sysModules) = false) (h1 : 0 < l1) (b1 : a1 + l1 ≤ n) (bt : fr ≤ a1) (kf : 0 ≤ fr) (kn : n ≤ 1000) (c1 : @LT.lt Nat _ wt p1) :
    Ctr w mean mg mb 4 132 [.ref sp] (spL sp dx oc hd wt H n fr c t1 t2 t3 t4 t5 vs.toArray u #[.ref p1] u' ++ [(p1, listOf #[.int a1 s1, .int l1 r1] u1)]) (fun hp r led' => r = .bool true ∧ led' = spL sp dx oc hd wt H n fr c t1 t2 t3 t4 t5 vs.toArray u #[.ref p1] u' ++ [(p1, listOf #[.int a1 s1, .int l1 r1] u1)]) := by
  unfold Ctr
  k_fill
  intro dp un gd cn cs a' ccd cl outer A₀ base h₀ L m s Q E B F X N T hk hd' hu hret
  (try dsimp only [spL, List.cons_append, List.nil_append] at N)
  (refine wpAny_call ?_; k_dflt (refine' enter_def (binds := [(Str.ofString "space", Value.ref sp)]) ?k1 ?k2 ?k3 ?k4 ?k5 ?kA ?kF ?kK ?k6 ?k7 ?k8 ?k9 ?kB ?_ ?c2 ?c3 ?c4 ?c5; (case kA => exact rfl); (case kF => exact rfl); (case kK => assumption); (case k1 => k_asm); (case k2 => k_asm); (case k3 => k_asm); (case k4 => k_asm); (case k5 => k_asm); (case k6 => k_is); (case k7 => k_is); (case k8 => ktr_room); (case k9 => exact BindsTo.of_eq rfl); (case c5 => decide); (case kB => exact locs rfl); (case c2 => exact rfl); (case c3 => exact rfl); (case c4 => exact rfl); k_whole; intro g' L' h' hL' kb' lt' F' N' B' X' T'; (try simp only [AllLt, and_true] at lt'); (try dsimp only); (try k_fold)))
  k_steps
  rename LCg.Off3 _ _ _ _ => off9
  have hO0 := off3_all off9
  simp only [AllNe, and_true] at hO0
  obtain ⟨hI0, hC0, hD0⟩ := hO0
  (repeat (obtain ⟨_, hI0⟩ := hI0)); (repeat (obtain ⟨_, hC0⟩ := hC0)); (repeat (obtain ⟨_, hD0⟩ := hD0))
  k_steps
  all_goals refine' hret _ _ _ _ ?cF (news_sub ?cN ?cS) ?cK ⟨by rw [decide_eq_true kf], rfl⟩
  case cF => k_asm
  case cN => assumption
  case cS => ((try dsimp only [spL, List.cons_append, List.nil_append]); lcg_sub)
  case cK => exact KeepBut.fr kb' (by k_asm)
theorem sound2_c {sp dx oc hd wt p1 p2 : Addr} {H : Hk} {n fr c : Int} {t1 t2 t3 t4 t5 s1 r1 s2 r2 : Tok} {vs : List Value} {u u' u1 u2 : Nat} {a1 l1 a2 l2 : Int} (o1 : @LT.lt Nat _ dx sp) (o2 : @LT.lt Nat _ sp oc) (o3 : @LT.lt Nat _ oc hd) (o4 : @LT.lt Nat _ hd wt) (lo : (hd == sysModules) = false) (h1 : 0 < l1) (h2 : 0 < l2) (b1 : a1 + l1 ≤ n) (b2 : a2 + l2 ≤ a1) (bt : fr ≤ a2) (kf : 0 ≤ fr) (kn : n ≤ 1000) (c1 : @LT.lt Nat _ wt p1) (c2 : @LT.lt Nat _ p1 p2) :
    Ctr w mean mg mb 4 132 [.ref sp] (spL sp dx oc hd wt H n fr c t1 t2 t3 t4 t5 vs.toArray u #[.ref p1, .ref p2] u' ++ [(p1, listOf #[.int a1 s1, .int l1 r1] u1), (p2, listOf #[.int a2 s2, .int l2 r2] u2)]) (fun hp r led' => r = .bool true ∧ led' = spL sp dx oc hd wt H n fr c t1 t2 t3 t4 t5 vs.toArray u #[.ref p1, .ref p2] u' ++ [(p1, listOf #[.int a1 s1, .int l1 r1] u1), (p2, listOf #[.int a2 s2, .int l2 r2] u2)]) := by
  unfold Ctr
  k_fill
  intro dp un gd cn cs a' ccd cl outer A₀ base h₀ L m s Q E B F X N T hk hd' hu hret
  (try dsimp only [spL, List.cons_append, List.nil_append] at N)
  (refine wpAny_call ?_; k_dflt (refine' enter_def (binds := [(Str.ofString "space", Value.ref sp)]) ?k1 ?k2 ?k3 ?k4 ?k5 ?kA ?kF ?kK ?k6 ?k7 ?k8 ?k9 ?kB ?_ ?c2 ?c3 ?c4 ?c5; (case kA => exact rfl); (case kF => exact rfl); (case kK => assumption); (case k1 => k_asm); (case k2 => k_asm); (case k3 => k_asm); (case k4 => k_asm); (case k5 => k_asm); (case k6 => k_is); (case k7 => k_is); (case k8 => ktr_room); (case k9 => exact BindsTo.of_eq rfl); (case c5 => decide); (case kB => exact locs rfl); (case c2 => exact rfl); (case c3 => exact rfl); (case c4 => exact rfl); k_whole; intro g' L' h' hL' kb' lt' F' N' B' X' T'; (try simp only [AllLt, and_true] at lt'); (try dsimp only); (try k_fold)))
  k_steps
  rename LCg.Off3 _ _ _ _ => off9
  have hO0 := off3_all off9
  simp only [AllNe, and_true] at hO0
  obtain ⟨hI0, hC0, hD0⟩ := hO0
  (repeat (obtain ⟨_, hI0⟩ := hI0)); (repeat (obtain ⟨_, hC0⟩ := hC0)); (repeat (obtain ⟨_, hD0⟩ := hD0))
  k_steps
  rename LCg.Off3 _ _ _ _ => off9
  have hO1 := off3_all off9
  simp only [AllNe, and_true] at hO1
  obtain ⟨hI1, hC1, hD1⟩ := hO1
  (repeat (obtain ⟨_, hI1⟩ := hI1)); (repeat (obtain ⟨_, hC1⟩ := hC1)); (repeat (obtain ⟨_, hD1⟩ := hD1))
  k_steps
  all_goals refine' hret _ _ _ _ ?cF (news_sub ?cN ?cS) ?cK ⟨by rw [decide_eq_true kf], rfl⟩
  case cF => k_asm
  case cN => assumption
  case cS => ((try dsimp only [spL, List.cons_append, List.nil_append]); lcg_sub)
  case cK => exact KeepBut.fr kb' (by k_asm)
end

theorem fmod_nn (a : Int) {n : Int} (h : 0 < n) : 0 ≤ a.fmod n := by rw [Int.fmod_eq_emod_of_nonneg _ (by omega)]; exact Int.emod_nonneg _ (by omega)
theorem fmod_lt (a : Int) {n : Int} (h : 0 < n) : a.fmod n < n := by rw [Int.fmod_eq_emod_of_nonneg _ (by omega)]; exact Int.emod_lt_of_pos _ h
section
variable (w : World) (mean : ExcName → Option Value) (mg mb : Str → Option Value)
theorem drawn_c {bag ls : Addr} {spot : Int} {ts tb : Tok} {ub ul : Nat} {vs : List Value} {ns : List Int} {n : Int} (hi : IntsAre vs ns) (hz : ns.length ≤ 100) (h0 : 0 ≤ spot) (h1 : spot ≤ 1000) (hn : 0 < n) (hn2 : n ≤ 100) (hb : @Ne Nat bag ls) :
    Ctr w mean mg mb 3 139 [.ref bag, .int n tb] [(bag, W.listOf #[.ref ls, .int spot ts] ub), (ls, W.listOf vs.toArray ul)]
      (fun hp r led' => ∃ x t2 t3, r = .int x t3 ∧ 0 ≤ x ∧ x < n ∧ led' = [(bag, W.listOf #[.ref ls, .int (spot + 1) t2] ub), (ls, W.listOf vs.toArray ul)]) := by
  unfold Ctr
  k_fill
  intro dp un gd cn cs a' ccd cl outer A₀ base h₀ L m s Q E B F X N T hk hd' hu hret
  (refine wpAny_call ?_; k_dflt (refine' enter_def (binds := [(Str.ofString "bag", Value.ref bag), (Str.ofString "below", Value.int n tb)]) ?k1 ?k2 ?k3 ?k4 ?k5 ?kA ?kF ?kK ?k6 ?k7 ?k8 ?k9 ?kB ?_ ?c2 ?c3 ?c4 ?c5; (case kA => exact rfl); (case kF => exact rfl); (case kK => assumption); (case k1 => k_asm); (case k2 => k_asm); (case k3 => k_asm); (case k4 => k_asm); (case k5 => k_asm); (case k6 => k_is); (case k7 => k_is); (case k8 => ktr_room); (case k9 => exact BindsTo.of_eq rfl); (case c5 => decide); (case kB => exact locs rfl); (case c2 => exact rfl); (case c3 => exact rfl); (case c4 => exact rfl); k_whole; intro g' L' h' hL' kb' lt' F' N' B' X' T'; (try simp only [AllLt, and_true] at lt'); (try dsimp only); (try k_fold)))
  k_steps
  all_goals exact hret _ _ _ _ (by k_asm) (by k_asm) (KeepBut.fr kb' (by k_asm)) ⟨_, _, _, rfl, fmod_nn _ hn, fmod_lt _ hn, rfl⟩
end

/-- a contract under what stands outside the ledger, with no raise -/
abbrev CtrH (w : World) (mean : ExcName → Option Value) (mg mb : Str → Option Value) (d : Nat) (f : Addr) (vs : List Value) (G : Heap) (led : List (Addr × Obj)) (Post : Heap → Value → List (Addr × Obj) → Prop) : Prop :=
  ∀ (dp un : Nat) (gd : Option (List Code)) (cn : Str) (cs : Scope) (a : Addr) (ccd : Value) (cl : List (Str × Addr)) (outer : List Env) (A₀ : Around) (base h₀ : Heap) (L : Addr) (m : Str → Option Value) (s : Shared) (Q E : Value → Shared → Prop),
    Below A₀ base outer h₀ → Fr h₀ L s.heap m → (Mine.hd.heap_39 w.params).In h₀ → News h₀ L s.heap led → Top Mine.hd.view_39 (looseW Mine.hd.view_39 [Str.ofString "BasicError"]) mean mg mb h₀ → cs.kind = .function →
    dp + d < recursionLimit → un + 8 * d < cLine → (∀ b o, G.get? b = some o → s.heap.get? b = some o ∧ b ∉ led.map (·.1)) →
    (∀ r led' h' tk', Fr h₀ L h' m → News h₀ L h' led' → KeepBut (led.map (·.1)) s.heap h' → Post s.heap r led' → Q r { s with heap := h', toks := tk' }) →
    wpAny (model PySem.Challenge.rw_xm0013_01.row.prog w) (ktrTop dp un gd cn cs L a ccd cl outer) (call (.ref f) vs) Q E s
theorem useH {w : World} {mean : ExcName → Option Value} {mg mb : Str → Option Value} {d : Nat} {f : Addr} {vs : List Value} {G : Heap} {led : List (Addr × Obj)} {Post : Heap → Value → List (Addr × Obj) → Prop}
    {dp un : Nat} {gd : Option (List Code)} {cn : Str} {cs : Scope} {a : Addr} {ccd : Value} {cl : List (Str × Addr)} {outer : List Env} {A₀ : Around} {base h₀ : Heap} {L : Addr} {m : Str → Option Value} {s : Shared} {Q E : Value → Shared → Prop} {big rest : List (Addr × Obj)}
    (C : CtrH w mean mg mb d f vs G led Post) (B : Below A₀ base outer h₀) (F : Fr h₀ L s.heap m) (X : (Mine.hd.heap_39 w.params).In h₀) (N : News h₀ L s.heap big) (T : Top Mine.hd.view_39 (looseW Mine.hd.view_39 [Str.ofString "BasicError"]) mean mg mb h₀) (hk : cs.kind = .function)
    (hd : dp + d < recursionLimit) (hu : un + 8 * d < cLine) (hG : ∀ b o, G.get? b = some o → s.heap.get? b = some o ∧ b ∉ led.map (·.1)) (hs : ∀ p ∈ led, p ∈ big) (hr : Rest led big rest)
    (k : ∀ r led' h' tk', Fr h₀ L h' m → News h₀ L h' (led' ++ rest) → KeepBut (led.map (·.1)) s.heap h' → Post s.heap r led' → News h₀ L s.heap big → Q r { s with heap := h', toks := tk' }) :
    wpAny (model PySem.Challenge.rw_xm0013_01.row.prog w) (ktrTop dp un gd cn cs L a ccd cl outer) (call (.ref f) vs) Q E s :=
  C dp un gd cn cs a ccd cl outer A₀ base h₀ L m s Q E B F X (news_sub N hs) T hk hd hu hG fun r led' h' tk' F' N' kb P => k r led' h' tk' F' (news_on N kb N' (fun p hp => (hr.mem p hp).1) hr.off) kb P N
theorem ground_nil {G g h : Heap} {L : Addr} {m : Str → Option Value} (GG : ∀ b o, G.get? b = some o → g.get? b = some o) (F : Fr g L h m) : ∀ b o, G.get? b = some o → h.get? b = some o ∧ b ∉ ([] : List (Addr × Obj)).map (·.1) := fun b o e => ⟨F.keep _ _ (GG b o e), fun h => nomatch h⟩
abbrev tup2 (x y : Value) : Obj := { cls := .type "tuple", data := .seq #[x, y] }
def Way.sd : Way → Nat
  | .leaf _ => 3
  | .node x y => x.sd + y.sd + 3
section
variable (w : World) (mean : ExcName → Option Value) (mg mb : Str → Option Value)
open KStt
abbrev SPost (ts : List Str) (W : Way) (hp : Heap) (r : Value) (led' : List (Addr × Obj)) : Prop := ∃ D t1 t2, r = .ref D ∧ led' = [(D, tup2 (.int (W.len ts) t1) (.int (W.sgn ts) t2))] ∧ hp.get? D = none
theorem leaf_s {ts : List Str} (tk : TsOk ts) (h4 : ts.length ≤ 4) {i : Nat} (hi : i < ts.length) {G : Heap} {ta : Addr} {t : Tok} (hT : TextsAre G ta ts) :
    CtrH w mean mg mb 3 158 [.int i t, .ref ta] G [] (SPost ts (.leaf i)) := by
  unfold CtrH
  k_fill
  intro dp un gd cn cs a' ccd cl outer A₀ base h₀ L m s Q E B F X N T hk hd' hu hG hret
  obtain ⟨vs, hvs, hvl, hva⟩ := hT
  obtain ⟨tx, htx⟩ : ∃ tx, ts[i]? = some tx := ⟨_, List.getElem?_eq_getElem hi⟩
  obtain ⟨tt, htv⟩ := hva i tx htx
  have hm : tx ∈ ts := List.mem_of_getElem? htx
  have g2 := tk.le tx hm
  have hd : ts.getD i (Str.ofString "") = tx := by rw [List.getD_eq_getElem?_getD, htx]; rfl
  have hlen : (Way.leaf i).len ts = tx.length := by simp only [Way.len, Way.txt, hd, codes_length]
  have hsgn : (Way.leaf i).sgn ts = tx.length := hlen
  simp only [SPost, hlen, hsgn] at hret
  (refine wpAny_call ?_; k_dflt (refine' enter_def (binds := [(Str.ofString "way", Value.int i t), (Str.ofString "texts", Value.ref ta)]) ?k1 ?k2 ?k3 ?k4 ?k5 ?kA ?kF ?kK ?k6 ?k7 ?k8 ?k9 ?kB ?_ ?c2 ?c3 ?c4 ?c5; (case kA => exact rfl); (case kF => exact rfl); (case kK => assumption); (case k1 => k_asm); (case k2 => k_asm); (case k3 => k_asm); (case k4 => k_asm); (case k5 => k_asm); (case k6 => k_is); (case k7 => k_is); (case k8 => ktr_room); (case k9 => exact BindsTo.of_eq rfl); (case c5 => decide); (case kB => exact locs rfl); (case c2 => exact rfl); (case c3 => exact rfl); (case c4 => exact rfl); k_whole; intro g' L' h' hL' kb' lt' F' N' B' X' T'; (try simp only [AllLt, and_true] at lt'); (try dsimp only); (try k_fold)))
  have GG : ∀ b o, G.get? b = some o → g'.get? b = some o := fun b o e => kb' _ _ (hG b o e).1 (hG b o e).2
  k_steps
  refine item_listL (k := (i : Int)) (x := .str tx tt) (by exact IsList.up hvs fun b o e => (show Fr _ _ _ _ by assumption).keep _ _ (GG b o e)) (by omega) (by omega) htv ?_ (by with_unfolding_all rfl) (by intro _; with_unfolding_all rfl)
  k_steps
  refine item_listL (k := (i : Int)) (x := .str tx tt) (by exact IsList.up hvs fun b o e => (show Fr _ _ _ _ by assumption).keep _ _ (GG b o e)) (by omega) (by omega) htv ?_ (by with_unfolding_all rfl) (by intro _; with_unfolding_all rfl)
  k_steps
  exact hret _ _ _ _ (by k_asm) (by k_asm) (KeepBut.fr kb' (by k_asm)) ⟨_, _, _, rfl, rfl, fresh_of kb' (by assumption) (.head _) (fun h => nomatch h)⟩
theorem node_s {ts : List Str} {x y : Way} {G : Heap} {ta a : Addr} {v1 v2 : Value} (hv : IsTup G a #[v1, v2]) (hb : ∀ W : Way, W = x ∨ W = y → W.len ts ≤ 100 ∧ 0 ≤ W.len ts ∧ W.sgn ts ≤ 1000 ∧ 0 ≤ W.sgn ts)
    (Cx : CtrH w mean mg mb x.sd 158 [v1, .ref ta] G [] (SPost ts x)) (Cy : CtrH w mean mg mb y.sd 158 [v2, .ref ta] G [] (SPost ts y)) :
    CtrH w mean mg mb (x.sd + y.sd + 3) 158 [.ref a, .ref ta] G [] (SPost ts (.node x y)) := by
  unfold CtrH
  k_fill
  intro dp un gd cn cs a' ccd cl outer A₀ base h₀ L m s Q E B F X N T hk hd' hu hG hret
  have hlen : (Way.node x y).len ts = x.len ts + y.len ts := Way.len_node x y
  have hsgn : (Way.node x y).sgn ts = x.sgn ts + y.sgn ts + x.len ts + y.len ts := by simp only [Way.sgn, hlen]; omega
  simp only [SPost, hlen, hsgn] at hret
  obtain ⟨bx1, bx2, bx3, bx4⟩ := hb x (.inl rfl)
  obtain ⟨by1, by2, by3, by4⟩ := hb y (.inr rfl)
  (refine wpAny_call ?_; k_dflt (refine' enter_def (binds := [(Str.ofString "way", Value.ref a), (Str.ofString "texts", Value.ref ta)]) ?k1 ?k2 ?k3 ?k4 ?k5 ?kA ?kF ?kK ?k6 ?k7 ?k8 ?k9 ?kB ?_ ?c2 ?c3 ?c4 ?c5; (case kA => exact rfl); (case kF => exact rfl); (case kK => assumption); (case k1 => k_asm); (case k2 => k_asm); (case k3 => k_asm); (case k4 => k_asm); (case k5 => k_asm); (case k6 => k_is); (case k7 => k_is); (case k8 => ktr_room); (case k9 => exact BindsTo.of_eq rfl); (case c5 => decide); (case kB => exact locs rfl); (case c2 => exact rfl); (case c3 => exact rfl); (case c4 => exact rfl); k_whole; intro g' L' h' hL' kb' lt' F' N' B' X' T'; (try simp only [AllLt, and_true] at lt'); (try dsimp only); (try k_fold)))
  have GG : ∀ b o, G.get? b = some o → g'.get? b = some o := fun b o e => kb' _ _ (hG b o e).1 (hG b o e).2
  have hvg : IsTup g' a #[v1, v2] := IsTup.up hv GG
  k_steps
  refine call_isinstance_yes (Tx := "tuple") (T := "tuple") (let ⟨o, ho, hc, _⟩ := IsTup.up hvg F'.keep; ⟨o, ho, hc⟩) (by kernel_rfl) (by rw [isSubtype_type]; kernel_rfl) ?_
  k_steps
  refine' useH Cx ?B1 ?F1 ?X1 ?N1 ?T1 ?K1 ?d1 ?u1 (ground_nil GG ?F1) (fun _ h => nomatch h) (Rest.tail fun _ _ _ h => nomatch h) ?_; (case B1 => k_asm); (case F1 => k_asm); (case X1 => k_asm); (case N1 => k_asm); (case T1 => k_asm); (case K1 => first | exact rfl | assumption); (case d1 => ktr_room); (case u1 => ktr_units)
  intro r9 led1 h9 tk9 F9 N9 k9 P9 M9
  obtain ⟨D1, z1, y1, e9, f9, o1⟩ := P9
  subst e9; subst f9
  replace o1 := AllNe.of (off_fresh M9 o1); clear M9
  (try simp only [AllNe, and_true] at o1); (repeat (obtain ⟨_, o1⟩ := o1))
  (try dsimp only [List.cons_append, List.nil_append] at N9)
  k_steps
  refine' useH Cy ?B2 ?F2 ?X2 ?N2 ?T2 ?K2 ?d2 ?u2 (ground_nil GG ?F2) (fun _ h => nomatch h) (Rest.tail fun _ _ _ h => nomatch h) ?_; (case B2 => k_asm); (case F2 => k_asm); (case X2 => k_asm); (case N2 => k_asm); (case T2 => k_asm); (case K2 => first | exact rfl | assumption); (case d2 => ktr_room); (case u2 => ktr_units)
  intro r9 led2 h9 tk9 F9 N9 k9 P9 M9
  obtain ⟨D2, z2, y2, e9, f9, o2⟩ := P9
  subst e9; subst f9
  replace o2 := AllNe.of (off_fresh M9 o2); clear M9
  (try simp only [AllNe, and_true] at o2); (repeat (obtain ⟨_, o2⟩ := o2))
  (try dsimp only [List.cons_append, List.nil_append] at N9)
  k_steps
  exact hret _ _ _ _ (by k_asm) (news_sub (by assumption) (by lcg_sub)) (KeepBut.fr kb' (by k_asm)) ⟨_, _, _, rfl, rfl, fresh_of kb' (by assumption) (.head _) (fun h => nomatch h)⟩
theorem sgn_le {ts : List Str} (tk : TsOk ts) : ∀ W : Way, W.ok ts → W.lvs ≤ 4 → W.sgn ts ≤ 12 * (2 * (W.lvs : Int) - 1)
  | .leaf i, h, _ => by have := (Way.len_bounds tk (.leaf i) h).2; simp only [Way.sgn, Way.lvs] at this ⊢; omega
  | .node x y, h, hl => by
    have h3 := (Way.len_bounds tk (.node x y) h).2
    simp only [Way.lvs] at hl h3 ⊢
    have h1 := sgn_le tk x h.1 (by omega)
    have h2 := sgn_le tk y h.2 (by omega)
    simp only [Way.sgn]
    omega
theorem way_s {ts : List Str} (tk : TsOk ts) (h4 : ts.length ≤ 4) {G : Heap} {ta : Addr} (hT : TextsAre G ta ts) : ∀ (W : Way), W.ok ts → W.lvs ≤ 4 → ∀ {v : Value}, IsWay G W v → CtrH w mean mg mb W.sd 158 [v, .ref ta] G [] (SPost ts W)
  | .leaf i, hok, _, v, hw => by
    obtain ⟨t, rfl⟩ := hw
    exact leaf_s w mean mg mb tk h4 hok hT
  | .node x y, hok, hl, v, hw => by
    obtain ⟨a, v1, v2, rfl, hv, hx, hy⟩ := hw
    simp only [Way.lvs] at hl
    refine node_s w mean mg mb hv (fun W hW => ?_) (way_s tk h4 hT x hok.1 (by omega) hx) (way_s tk h4 hT y hok.2 (by omega) hy)
    have h0 : W.ok ts ∧ W.lvs ≤ 4 := by rcases hW with rfl | rfl; exact ⟨hok.1, by omega⟩; exact ⟨hok.2, by omega⟩
    have h1 := Way.len_bounds tk W h0.1
    have h2 := sgn_le tk W h0.1 h0.2
    have h3 := Way.sgn_nn (ts := ts) W
    omega
end

def least2 (a b : Int) : Int := 2 * (a + b)
def least3 (a b c : Int) : Int := a + b + c + min (a + least2 b c) (least2 a b + c)
def least4 (a b c d : Int) : Int := a + b + c + d + min (min (a + least3 b c d) (least2 a b + least2 c d)) (least3 a b c + d)
theorem least_nn (a b c d : Int) (h1 : 0 ≤ a) (h2 : 0 ≤ b) (h3 : 0 ≤ c) (h4 : 0 ≤ d) : 0 ≤ least2 a b ∧ 0 ≤ least3 a b c ∧ 0 ≤ least4 a b c d := by unfold least4 least3 least2; omega
section
variable (w : World) (mean : ExcName → Option Value) (mg mb : Str → Option Value)
open KStt LCg
local macro_rules | `(tactic| walk_at "CompSrc") => `(tactic| (k_here; k_dflt (refine LCg.CompSrc.range (by rfl) (by k_asm) (by k_asm) (by assumption) (by decide) (by exact rangeSize_nat _ _) (by exact Nat.le_of_ble_eq_true rfl) ?_; intro g')))
theorem least1_c {ls : Addr} {u : Nat} {a : Int} {ta : Tok} (ia : 0 ≤ a) (ja : a ≤ 100) :
    Ctr w mean mg mb 2 163 [.ref ls] [(ls, W.listOf #[.int a ta] u)] (fun _ r led' => (∃ t, r = .int a t) ∧ led' = [(ls, W.listOf #[.int a ta] u)]) := by
  unfold Ctr
  k_fill
  intro dp un gd cn cs a' ccd cl outer A₀ base h₀ L m s Q E B F X N T hk hd' hu hret
  (refine wpAny_call ?_; k_dflt (refine' enter_defC (binds := [(Str.ofString "sizes", Value.ref ls)]) ?k1 ?k2 ?k3 ?k4 ?k5 ?kA ?kF ?kK ?k6 ?k7 ?k8 ?k9 ?kB ?kD ?_ ?c2 ?c3 ?c4; (case kA => exact rfl); (case kF => exact rfl); (case kK => assumption); (case k1 => k_asm); (case k2 => k_asm); (case k3 => k_asm); (case k4 => k_asm); (case k5 => k_asm); (case k6 => k_is); (case k7 => k_is); (case k8 => ktr_room); (case k9 => exact BindsTo.of_eq rfl); (case kB => exact rfl); (case kD => decide +kernel); (case c2 => exact rfl); (case c3 => exact rfl); (case c4 => exact rfl); k_whole; intro g' L' h' tk' cells' hL' kb' lt' F' N' Y' B' X' T'; (replace F' : Fr g' L' h' (fun _ => none) := F'); (try simp only [AllLt, and_true] at lt'); k_cells Y'; (try simp only [List.cons_append, List.nil_append] at N'); (try dsimp only); (try k_fold)))
  k_steps
  all_goals (refine' hret _ _ _ _ ?cF (news_sub ?cN ?cS) ?cK ⟨⟨_, ?e⟩, rfl⟩; (case cF => k_asm); (case cN => assumption); (case cS => lcg_sub); (case cK => exact KeepBut.fr kb' (by k_asm)); (case e => first | rfl | (refine congrArg (fun z => Value.int z _) ?_; (try simp only [least4, least3, least2] at *); omega)))
theorem least2_c {ls : Addr} {u : Nat} {a b : Int} {ta tb : Tok} (ia : 0 ≤ a) (ja : a ≤ 100) (ib : 0 ≤ b) (jb : b ≤ 100) :
    Ctr w mean mg mb 4 163 [.ref ls] [(ls, W.listOf #[.int a ta, .int b tb] u)] (fun _ r led' => (∃ t, r = .int (least2 a b) t) ∧ led' = [(ls, W.listOf #[.int a ta, .int b tb] u)]) := by
  unfold Ctr
  k_fill
  intro dp un gd cn cs a' ccd cl outer A₀ base h₀ L m s Q E B F X N T hk hd' hu hret
  (refine wpAny_call ?_; k_dflt (refine' enter_defC (binds := [(Str.ofString "sizes", Value.ref ls)]) ?k1 ?k2 ?k3 ?k4 ?k5 ?kA ?kF ?kK ?k6 ?k7 ?k8 ?k9 ?kB ?kD ?_ ?c2 ?c3 ?c4; (case kA => exact rfl); (case kF => exact rfl); (case kK => assumption); (case k1 => k_asm); (case k2 => k_asm); (case k3 => k_asm); (case k4 => k_asm); (case k5 => k_asm); (case k6 => k_is); (case k7 => k_is); (case k8 => ktr_room); (case k9 => exact BindsTo.of_eq rfl); (case kB => exact rfl); (case kD => decide +kernel); (case c2 => exact rfl); (case c3 => exact rfl); (case c4 => exact rfl); k_whole; intro g' L' h' tk' cells' hL' kb' lt' F' N' Y' B' X' T'; (replace F' : Fr g' L' h' (fun _ => none) := F'); (try simp only [AllLt, and_true] at lt'); k_cells Y'; (try simp only [List.cons_append, List.nil_append] at N'); (try dsimp only); (try k_fold)))
  k_steps
  rename LCg.Off3 _ _ _ _ => off9
  have hO1 := off3_all off9
  simp only [AllNe, and_true] at hO1
  obtain ⟨hI1, hC1, hD1⟩ := hO1
  (repeat (obtain ⟨_, hI1⟩ := hI1)); (repeat (obtain ⟨_, hC1⟩ := hC1)); (repeat (obtain ⟨_, hD1⟩ := hD1))
  k_steps
  refine' use (least1_c _ _ _ _ ia ja) ?B1 ?F1 ?X1 ?N1 ?T1 ?K1 ?d1 ?u1 ?s1 ?r1 ?_; (case B1 => k_asm); (case F1 => k_asm); (case X1 => k_asm); (case N1 => k_asm); (case T1 => k_asm); (case K1 => first | exact rfl | assumption); (case s1 => lcg_sub); (case r1 => walk_at "REST"); (case d1 => ktr_room); (case u1 => ktr_units)
  intro r9 led9 h9 tk9 F9 N9 P9 M9
  obtain ⟨⟨y1, e9⟩, f9⟩ := P9
  subst e9; subst f9; clear M9
  (try dsimp only [List.cons_append, List.nil_append] at N9)
  k_steps
  refine' use (least1_c _ _ _ _ ib jb) ?B2 ?F2 ?X2 ?N2 ?T2 ?K2 ?d2 ?u2 ?s2 ?r2 ?_; (case B2 => k_asm); (case F2 => k_asm); (case X2 => k_asm); (case N2 => k_asm); (case T2 => k_asm); (case K2 => first | exact rfl | assumption); (case s2 => lcg_sub); (case r2 => walk_at "REST"); (case d2 => ktr_room); (case u2 => ktr_units)
  intro r9 led9 h9 tk9 F9 N9 P9 M9
  obtain ⟨⟨y2, e9⟩, f9⟩ := P9
  subst e9; subst f9; clear M9
  (try dsimp only [List.cons_append, List.nil_append] at N9)
  k_steps
  all_goals (refine' hret _ _ _ _ ?cF (news_sub ?cN ?cS) ?cK ⟨⟨_, ?e⟩, rfl⟩; (case cF => k_asm); (case cN => assumption); (case cS => lcg_sub); (case cK => exact KeepBut.fr kb' (by k_asm)); (case e => first | rfl | (refine congrArg (fun z => Value.int z _) ?_; (try simp only [least4, least3, least2] at *); omega)))
theorem least3_c {ls : Addr} {u : Nat} {a b c : Int} {ta tb tc : Tok} (ia : 0 ≤ a) (ja : a ≤ 100) (ib : 0 ≤ b) (jb : b ≤ 100) (ic : 0 ≤ c) (jc : c ≤ 100) :
    Ctr w mean mg mb 6 163 [.ref ls] [(ls, W.listOf #[.int a ta, .int b tb, .int c tc] u)] (fun _ r led' => (∃ t, r = .int (least3 a b c) t) ∧ led' = [(ls, W.listOf #[.int a ta, .int b tb, .int c tc] u)]) := by
  unfold Ctr
  k_fill
  intro dp un gd cn cs a' ccd cl outer A₀ base h₀ L m s Q E B F X N T hk hd' hu hret
  (refine wpAny_call ?_; k_dflt (refine' enter_defC (binds := [(Str.ofString "sizes", Value.ref ls)]) ?k1 ?k2 ?k3 ?k4 ?k5 ?kA ?kF ?kK ?k6 ?k7 ?k8 ?k9 ?kB ?kD ?_ ?c2 ?c3 ?c4; (case kA => exact rfl); (case kF => exact rfl); (case kK => assumption); (case k1 => k_asm); (case k2 => k_asm); (case k3 => k_asm); (case k4 => k_asm); (case k5 => k_asm); (case k6 => k_is); (case k7 => k_is); (case k8 => ktr_room); (case k9 => exact BindsTo.of_eq rfl); (case kB => exact rfl); (case kD => decide +kernel); (case c2 => exact rfl); (case c3 => exact rfl); (case c4 => exact rfl); k_whole; intro g' L' h' tk' cells' hL' kb' lt' F' N' Y' B' X' T'; (replace F' : Fr g' L' h' (fun _ => none) := F'); (try simp only [AllLt, and_true] at lt'); k_cells Y'; (try simp only [List.cons_append, List.nil_append] at N'); (try dsimp only); (try k_fold)))
  k_steps
  rename LCg.Off3 _ _ _ _ => off9
  have hO1 := off3_all off9
  simp only [AllNe, and_true] at hO1
  obtain ⟨hI1, hC1, hD1⟩ := hO1
  (repeat (obtain ⟨_, hI1⟩ := hI1)); (repeat (obtain ⟨_, hC1⟩ := hC1)); (repeat (obtain ⟨_, hD1⟩ := hD1))
  k_steps
  refine' use (least1_c _ _ _ _ ia ja) ?B1 ?F1 ?X1 ?N1 ?T1 ?K1 ?d1 ?u1 ?s1 ?r1 ?_; (case B1 => k_asm); (case F1 => k_asm); (case X1 => k_asm); (case N1 => k_asm); (case T1 => k_asm); (case K1 => first | exact rfl | assumption); (case s1 => lcg_sub); (case r1 => walk_at "REST"); (case d1 => ktr_room); (case u1 => ktr_units)
  intro r9 led9 h9 tk9 F9 N9 P9 M9
  obtain ⟨⟨y1, e9⟩, f9⟩ := P9
  subst e9; subst f9; clear M9
  (try dsimp only [List.cons_append, List.nil_append] at N9)
  k_steps
  refine' use (least2_c _ _ _ _ ib jb ic jc) ?B2 ?F2 ?X2 ?N2 ?T2 ?K2 ?d2 ?u2 ?s2 ?r2 ?_; (case B2 => k_asm); (case F2 => k_asm); (case X2 => k_asm); (case N2 => k_asm); (case T2 => k_asm); (case K2 => first | exact rfl | assumption); (case s2 => lcg_sub); (case r2 => walk_at "REST"); (case d2 => ktr_room); (case u2 => ktr_units)
  intro r9 led9 h9 tk9 F9 N9 P9 M9
  obtain ⟨⟨y2, e9⟩, f9⟩ := P9
  subst e9; subst f9; clear M9
  (try dsimp only [List.cons_append, List.nil_append] at N9)
  k_steps
  rename LCg.Off3 _ _ _ _ => off9
  have hO2 := off3_all off9
  simp only [AllNe, and_true] at hO2
  obtain ⟨hI2, hC2, hD2⟩ := hO2
  (repeat (obtain ⟨_, hI2⟩ := hI2)); (repeat (obtain ⟨_, hC2⟩ := hC2)); (repeat (obtain ⟨_, hD2⟩ := hD2))
  k_steps
  refine' use (least2_c _ _ _ _ ia ja ib jb) ?B3 ?F3 ?X3 ?N3 ?T3 ?K3 ?d3 ?u3 ?s3 ?r3 ?_; (case B3 => k_asm); (case F3 => k_asm); (case X3 => k_asm); (case N3 => k_asm); (case T3 => k_asm); (case K3 => first | exact rfl | assumption); (case s3 => lcg_sub); (case r3 => walk_at "REST"); (case d3 => ktr_room); (case u3 => ktr_units)
  intro r9 led9 h9 tk9 F9 N9 P9 M9
  obtain ⟨⟨y3, e9⟩, f9⟩ := P9
  subst e9; subst f9; clear M9
  (try dsimp only [List.cons_append, List.nil_append] at N9)
  k_steps
  refine' use (least1_c _ _ _ _ ic jc) ?B4 ?F4 ?X4 ?N4 ?T4 ?K4 ?d4 ?u4 ?s4 ?r4 ?_; (case B4 => k_asm); (case F4 => k_asm); (case X4 => k_asm); (case N4 => k_asm); (case T4 => k_asm); (case K4 => first | exact rfl | assumption); (case s4 => lcg_sub); (case r4 => walk_at "REST"); (case d4 => ktr_room); (case u4 => ktr_units)
  intro r9 led9 h9 tk9 F9 N9 P9 M9
  obtain ⟨⟨y4, e9⟩, f9⟩ := P9
  subst e9; subst f9; clear M9
  (try dsimp only [List.cons_append, List.nil_append] at N9)
  k_steps
  all_goals (refine' hret _ _ _ _ ?cF (news_sub ?cN ?cS) ?cK ⟨⟨_, ?e⟩, rfl⟩; (case cF => k_asm); (case cN => assumption); (case cS => lcg_sub); (case cK => exact KeepBut.fr kb' (by k_asm)); (case e => first | rfl | (refine congrArg (fun z => Value.int z _) ?_; (try simp only [least4, least3, least2] at *); omega)))
theorem least4_c {ls : Addr} {u : Nat} {a b c d : Int} {ta tb tc td : Tok} (ia : 0 ≤ a) (ja : a ≤ 100) (ib : 0 ≤ b) (jb : b ≤ 100) (ic : 0 ≤ c) (jc : c ≤ 100) (id : 0 ≤ d) (jd : d ≤ 100) :
    Ctr w mean mg mb 8 163 [.ref ls] [(ls, W.listOf #[.int a ta, .int b tb, .int c tc, .int d td] u)] (fun _ r led' => (∃ t, r = .int (least4 a b c d) t) ∧ led' = [(ls, W.listOf #[.int a ta, .int b tb, .int c tc, .int d td] u)]) := by
  unfold Ctr
  k_fill
  intro dp un gd cn cs a' ccd cl outer A₀ base h₀ L m s Q E B F X N T hk hd' hu hret
  (refine wpAny_call ?_; k_dflt (refine' enter_defC (binds := [(Str.ofString "sizes", Value.ref ls)]) ?k1 ?k2 ?k3 ?k4 ?k5 ?kA ?kF ?kK ?k6 ?k7 ?k8 ?k9 ?kB ?kD ?_ ?c2 ?c3 ?c4; (case kA => exact rfl); (case kF => exact rfl); (case kK => assumption); (case k1 => k_asm); (case k2 => k_asm); (case k3 => k_asm); (case k4 => k_asm); (case k5 => k_asm); (case k6 => k_is); (case k7 => k_is); (case k8 => ktr_room); (case k9 => exact BindsTo.of_eq rfl); (case kB => exact rfl); (case kD => decide +kernel); (case c2 => exact rfl); (case c3 => exact rfl); (case c4 => exact rfl); k_whole; intro g' L' h' tk' cells' hL' kb' lt' F' N' Y' B' X' T'; (replace F' : Fr g' L' h' (fun _ => none) := F'); (try simp only [AllLt, and_true] at lt'); k_cells Y'; (try simp only [List.cons_append, List.nil_append] at N'); (try dsimp only); (try k_fold)))
  k_steps
  rename LCg.Off3 _ _ _ _ => off9
  have hO1 := off3_all off9
  simp only [AllNe, and_true] at hO1
  obtain ⟨hI1, hC1, hD1⟩ := hO1
  (repeat (obtain ⟨_, hI1⟩ := hI1)); (repeat (obtain ⟨_, hC1⟩ := hC1)); (repeat (obtain ⟨_, hD1⟩ := hD1))
  k_steps
  refine' use (least1_c _ _ _ _ ia ja) ?B1 ?F1 ?X1 ?N1 ?T1 ?K1 ?d1 ?u1 ?s1 ?r1 ?_; (case B1 => k_asm); (case F1 => k_asm); (case X1 => k_asm); (case N1 => k_asm); (case T1 => k_asm); (case K1 => first | exact rfl | assumption); (case s1 => lcg_sub); (case r1 => walk_at "REST"); (case d1 => ktr_room); (case u1 => ktr_units)
  intro r9 led9 h9 tk9 F9 N9 P9 M9
  obtain ⟨⟨y1, e9⟩, f9⟩ := P9
  subst e9; subst f9; clear M9
  (try dsimp only [List.cons_append, List.nil_append] at N9)
  k_steps
  refine' use (least3_c _ _ _ _ ib jb ic jc id jd) ?B2 ?F2 ?X2 ?N2 ?T2 ?K2 ?d2 ?u2 ?s2 ?r2 ?_; (case B2 => k_asm); (case F2 => k_asm); (case X2 => k_asm); (case N2 => k_asm); (case T2 => k_asm); (case K2 => first | exact rfl | assumption); (case s2 => lcg_sub); (case r2 => walk_at "REST"); (case d2 => ktr_room); (case u2 => ktr_units)
  intro r9 led9 h9 tk9 F9 N9 P9 M9
  obtain ⟨⟨y2, e9⟩, f9⟩ := P9
  subst e9; subst f9; clear M9
  (try dsimp only [List.cons_append, List.nil_append] at N9)
  k_steps
  rename LCg.Off3 _ _ _ _ => off9
  have hO2 := off3_all off9
  simp only [AllNe, and_true] at hO2
  obtain ⟨hI2, hC2, hD2⟩ := hO2
  (repeat (obtain ⟨_, hI2⟩ := hI2)); (repeat (obtain ⟨_, hC2⟩ := hC2)); (repeat (obtain ⟨_, hD2⟩ := hD2))
  k_steps
  refine' use (least2_c _ _ _ _ ia ja ib jb) ?B3 ?F3 ?X3 ?N3 ?T3 ?K3 ?d3 ?u3 ?s3 ?r3 ?_; (case B3 => k_asm); (case F3 => k_asm); (case X3 => k_asm); (case N3 => k_asm); (case T3 => k_asm); (case K3 => first | exact rfl | assumption); (case s3 => lcg_sub); (case r3 => walk_at "REST"); (case d3 => ktr_room); (case u3 => ktr_units)
  intro r9 led9 h9 tk9 F9 N9 P9 M9
  obtain ⟨⟨y3, e9⟩, f9⟩ := P9
  subst e9; subst f9; clear M9
  (try dsimp only [List.cons_append, List.nil_append] at N9)
  k_steps
  refine' use (least2_c _ _ _ _ ic jc id jd) ?B4 ?F4 ?X4 ?N4 ?T4 ?K4 ?d4 ?u4 ?s4 ?r4 ?_; (case B4 => k_asm); (case F4 => k_asm); (case X4 => k_asm); (case N4 => k_asm); (case T4 => k_asm); (case K4 => first | exact rfl | assumption); (case s4 => lcg_sub); (case r4 => walk_at "REST"); (case d4 => ktr_room); (case u4 => ktr_units)
  intro r9 led9 h9 tk9 F9 N9 P9 M9
  obtain ⟨⟨y4, e9⟩, f9⟩ := P9
  subst e9; subst f9; clear M9
  (try dsimp only [List.cons_append, List.nil_append] at N9)
  k_steps
  rename LCg.Off3 _ _ _ _ => off9
  have hO3 := off3_all off9
  simp only [AllNe, and_true] at hO3
  obtain ⟨hI3, hC3, hD3⟩ := hO3
  (repeat (obtain ⟨_, hI3⟩ := hI3)); (repeat (obtain ⟨_, hC3⟩ := hC3)); (repeat (obtain ⟨_, hD3⟩ := hD3))
  k_steps
  refine' use (least3_c _ _ _ _ ia ja ib jb ic jc) ?B5 ?F5 ?X5 ?N5 ?T5 ?K5 ?d5 ?u5 ?s5 ?r5 ?_; (case B5 => k_asm); (case F5 => k_asm); (case X5 => k_asm); (case N5 => k_asm); (case T5 => k_asm); (case K5 => first | exact rfl | assumption); (case s5 => lcg_sub); (case r5 => walk_at "REST"); (case d5 => ktr_room); (case u5 => ktr_units)
  intro r9 led9 h9 tk9 F9 N9 P9 M9
  obtain ⟨⟨y5, e9⟩, f9⟩ := P9
  subst e9; subst f9; clear M9
  (try dsimp only [List.cons_append, List.nil_append] at N9)
  k_steps
  refine' use (least1_c _ _ _ _ id jd) ?B6 ?F6 ?X6 ?N6 ?T6 ?K6 ?d6 ?u6 ?s6 ?r6 ?_; (case B6 => k_asm); (case F6 => k_asm); (case X6 => k_asm); (case N6 => k_asm); (case T6 => k_asm); (case K6 => first | exact rfl | assumption); (case s6 => lcg_sub); (case r6 => walk_at "REST"); (case d6 => ktr_room); (case u6 => ktr_units)
  intro r9 led9 h9 tk9 F9 N9 P9 M9
  obtain ⟨⟨y6, e9⟩, f9⟩ := P9
  subst e9; subst f9; clear M9
  (try dsimp only [List.cons_append, List.nil_append] at N9)
  k_steps
  all_goals (refine' hret _ _ _ _ ?cF (news_sub ?cN ?cS) ?cK ⟨⟨_, ?e⟩, rfl⟩; (case cF => k_asm); (case cN => assumption); (case cS => lcg_sub); (case cK => exact KeepBut.fr kb' (by k_asm)); (case e => first | rfl | (refine congrArg (fun z => Value.int z _) ?_; (try simp only [least4, least3, least2] at *); omega)))
end

section
variable {prog : Program} {w : World} {A : Around} {E : Value → Shared → Prop} {h : Heap} {g : Array GenState} {d : Drawn} {t : Nat} {os : OsState}
  {nm q : Str} {C N : Addr} {bs : List Value} {hdct : Bool} {sn : List Str} {sub : List Value} {ab : Bool} {col : Option Bool} {dd : Option Addr} {k0 k1 k2 k3 k5 : Option Value} {newId : String} {mN : Str → Option Value}
theorem x_ga : typeLookup (.type "Exception") "__getattribute__" = pure (some (.builtin "BaseException.__getattribute__")) := by rw [typeLookup_type, builtinLookup_eq_fast]; kernel_rfl
theorem x_hook : typeLookup (.type "Exception") "__getattr__" = pure none := by rw [typeLookup_type, builtinLookup_eq_fast]; kernel_rfl
theorem x_code : typeLookup (.type "Exception") (Str.ofString "code") = pure none := by rw [typeLookup_type, builtinLookup_eq_fast]; kernel_rfl
theorem x_mro : mroOf (.type "Exception") = pure [.type "Exception", .type "BaseException", .type "object"] := by kernel_rfl
theorem x_check {M : Model} {e : Addr} {o : Obj} {nameV : Value} {Q : Unit → Shared → Prop} (hC : h.get? C = some (excClassObj nm q C N bs [.type "Exception", .type "BaseException", .type "object"] true sn sub ab col dd k0 k1 k2 k3 k5 newId))
    (hx : h.get? e = some o) (hc : o.cls = .ref C) (hq : Q () ⟨h, g, d, t, os⟩) : wpAny M A (checkBuiltinCall "BaseException.__getattribute__" ⟨[.ref e, nameV], []⟩) Q E ⟨h, g, d, t, os⟩ := by
  have hk : builtinKind "BaseException.__getattribute__" = some .slot := by decide +kernel
  have hsplit : splitId "BaseException.__getattribute__" = some ("BaseException", "__getattribute__") := by decide +kernel
  have hcB : (Value.ref C :: [.type "Exception", .type "BaseException", .type "object"]).contains (.type "BaseException") = true := by rw [List.contains_cons, show ([.type "Exception", .type "BaseException", .type "object"] : List Value).contains (.type "BaseException") = true from by decide +kernel, Bool.or_true]
  have ha := F.args_bexc_ga (.ref e) nameV
  simp only [checkBuiltinCall, hk, hsplit]
  refine wpAny_bind ?_
  unfold isInstance
  repeat (first | (with_reducible refine wpAny_loadPart_at hx ?_; rw [hc]) | (with_reducible refine wpAny_isSubtype_exc hC ?_; rw [hcB]) | wp_step)
  exact hq
theorem code_get {e dx : Addr} {vs : Array Value} {sl : Array (Option Value)} {h1 h2 : Int} {kc kt tc : Tok} {x : Str} {l : Value} {expr : Bool} {Q : Value → Shared → Prop}
    (hC : h.get? C = some (excClassObj nm q C N bs [.type "Exception", .type "BaseException", .type "object"] true sn sub ab col dd k0 k1 k2 k3 k5 newId)) (hN : h.Ns N mN) (n1 : mN "__getattribute__" = none) (n2 : mN "__getattr__" = none) (n3 : mN (Str.ofString "code") = none)
    (hx : h.get? e = some ⟨.ref C, some dx, .fields vs, sl⟩) (hd : h.get? dx = some (excD h1 h2 kc kt (.str x tc) l)) (hq : Q (.str x tc) ⟨h, g, d, t + 1, os⟩) :
    wpAny (model prog w) A (getAttr (.ref e) (Str.ofString "code") expr) Q E ⟨h, g, d, t, os⟩ := by
  have s1 : Slot "Exception" "__getattribute__" "BaseException.__getattribute__" := .of (owner := "BaseException") (n := "__getattribute__") x_ga (by decide +kernel) (by decide +kernel) (by decide +kernel)
    (by first | exact .inl (by decide +kernel) | exact .inr (by decide +kernel)) (by rw [isSubtype_type]; kernel_rfl)
  have f3 := s1.bind (.ref e)
  have hx0 : (expr && onTheHeap (Value.builtin "BaseException.__getattribute__")) = false := by cases expr <;> rfl
  have hx2 : (Value.builtin "BaseException.__getattribute__" == Value.builtin "object.__getattribute__") = false := by decide +kernel
  have hx1 : (onTheHeap (Value.ref C) && Value.builtin "BaseException.__getattribute__" == Value.builtin "object.__getattribute__") = false := by rw [hx2]; rfl
  unfold getAttr
  repeat (any_goals (first | assumption | (with_reducible refine wpAny_loadPart_at hx ?_) | (with_reducible refine wpAny_typeLookup_exc hC hN x_mro x_ga ?_; rw [n1]) | (with_reducible refine wpAny_typeLookup_exc hC hN x_mro x_hook ?_; rw [n2]) | wp_step))
  refine codeAny_call_builtin s1.plain F.entry_bexc_ga (x_check hC hx rfl ?_)
  show wpAny _ _ (Builtin.«object.__getattribute__» ⟨[.ref e, .str (Str.ofString "code") t], []⟩) _ _ _
  unfold Builtin.«object.__getattribute__»
  repeat (any_goals (first | assumption | (with_reducible refine wpAny_loadPart_at hx ?_) | (with_reducible refine wpAny_loadPart_at hd ?_) | (with_reducible refine wpAny_typeLookup_exc hC hN x_mro x_code ?_; rw [n3]) | wp_step))
end

section
variable (w : World) (mean : ExcName → Option Value) (mg mb : Str → Option Value)
open KStt LCg
theorem ways1_c {lo hg : Int} {ta tb : Tok} (h0 : 0 ≤ lo) (h1 : lo ≤ 10) (hh : hg = lo + 1) :
    Ctr w mean mg mb 3 144 [.int lo ta, .int hg tb] [] (fun hp r led' => ∃ D u, r = .ref D ∧ hp.get? D = none ∧ led' = [(D, W.listOf #[.int lo ta] u)]) := by
  unfold Ctr
  k_fill
  intro dp un gd cn cs a' ccd cl outer A₀ base h₀ L m s Q E B F X N T hk hd' hu hret
  (refine wpAny_call ?_; k_dflt (refine' enter_defC (binds := [(Str.ofString "low", Value.int lo ta), (Str.ofString "high", Value.int hg tb)]) ?k1 ?k2 ?k3 ?k4 ?k5 ?kA ?kF ?kK ?k6 ?k7 ?k8 ?k9 ?kB ?kD ?_ ?c2 ?c3 ?c4; (case kA => exact rfl); (case kF => exact rfl); (case kK => assumption); (case k1 => k_asm); (case k2 => k_asm); (case k3 => k_asm); (case k4 => k_asm); (case k5 => k_asm); (case k6 => k_is); (case k7 => k_is); (case k8 => ktr_room); (case k9 => exact BindsTo.of_eq rfl); (case kB => exact rfl); (case kD => decide +kernel); (case c2 => exact rfl); (case c3 => exact rfl); (case c4 => exact rfl); k_whole; intro g' L' h' tk' cells' hL' kb' lt' F' N' Y' B' X' T'; (replace F' : Fr g' L' h' (fun y => if y = Str.ofString "high" then some (.int hg tb) else if y = Str.ofString "low" then some (.int lo ta) else none) := F'); (try simp only [AllLt, and_true] at lt'); k_cells Y'; (try simp only [List.cons_append, List.nil_append] at N'); (try dsimp only); (try k_fold)))
  k_steps
  all_goals first
    | (exfalso; omega)
    | exact hret _ _ _ _ (by k_asm) (news_sub (by assumption) (by lcg_sub)) (KeepBut.fr kb' (by k_asm)) ⟨_, _, rfl, fresh_of kb' (by assumption) (.head _) (fun h => nomatch h), rfl⟩
local macro_rules | `(tactic| walk_at "exec For Name Call cons nil") => `(tactic| (k_here; (with_reducible show wpAny _ _ (exec (Stmt.For (Expr.Name (Str.ofString "one") _) _ _ _ _) _) _ _ _); (rename Fr _ _ _ _ => lF'); (with_unfolding_all refine' For_turns lF' ?_)))
local macro_rules | `(tactic| walk_at "call ref") => `(tactic| (k_here; (with_reducible show wpAny _ _ (call (Value.ref 144) _) _ _ _); k_dflt (refine' use (ways1_c _ _ _ _ ?w0 ?w1 ?w2) ?B ?F ?X ?N ?T ?K ?d ?u ?s ?r ?_; (case B => k_asm); (case F => k_asm); (case X => k_asm); (case N => k_asm); (case T => k_asm); (case K => first | exact rfl | assumption); (case s => lcg_sub); (case r => walk_at "REST"); (case d => ktr_room); (case u => ktr_units); (case w0 => omega); (case w1 => omega); (case w2 => omega)); (intro r9 led9 h9 tk9 F9 N9 P9 M9; obtain ⟨D9, u9, e9, o9, f9⟩ := P9; subst e9; subst f9; replace o9 := AllNe.of (off_fresh M9 o9); clear M9; (try simp only [AllNe, and_true] at o9); (repeat (obtain ⟨_, o9⟩ := o9)); (try dsimp only [List.cons_append, List.nil_append] at N9); (try k_sweep); (try dsimp only))))
local macro_rules | `(tactic| walk_at "CompSrc") => `(tactic| (k_here; k_dflt (refine LCg.CompSrc.ledger (by rfl) (by k_asm) (by k_asm) (by k_mem) (by first | size_fits | exact Nat.le_of_ble_eq_true rfl) ?_; intro g')))
local macro_rules | `(tactic| walk_at "CompEnd") => `(tactic| (k_here; (rename LCg.Off3 _ _ _ _ => off9); (have hO := off3_all off9); clear off9; (simp only [AllNe, and_true] at hO); (obtain ⟨hI9, hC9, hD9⟩ := hO); (repeat (obtain ⟨_, hI9⟩ := hI9)); (repeat (obtain ⟨_, hC9⟩ := hC9)); (repeat (obtain ⟨_, hD9⟩ := hD9)); k_dflt (refine' compEnd_rest ?F ?N ?a ?b ?c ?r ?S ?_; (case F => k_asm); (case N => k_asm); (case a => k_mem); (case b => k_mem); (case c => k_mem); (case r => walk_at "REST"); (case S => lcg_src))))
theorem ways02_c {ta tb : Tok} :
    Ctr w mean mg mb 5 144 [.int 0 ta, .int 2 tb] [] (fun hp r led' => ∃ D u T1 z1 z2, r = .ref D ∧ led' = [(D, W.listOf #[.ref T1] u), (T1, tup2 (.int 0 z1) (.int 1 z2))] ∧ hp.get? D = none ∧ hp.get? T1 = none) := by
  unfold Ctr
  k_fill
  intro dp un gd cn cs a' ccd cl outer A₀ base h₀ L m s Q E B F X N T hk hd' hu hret
  (refine wpAny_call ?_; k_dflt (refine' enter_defC (binds := [(Str.ofString "low", Value.int 0 ta), (Str.ofString "high", Value.int 2 tb)]) ?k1 ?k2 ?k3 ?k4 ?k5 ?kA ?kF ?kK ?k6 ?k7 ?k8 ?k9 ?kB ?kD ?_ ?c2 ?c3 ?c4; (case kA => exact rfl); (case kF => exact rfl); (case kK => assumption); (case k1 => k_asm); (case k2 => k_asm); (case k3 => k_asm); (case k4 => k_asm); (case k5 => k_asm); (case k6 => k_is); (case k7 => k_is); (case k8 => ktr_room); (case k9 => exact BindsTo.of_eq rfl); (case kB => exact rfl); (case kD => decide +kernel); (case c2 => exact rfl); (case c3 => exact rfl); (case c4 => exact rfl); k_whole; intro g' L' h' tk' cells' hL' kb' lt' F' N' Y' B' X' T'; (replace F' : Fr g' L' h' (fun y => if y = Str.ofString "high" then some (.int 2 tb) else if y = Str.ofString "low" then some (.int 0 ta) else none) := F'); (try simp only [AllLt, and_true] at lt'); k_cells Y'; (try simp only [List.cons_append, List.nil_append] at N'); (try dsimp only); (try k_fold)))
  k_steps
  refine' hret _ _ _ _ ?cF (news_sub ?cN ?cS) ?cK ⟨_, _, _, _, _, rfl, rfl, ?cD, ?cT1⟩
  case cF => k_asm
  case cN => assumption
  case cS => lcg_sub
  case cK => exact KeepBut.fr kb' (by k_asm)
  case cD => exact fresh_of kb' (by assumption) (by k_mem) (fun h => nomatch h)
  case cT1 => exact fresh_of kb' (by assumption) (by k_mem) (fun h => nomatch h)
local macro_rules | `(tactic| walk_at "call ref") => `(tactic| (k_here; (with_reducible show wpAny _ _ (call (Value.ref 144) _) _ _ _); k_dflt (refine' use (ways02_c _ _ _ _) ?B ?F ?X ?N ?T ?K ?d ?u ?s ?r ?_; (case B => k_asm); (case F => k_asm); (case X => k_asm); (case N => k_asm); (case T => k_asm); (case K => first | exact rfl | assumption); (case s => lcg_sub); (case r => walk_at "REST"); (case d => ktr_room); (case u => ktr_units)); (intro r9 led9 h9 tk9 F9 N9 P9 M9; obtain ⟨D9, u9, T19, z19, z29, e9, f9, o9, pT1⟩ := P9; subst e9; subst f9; replace o9 := AllNe.of (off_fresh M9 o9); (try simp only [AllNe, and_true] at o9); (repeat (obtain ⟨_, o9⟩ := o9)); replace pT1 := AllNe.of (off_fresh M9 pT1); (try simp only [AllNe, and_true] at pT1); (repeat (obtain ⟨_, pT1⟩ := pT1)); clear M9; (try dsimp only [List.cons_append, List.nil_append] at N9); (try k_sweep); (try dsimp only))))
theorem ways13_c {ta tb : Tok} :
    Ctr w mean mg mb 5 144 [.int 1 ta, .int 3 tb] [] (fun hp r led' => ∃ D u T1 z1 z2, r = .ref D ∧ led' = [(D, W.listOf #[.ref T1] u), (T1, tup2 (.int 1 z1) (.int 2 z2))] ∧ hp.get? D = none ∧ hp.get? T1 = none) := by
  unfold Ctr
  k_fill
  intro dp un gd cn cs a' ccd cl outer A₀ base h₀ L m s Q E B F X N T hk hd' hu hret
  (refine wpAny_call ?_; k_dflt (refine' enter_defC (binds := [(Str.ofString "low", Value.int 1 ta), (Str.ofString "high", Value.int 3 tb)]) ?k1 ?k2 ?k3 ?k4 ?k5 ?kA ?kF ?kK ?k6 ?k7 ?k8 ?k9 ?kB ?kD ?_ ?c2 ?c3 ?c4; (case kA => exact rfl); (case kF => exact rfl); (case kK => assumption); (case k1 => k_asm); (case k2 => k_asm); (case k3 => k_asm); (case k4 => k_asm); (case k5 => k_asm); (case k6 => k_is); (case k7 => k_is); (case k8 => ktr_room); (case k9 => exact BindsTo.of_eq rfl); (case kB => exact rfl); (case kD => decide +kernel); (case c2 => exact rfl); (case c3 => exact rfl); (case c4 => exact rfl); k_whole; intro g' L' h' tk' cells' hL' kb' lt' F' N' Y' B' X' T'; (replace F' : Fr g' L' h' (fun y => if y = Str.ofString "high" then some (.int 3 tb) else if y = Str.ofString "low" then some (.int 1 ta) else none) := F'); (try simp only [AllLt, and_true] at lt'); k_cells Y'; (try simp only [List.cons_append, List.nil_append] at N'); (try dsimp only); (try k_fold)))
  k_steps
  refine' hret _ _ _ _ ?cF (news_sub ?cN ?cS) ?cK ⟨_, _, _, _, _, rfl, rfl, ?cD, ?cT1⟩
  case cF => k_asm
  case cN => assumption
  case cS => lcg_sub
  case cK => exact KeepBut.fr kb' (by k_asm)
  case cD => exact fresh_of kb' (by assumption) (by k_mem) (fun h => nomatch h)
  case cT1 => exact fresh_of kb' (by assumption) (by k_mem) (fun h => nomatch h)
local macro_rules | `(tactic| walk_at "call ref") => `(tactic| (k_here; (with_reducible show wpAny _ _ (call (Value.ref 144) _) _ _ _); k_dflt (refine' use (ways13_c _ _ _ _) ?B ?F ?X ?N ?T ?K ?d ?u ?s ?r ?_; (case B => k_asm); (case F => k_asm); (case X => k_asm); (case N => k_asm); (case T => k_asm); (case K => first | exact rfl | assumption); (case s => lcg_sub); (case r => walk_at "REST"); (case d => ktr_room); (case u => ktr_units)); (intro r9 led9 h9 tk9 F9 N9 P9 M9; obtain ⟨D9, u9, T19, z19, z29, e9, f9, o9, pT1⟩ := P9; subst e9; subst f9; replace o9 := AllNe.of (off_fresh M9 o9); (try simp only [AllNe, and_true] at o9); (repeat (obtain ⟨_, o9⟩ := o9)); replace pT1 := AllNe.of (off_fresh M9 pT1); (try simp only [AllNe, and_true] at pT1); (repeat (obtain ⟨_, pT1⟩ := pT1)); clear M9; (try dsimp only [List.cons_append, List.nil_append] at N9); (try k_sweep); (try dsimp only))))
theorem ways24_c {ta tb : Tok} :
    Ctr w mean mg mb 5 144 [.int 2 ta, .int 4 tb] [] (fun hp r led' => ∃ D u T1 z1 z2, r = .ref D ∧ led' = [(D, W.listOf #[.ref T1] u), (T1, tup2 (.int 2 z1) (.int 3 z2))] ∧ hp.get? D = none ∧ hp.get? T1 = none) := by
  unfold Ctr
  k_fill
  intro dp un gd cn cs a' ccd cl outer A₀ base h₀ L m s Q E B F X N T hk hd' hu hret
  (refine wpAny_call ?_; k_dflt (refine' enter_defC (binds := [(Str.ofString "low", Value.int 2 ta), (Str.ofString "high", Value.int 4 tb)]) ?k1 ?k2 ?k3 ?k4 ?k5 ?kA ?kF ?kK ?k6 ?k7 ?k8 ?k9 ?kB ?kD ?_ ?c2 ?c3 ?c4; (case kA => exact rfl); (case kF => exact rfl); (case kK => assumption); (case k1 => k_asm); (case k2 => k_asm); (case k3 => k_asm); (case k4 => k_asm); (case k5 => k_asm); (case k6 => k_is); (case k7 => k_is); (case k8 => ktr_room); (case k9 => exact BindsTo.of_eq rfl); (case kB => exact rfl); (case kD => decide +kernel); (case c2 => exact rfl); (case c3 => exact rfl); (case c4 => exact rfl); k_whole; intro g' L' h' tk' cells' hL' kb' lt' F' N' Y' B' X' T'; (replace F' : Fr g' L' h' (fun y => if y = Str.ofString "high" then some (.int 4 tb) else if y = Str.ofString "low" then some (.int 2 ta) else none) := F'); (try simp only [AllLt, and_true] at lt'); k_cells Y'; (try simp only [List.cons_append, List.nil_append] at N'); (try dsimp only); (try k_fold)))
  k_steps
  refine' hret _ _ _ _ ?cF (news_sub ?cN ?cS) ?cK ⟨_, _, _, _, _, rfl, rfl, ?cD, ?cT1⟩
  case cF => k_asm
  case cN => assumption
  case cS => lcg_sub
  case cK => exact KeepBut.fr kb' (by k_asm)
  case cD => exact fresh_of kb' (by assumption) (by k_mem) (fun h => nomatch h)
  case cT1 => exact fresh_of kb' (by assumption) (by k_mem) (fun h => nomatch h)
local macro_rules | `(tactic| walk_at "call ref") => `(tactic| (k_here; (with_reducible show wpAny _ _ (call (Value.ref 144) _) _ _ _); k_dflt (refine' use (ways24_c _ _ _ _) ?B ?F ?X ?N ?T ?K ?d ?u ?s ?r ?_; (case B => k_asm); (case F => k_asm); (case X => k_asm); (case N => k_asm); (case T => k_asm); (case K => first | exact rfl | assumption); (case s => lcg_sub); (case r => walk_at "REST"); (case d => ktr_room); (case u => ktr_units)); (intro r9 led9 h9 tk9 F9 N9 P9 M9; obtain ⟨D9, u9, T19, z19, z29, e9, f9, o9, pT1⟩ := P9; subst e9; subst f9; replace o9 := AllNe.of (off_fresh M9 o9); (try simp only [AllNe, and_true] at o9); (repeat (obtain ⟨_, o9⟩ := o9)); replace pT1 := AllNe.of (off_fresh M9 pT1); (try simp only [AllNe, and_true] at pT1); (repeat (obtain ⟨_, pT1⟩ := pT1)); clear M9; (try dsimp only [List.cons_append, List.nil_append] at N9); (try k_sweep); (try dsimp only))))
theorem ways03_c {ta tb : Tok} :
    Ctr w mean mg mb 7 144 [.int 0 ta, .int 3 tb] [] (fun hp r led' => ∃ D u T2 T1 T4 T3 z1 z2 z3 z4 z5 z6, r = .ref D ∧ led' = [(D, W.listOf #[.ref T2, .ref T4] u), (T2, tup2 (.int 0 z1) (.ref T1)), (T1, tup2 (.int 1 z2) (.int 2 z3)), (T4, tup2 (.ref T3) (.int 2 z6)), (T3, tup2 (.int 0 z4) (.int 1 z5))] ∧ hp.get? D = none ∧ hp.get? T2 = none ∧ hp.get? T1 = none ∧ hp.get? T4 = none ∧ hp.get? T3 = none) := by
  unfold Ctr
  k_fill
  intro dp un gd cn cs a' ccd cl outer A₀ base h₀ L m s Q E B F X N T hk hd' hu hret
  (refine wpAny_call ?_; k_dflt (refine' enter_defC (binds := [(Str.ofString "low", Value.int 0 ta), (Str.ofString "high", Value.int 3 tb)]) ?k1 ?k2 ?k3 ?k4 ?k5 ?kA ?kF ?kK ?k6 ?k7 ?k8 ?k9 ?kB ?kD ?_ ?c2 ?c3 ?c4; (case kA => exact rfl); (case kF => exact rfl); (case kK => assumption); (case k1 => k_asm); (case k2 => k_asm); (case k3 => k_asm); (case k4 => k_asm); (case k5 => k_asm); (case k6 => k_is); (case k7 => k_is); (case k8 => ktr_room); (case k9 => exact BindsTo.of_eq rfl); (case kB => exact rfl); (case kD => decide +kernel); (case c2 => exact rfl); (case c3 => exact rfl); (case c4 => exact rfl); k_whole; intro g' L' h' tk' cells' hL' kb' lt' F' N' Y' B' X' T'; (replace F' : Fr g' L' h' (fun y => if y = Str.ofString "high" then some (.int 3 tb) else if y = Str.ofString "low" then some (.int 0 ta) else none) := F'); (try simp only [AllLt, and_true] at lt'); k_cells Y'; (try simp only [List.cons_append, List.nil_append] at N'); (try dsimp only); (try k_fold)))
  k_steps
  refine' hret _ _ _ _ ?cF (news_sub ?cN ?cS) ?cK ⟨_, _, _, _, _, _, _, _, _, _, _, _, rfl, rfl, ?cD, ?cT2, ?cT1, ?cT4, ?cT3⟩
  case cF => k_asm
  case cN => assumption
  case cS => lcg_sub
  case cK => exact KeepBut.fr kb' (by k_asm)
  case cD => exact fresh_of kb' (by assumption) (by k_mem) (fun h => nomatch h)
  case cT2 => exact fresh_of kb' (by assumption) (by k_mem) (fun h => nomatch h)
  case cT1 => exact fresh_of kb' (by assumption) (by k_mem) (fun h => nomatch h)
  case cT4 => exact fresh_of kb' (by assumption) (by k_mem) (fun h => nomatch h)
  case cT3 => exact fresh_of kb' (by assumption) (by k_mem) (fun h => nomatch h)
local macro_rules | `(tactic| walk_at "call ref") => `(tactic| (k_here; (with_reducible show wpAny _ _ (call (Value.ref 144) _) _ _ _); k_dflt (refine' use (ways03_c _ _ _ _) ?B ?F ?X ?N ?T ?K ?d ?u ?s ?r ?_; (case B => k_asm); (case F => k_asm); (case X => k_asm); (case N => k_asm); (case T => k_asm); (case K => first | exact rfl | assumption); (case s => lcg_sub); (case r => walk_at "REST"); (case d => ktr_room); (case u => ktr_units)); (intro r9 led9 h9 tk9 F9 N9 P9 M9; obtain ⟨D9, u9, T29, T19, T49, T39, z19, z29, z39, z49, z59, z69, e9, f9, o9, pT2, pT1, pT4, pT3⟩ := P9; subst e9; subst f9; replace o9 := AllNe.of (off_fresh M9 o9); (try simp only [AllNe, and_true] at o9); (repeat (obtain ⟨_, o9⟩ := o9)); replace pT2 := AllNe.of (off_fresh M9 pT2); (try simp only [AllNe, and_true] at pT2); (repeat (obtain ⟨_, pT2⟩ := pT2)); replace pT1 := AllNe.of (off_fresh M9 pT1); (try simp only [AllNe, and_true] at pT1); (repeat (obtain ⟨_, pT1⟩ := pT1)); replace pT4 := AllNe.of (off_fresh M9 pT4); (try simp only [AllNe, and_true] at pT4); (repeat (obtain ⟨_, pT4⟩ := pT4)); replace pT3 := AllNe.of (off_fresh M9 pT3); (try simp only [AllNe, and_true] at pT3); (repeat (obtain ⟨_, pT3⟩ := pT3)); clear M9; (try dsimp only [List.cons_append, List.nil_append] at N9); (try k_sweep); (try dsimp only))))
theorem ways14_c {ta tb : Tok} :
    Ctr w mean mg mb 7 144 [.int 1 ta, .int 4 tb] [] (fun hp r led' => ∃ D u T2 T1 T4 T3 z1 z2 z3 z4 z5 z6, r = .ref D ∧ led' = [(D, W.listOf #[.ref T2, .ref T4] u), (T2, tup2 (.int 1 z1) (.ref T1)), (T1, tup2 (.int 2 z2) (.int 3 z3)), (T4, tup2 (.ref T3) (.int 3 z6)), (T3, tup2 (.int 1 z4) (.int 2 z5))] ∧ hp.get? D = none ∧ hp.get? T2 = none ∧ hp.get? T1 = none ∧ hp.get? T4 = none ∧ hp.get? T3 = none) := by
  unfold Ctr
  k_fill
  intro dp un gd cn cs a' ccd cl outer A₀ base h₀ L m s Q E B F X N T hk hd' hu hret
  (refine wpAny_call ?_; k_dflt (refine' enter_defC (binds := [(Str.ofString "low", Value.int 1 ta), (Str.ofString "high", Value.int 4 tb)]) ?k1 ?k2 ?k3 ?k4 ?k5 ?kA ?kF ?kK ?k6 ?k7 ?k8 ?k9 ?kB ?kD ?_ ?c2 ?c3 ?c4; (case kA => exact rfl); (case kF => exact rfl); (case kK => assumption); (case k1 => k_asm); (case k2 => k_asm); (case k3 => k_asm); (case k4 => k_asm); (case k5 => k_asm); (case k6 => k_is); (case k7 => k_is); (case k8 => ktr_room); (case k9 => exact BindsTo.of_eq rfl); (case kB => exact rfl); (case kD => decide +kernel); (case c2 => exact rfl); (case c3 => exact rfl); (case c4 => exact rfl); k_whole; intro g' L' h' tk' cells' hL' kb' lt' F' N' Y' B' X' T'; (replace F' : Fr g' L' h' (fun y => if y = Str.ofString "high" then some (.int 4 tb) else if y = Str.ofString "low" then some (.int 1 ta) else none) := F'); (try simp only [AllLt, and_true] at lt'); k_cells Y'; (try simp only [List.cons_append, List.nil_append] at N'); (try dsimp only); (try k_fold)))
  k_steps
  refine' hret _ _ _ _ ?cF (news_sub ?cN ?cS) ?cK ⟨_, _, _, _, _, _, _, _, _, _, _, _, rfl, rfl, ?cD, ?cT2, ?cT1, ?cT4, ?cT3⟩
  case cF => k_asm
  case cN => assumption
  case cS => lcg_sub
  case cK => exact KeepBut.fr kb' (by k_asm)
  case cD => exact fresh_of kb' (by assumption) (by k_mem) (fun h => nomatch h)
  case cT2 => exact fresh_of kb' (by assumption) (by k_mem) (fun h => nomatch h)
  case cT1 => exact fresh_of kb' (by assumption) (by k_mem) (fun h => nomatch h)
  case cT4 => exact fresh_of kb' (by assumption) (by k_mem) (fun h => nomatch h)
  case cT3 => exact fresh_of kb' (by assumption) (by k_mem) (fun h => nomatch h)
local macro_rules | `(tactic| walk_at "call ref") => `(tactic| (k_here; (with_reducible show wpAny _ _ (call (Value.ref 144) _) _ _ _); k_dflt (refine' use (ways14_c _ _ _ _) ?B ?F ?X ?N ?T ?K ?d ?u ?s ?r ?_; (case B => k_asm); (case F => k_asm); (case X => k_asm); (case N => k_asm); (case T => k_asm); (case K => first | exact rfl | assumption); (case s => lcg_sub); (case r => walk_at "REST"); (case d => ktr_room); (case u => ktr_units)); (intro r9 led9 h9 tk9 F9 N9 P9 M9; obtain ⟨D9, u9, T29, T19, T49, T39, z19, z29, z39, z49, z59, z69, e9, f9, o9, pT2, pT1, pT4, pT3⟩ := P9; subst e9; subst f9; replace o9 := AllNe.of (off_fresh M9 o9); (try simp only [AllNe, and_true] at o9); (repeat (obtain ⟨_, o9⟩ := o9)); replace pT2 := AllNe.of (off_fresh M9 pT2); (try simp only [AllNe, and_true] at pT2); (repeat (obtain ⟨_, pT2⟩ := pT2)); replace pT1 := AllNe.of (off_fresh M9 pT1); (try simp only [AllNe, and_true] at pT1); (repeat (obtain ⟨_, pT1⟩ := pT1)); replace pT4 := AllNe.of (off_fresh M9 pT4); (try simp only [AllNe, and_true] at pT4); (repeat (obtain ⟨_, pT4⟩ := pT4)); replace pT3 := AllNe.of (off_fresh M9 pT3); (try simp only [AllNe, and_true] at pT3); (repeat (obtain ⟨_, pT3⟩ := pT3)); clear M9; (try dsimp only [List.cons_append, List.nil_append] at N9); (try k_sweep); (try dsimp only))))
theorem ways04_c {ta tb : Tok} :
    Ctr w mean mg mb 9 144 [.int 0 ta, .int 4 tb] [] (fun hp r led' => ∃ D u T5 T2 T1 T6 T4 T3 T9 T7 T8 T14 T11 T10 T15 T13 T12 z1 z2 z3 z4 z5 z6 z7 z8 z9 z10 z11 z12 z13 z14 z15 z16 z17 z18 z19, r = .ref D ∧ led' = [(D, W.listOf #[.ref T5, .ref T6, .ref T9, .ref T14, .ref T15] u), (T5, tup2 (.int 0 z1) (.ref T2)), (T2, tup2 (.int 1 z2) (.ref T1)), (T1, tup2 (.int 2 z3) (.int 3 z4)), (T6, tup2 (.int 0 z1) (.ref T4)), (T4, tup2 (.ref T3) (.int 3 z7)), (T3, tup2 (.int 1 z5) (.int 2 z6)), (T9, tup2 (.ref T7) (.ref T8)), (T7, tup2 (.int 0 z8) (.int 1 z9)), (T8, tup2 (.int 2 z10) (.int 3 z11)), (T14, tup2 (.ref T11) (.int 3 z18)), (T11, tup2 (.int 0 z12) (.ref T10)), (T10, tup2 (.int 1 z13) (.int 2 z14)), (T15, tup2 (.ref T13) (.int 3 z19)), (T13, tup2 (.ref T12) (.int 2 z17)), (T12, tup2 (.int 0 z15) (.int 1 z16))] ∧ hp.get? D = none ∧ hp.get? T5 = none ∧ hp.get? T2 = none ∧ hp.get? T1 = none ∧ hp.get? T6 = none ∧ hp.get? T4 = none ∧ hp.get? T3 = none ∧ hp.get? T9 = none ∧ hp.get? T7 = none ∧ hp.get? T8 = none ∧ hp.get? T14 = none ∧ hp.get? T11 = none ∧ hp.get? T10 = none ∧ hp.get? T15 = none ∧ hp.get? T13 = none ∧ hp.get? T12 = none) := by
  unfold Ctr
  k_fill
  intro dp un gd cn cs a' ccd cl outer A₀ base h₀ L m s Q E B F X N T hk hd' hu hret
  (refine wpAny_call ?_; k_dflt (refine' enter_defC (binds := [(Str.ofString "low", Value.int 0 ta), (Str.ofString "high", Value.int 4 tb)]) ?k1 ?k2 ?k3 ?k4 ?k5 ?kA ?kF ?kK ?k6 ?k7 ?k8 ?k9 ?kB ?kD ?_ ?c2 ?c3 ?c4; (case kA => exact rfl); (case kF => exact rfl); (case kK => assumption); (case k1 => k_asm); (case k2 => k_asm); (case k3 => k_asm); (case k4 => k_asm); (case k5 => k_asm); (case k6 => k_is); (case k7 => k_is); (case k8 => ktr_room); (case k9 => exact BindsTo.of_eq rfl); (case kB => exact rfl); (case kD => decide +kernel); (case c2 => exact rfl); (case c3 => exact rfl); (case c4 => exact rfl); k_whole; intro g' L' h' tk' cells' hL' kb' lt' F' N' Y' B' X' T'; (replace F' : Fr g' L' h' (fun y => if y = Str.ofString "high" then some (.int 4 tb) else if y = Str.ofString "low" then some (.int 0 ta) else none) := F'); (try simp only [AllLt, and_true] at lt'); k_cells Y'; (try simp only [List.cons_append, List.nil_append] at N'); (try dsimp only); (try k_fold)))
  k_steps
  refine' hret _ _ _ _ ?cF (news_sub ?cN ?cS) ?cK ⟨_, _, _, _, _, _, _, _, _, _, _, _, _, _, _, _, _, _, _, _, _, _, _, _, _, _, _, _, _, _, _, _, _, _, _, _, rfl, rfl, ?cD, ?cT5, ?cT2, ?cT1, ?cT6, ?cT4, ?cT3, ?cT9, ?cT7, ?cT8, ?cT14, ?cT11, ?cT10, ?cT15, ?cT13, ?cT12⟩
  case cF => k_asm
  case cN => assumption
  case cS => lcg_sub
  case cK => exact KeepBut.fr kb' (by k_asm)
  case cD => exact fresh_of kb' (by assumption) (by k_mem) (fun h => nomatch h)
  case cT5 => exact fresh_of kb' (by assumption) (by k_mem) (fun h => nomatch h)
  case cT2 => exact fresh_of kb' (by assumption) (by k_mem) (fun h => nomatch h)
  case cT1 => exact fresh_of kb' (by assumption) (by k_mem) (fun h => nomatch h)
  case cT6 => exact fresh_of kb' (by assumption) (by k_mem) (fun h => nomatch h)
  case cT4 => exact fresh_of kb' (by assumption) (by k_mem) (fun h => nomatch h)
  case cT3 => exact fresh_of kb' (by assumption) (by k_mem) (fun h => nomatch h)
  case cT9 => exact fresh_of kb' (by assumption) (by k_mem) (fun h => nomatch h)
  case cT7 => exact fresh_of kb' (by assumption) (by k_mem) (fun h => nomatch h)
  case cT8 => exact fresh_of kb' (by assumption) (by k_mem) (fun h => nomatch h)
  case cT14 => exact fresh_of kb' (by assumption) (by k_mem) (fun h => nomatch h)
  case cT11 => exact fresh_of kb' (by assumption) (by k_mem) (fun h => nomatch h)
  case cT10 => exact fresh_of kb' (by assumption) (by k_mem) (fun h => nomatch h)
  case cT15 => exact fresh_of kb' (by assumption) (by k_mem) (fun h => nomatch h)
  case cT13 => exact fresh_of kb' (by assumption) (by k_mem) (fun h => nomatch h)
  case cT12 => exact fresh_of kb' (by assumption) (by k_mem) (fun h => nomatch h)
local macro_rules | `(tactic| walk_at "call ref") => `(tactic| (k_here; (with_reducible show wpAny _ _ (call (Value.ref 144) _) _ _ _); k_dflt (refine' use (ways04_c _ _ _ _) ?B ?F ?X ?N ?T ?K ?d ?u ?s ?r ?_; (case B => k_asm); (case F => k_asm); (case X => k_asm); (case N => k_asm); (case T => k_asm); (case K => first | exact rfl | assumption); (case s => lcg_sub); (case r => walk_at "REST"); (case d => ktr_room); (case u => ktr_units)); (intro r9 led9 h9 tk9 F9 N9 P9 M9; obtain ⟨D9, u9, T59, T29, T19, T69, T49, T39, T99, T79, T89, T149, T119, T109, T159, T139, T129, z19, z29, z39, z49, z59, z69, z79, z89, z99, z109, z119, z129, z139, z149, z159, z169, z179, z189, z199, e9, f9, o9, pT5, pT2, pT1, pT6, pT4, pT3, pT9, pT7, pT8, pT14, pT11, pT10, pT15, pT13, pT12⟩ := P9; subst e9; subst f9; replace o9 := AllNe.of (off_fresh M9 o9); (try simp only [AllNe, and_true] at o9); (repeat (obtain ⟨_, o9⟩ := o9)); replace pT5 := AllNe.of (off_fresh M9 pT5); (try simp only [AllNe, and_true] at pT5); (repeat (obtain ⟨_, pT5⟩ := pT5)); replace pT2 := AllNe.of (off_fresh M9 pT2); (try simp only [AllNe, and_true] at pT2); (repeat (obtain ⟨_, pT2⟩ := pT2)); replace pT1 := AllNe.of (off_fresh M9 pT1); (try simp only [AllNe, and_true] at pT1); (repeat (obtain ⟨_, pT1⟩ := pT1)); replace pT6 := AllNe.of (off_fresh M9 pT6); (try simp only [AllNe, and_true] at pT6); (repeat (obtain ⟨_, pT6⟩ := pT6)); replace pT4 := AllNe.of (off_fresh M9 pT4); (try simp only [AllNe, and_true] at pT4); (repeat (obtain ⟨_, pT4⟩ := pT4)); replace pT3 := AllNe.of (off_fresh M9 pT3); (try simp only [AllNe, and_true] at pT3); (repeat (obtain ⟨_, pT3⟩ := pT3)); replace pT9 := AllNe.of (off_fresh M9 pT9); (try simp only [AllNe, and_true] at pT9); (repeat (obtain ⟨_, pT9⟩ := pT9)); replace pT7 := AllNe.of (off_fresh M9 pT7); (try simp only [AllNe, and_true] at pT7); (repeat (obtain ⟨_, pT7⟩ := pT7)); replace pT8 := AllNe.of (off_fresh M9 pT8); (try simp only [AllNe, and_true] at pT8); (repeat (obtain ⟨_, pT8⟩ := pT8)); replace pT14 := AllNe.of (off_fresh M9 pT14); (try simp only [AllNe, and_true] at pT14); (repeat (obtain ⟨_, pT14⟩ := pT14)); replace pT11 := AllNe.of (off_fresh M9 pT11); (try simp only [AllNe, and_true] at pT11); (repeat (obtain ⟨_, pT11⟩ := pT11)); replace pT10 := AllNe.of (off_fresh M9 pT10); (try simp only [AllNe, and_true] at pT10); (repeat (obtain ⟨_, pT10⟩ := pT10)); replace pT15 := AllNe.of (off_fresh M9 pT15); (try simp only [AllNe, and_true] at pT15); (repeat (obtain ⟨_, pT15⟩ := pT15)); replace pT13 := AllNe.of (off_fresh M9 pT13); (try simp only [AllNe, and_true] at pT13); (repeat (obtain ⟨_, pT13⟩ := pT13)); replace pT12 := AllNe.of (off_fresh M9 pT12); (try simp only [AllNe, and_true] at pT12); (repeat (obtain ⟨_, pT12⟩ := pT12)); clear M9; (try dsimp only [List.cons_append, List.nil_append] at N9); (try k_sweep); (try dsimp only))))
end

section
variable {prog : Program} {w : World} {A : Around} {E : Value → Shared → Prop} {s : Shared} {h₀ : Heap} {L : Addr} {m : Str → Option Value} {news : List (Addr × Obj)}
theorem Dict_new {env : Env} {pos : Pos} {Q : Value → Shared → Prop} (F : Fr h₀ L s.heap m) (N : News h₀ L s.heap news) (hbig : h₀.NoLimit)
    (k : ∀ d h', Fr h₀ L h' m → News h₀ L h' ((d, dictOf [] 0) :: news) → (∀ p ∈ news, p.1 < d) → (d == sysModules) = false → Q (.ref d) { s with heap := h' }) : wpAny (model prog w) A (eval (.Dict [] [] pos) env) Q E s :=
  wpAny_Dict_empty (k _ _ (F.push _) (News.push F N _) (fun p hp => Heap.lt_size (N p hp).1) (F.notModules (modules_low hbig)))
theorem make_at {K : Frag} {C : Addr} {fI : Addr} {pos : List Value} {Q : Value → Shared → Prop} (F : Fr h₀ L s.heap m) (X : K.In h₀) (N : News h₀ L s.heap news) (hm : makesIn K C = true) (hi : findIn K (.ref C) "__init__" = some (some (.ref fI))) (hf : isFn K (.ref fI) = true)
    (h : ∀ x dx h', s.heap.objs.size ≤ dx → (∀ b o, s.heap.get? b = some o → h'.get? b = some o) → Fr h₀ L h' m → News h₀ L h' ((x, instObj C dx) :: (dx, dictOf [] 0) :: news) → dx < x →
      codeAny (model prog w) (A.under (.builtin "type.__call__" ⟨.ref C :: pos, []⟩)) (.call (.ref fI) ⟨.ref x :: pos, []⟩) (InitBack x fun r s' => match r with | .ok (.ret v) => Q v s' | .ok _ => False | .error e => E e s') { s with heap := h' }) :
    wpAny (model prog w) A (call (.ref C) pos) Q E s := by
  obtain ⟨hh, g, d, t, os⟩ := s
  have X' := X.keeps F.keep
  refine wpAny_call (make_core (makes_of X' hm) (looks_findIn X' hi) (fun self => bind_fn X' self (beq_iff_eq.mp hf)) (.inl rfl) (h _ hh.objs.size _ (Nat.le_refl _) (fun b o e => Heap.get?_push_of_some _ (Heap.get?_push_of_some _ e)) ((F.push _).push _) ?_ (Nat.lt_succ_self _)))
  have := (N.push F emptyDict).push (F.push _) (instObj C hh.objs.size)
  rwa [Heap.size_push] at this
end
local macro_rules | `(tactic| walk_at "eval Dict nil nil") => `(tactic| (k_here; k_dflt (refine' Dict_new ?k1 ?k2 (TopRead.nolimit (by k_asm)) ?_; (case k1 => k_asm); (case k2 => k_asm); k_whole); intro d' h' F' N' l1 lo'; (try k_lt l1); (try k_sweep)))
section
variable (w : World) (mean : ExcName → Option Value) (mg mb : Str → Option Value)
theorem ints_zero {t : Tok} (k : Nat) : IntsAre (List.replicate k [Value.int 0 t]).flatten (List.replicate k (0 : Int)) := by
  have h := KM.ints_rep (vs := [Value.int 0 t]) (ns := [0]) (IntsAre.cons _ _ IntsAre.nil) k
  have e : ∀ k : Nat, (List.replicate k [(0 : Int)]).flatten = List.replicate k 0 := by
    intro k
    induction k with
    | zero => rfl
    | succ k ih => rw [List.replicate_succ, List.flatten_cons, ih]; rfl
  rwa [e] at h
theorem space_c {n : Int} {ta tb : Tok} (h0 : 1 ≤ n) (h1 : n ≤ 100) :
    Ctr w mean mg mb 3 54 [.int n ta, .int 4 tb] [] (fun hp r led' => ∃ S : Sp, r = .ref S.sp ∧ led' = stL S [] ∧ Ok S [] ∧ S.n = n ∧ S.fr = n ∧ S.c = 0 ∧ hp.objs.size ≤ S.dx) := by
  unfold Ctr
  k_fill
  intro dp un gd cn cs a' ccd cl outer A₀ base h₀ L m s Q E B F X N T hk hd' hu hret
  k_dflt (refine' make_at ?k1 ?k2 ?k3 ?k4 ?k5 ?k6 ?_; (case k1 => k_asm); (case k2 => k_asm); (case k3 => k_asm); (case k4 => k_is); (case k5 => k_is); (case k6 => k_is); k_whole; intro x' d' h' l9 kp F' N' l2)
  k_dflt (refine' enter_def (binds := [(Str.ofString "self", Value.ref x'), (Str.ofString "size", Value.int n ta), (Str.ofString "most_waiting", Value.int 4 tb)]) ?k1 ?k2 ?k3 ?k4 ?k5 ?kA ?kF ?kK ?k6 ?k7 ?k8 ?k9 ?kB ?_ ?c2 ?c3 ?c4 ?c5; (case kA => exact rfl); (case kF => exact rfl); (case kK => assumption); (case k1 => k_asm); (case k2 => k_asm); (case k3 => k_asm); (case k4 => k_asm); (case k5 => k_asm); (case k6 => k_is); (case k7 => k_is); (case k8 => ktr_room); (case k9 => exact BindsTo.of_eq rfl); (case c5 => decide); (case kB => exact locs rfl); (case c2 => exact rfl); (case c3 => exact rfl); (case c4 => exact rfl); k_whole; intro g' L' h' hL' kb' lt' F' N' B' X' T'; (try simp only [AllLt, and_true] at lt'); (try dsimp only); (try k_fold))
  k_steps
  rename (_ == sysModules) = false => lo9
  have hn : ((n.toNat : Nat) : Int) = n := Int.toNat_of_nonneg (by omega)
  refine' hret _ _ _ _ ?cF (news_sub ?cN ?cS) ?cK ⟨⟨x', d', _, _, _, ⟨_, _, _, _, _, _, _, _, _, _, _, _, _, _, _, _⟩, n, n, 0, _, _, _, _, _, (List.replicate n.toNat [Value.int 0 _]).flatten, List.replicate n.toNat 0, 0, 0⟩, rfl, rfl, ⟨ints_zero _, ?_, ?_, l2, ?_, ?_, ?_, lo9, Int.le_refl _, ?_, Int.le_refl _, trivial, fun _ => rfl, ?_⟩, rfl, rfl, rfl, l9⟩
  case cF => k_asm
  case cN => assumption
  case cS => ((try dsimp only [spL, List.cons_append, List.nil_append]); lcg_sub)
  case cK => exact fun b o e hn => KeepBut.fr kb' (by k_asm) b o (kp b o e) (by
    have h7 : @LT.lt Nat _ b s.heap.objs.size := Heap.lt_size e
    have h8 : @LT.lt Nat _ d' x' := l2
    simp only [List.map_cons, List.map_nil, List.mem_cons, List.not_mem_nil, or_false, not_or]
    refine ⟨?_, ?_⟩
    · show ¬ @Eq Nat _ _; omega
    · show ¬ @Eq Nat _ _; omega)
  all_goals (dsimp only)
  all_goals (try simp only [List.length_replicate])
  · exact hn.symm
  · omega
  iterate 3 (· ((repeat (rename _ ∧ _ => hc; (obtain ⟨_, _⟩ := hc))); assumption))
  · omega
  · intro x hx; rw [List.eq_of_mem_replicate hx]; omega
end

/-- the law's def, as the head's type tells it -/
def recOf {v} {l} {x} {y} {r} {d : DefRec} {k} {run} {C : Prop} (_ : WalkO v l x y r d k run → C) : DefRec := d
def lawRec : DefRec := recOf Mine.hd
theorem useG {w : World} {mean : ExcName → Option Value} {mg mb : Str → Option Value} {d : Nat} {f : Addr} {vs : List Value} {G : Heap} {led : List (Addr × Obj)} {Post : Value → List (Addr × Obj) → Prop}
    {dp un : Nat} {gd : Option (List Code)} {cn : Str} {cs : Scope} {a : Addr} {ccd : Value} {cl : List (Str × Addr)} {outer : List Env} {A₀ : Around} {base h₀ : Heap} {L : Addr} {m : Str → Option Value} {s : Shared} {Q E : Value → Shared → Prop} {big rest : List (Addr × Obj)}
    (C : CtrG w mean mg mb d f vs G led Post (fun _ _ => False)) (B : Below A₀ base outer h₀) (F : Fr h₀ L s.heap m) (X : (Mine.hd.heap_39 w.params).In h₀) (N : News h₀ L s.heap big) (T : Top Mine.hd.view_39 (looseW Mine.hd.view_39 [Str.ofString "BasicError"]) mean mg mb h₀) (hk : cs.kind = .function)
    (hd : dp + d < recursionLimit) (hu : un + 8 * d < cLine) (hG : ∀ b o, G.get? b = some o → s.heap.get? b = some o ∧ b ∉ led.map (·.1)) (hs : ∀ p ∈ led, p ∈ big) (hr : Rest led big rest)
    (k : ∀ r led' h' tk', Fr h₀ L h' m → News h₀ L h' (led' ++ rest) → Post r led' → Q r { s with heap := h', toks := tk' }) :
    wpAny (model PySem.Challenge.rw_xm0013_01.row.prog w) (ktrTop dp un gd cn cs L a ccd cl outer) (call (.ref f) vs) Q E s :=
  C dp un gd cn cs a ccd cl outer A₀ base h₀ L m s Q E B F X (news_sub N hs) T hk hd hu hG (fun r led' h' tk' F' N' kb P => k r led' h' tk' F' (news_on N kb N' (fun p hp => (hr.mem p hp).1) hr.off) P) fun _ _ _ _ _ _ _ _ z => z.elim
/-- a way that a ledger holds -/
def WayIn (led : List (Addr × Obj)) : Way → Value → Prop
  | .leaf i, v => ∃ t, v = .int i t
  | .node x y, v => ∃ a v1 v2, v = .ref a ∧ (a, tup2 v1 v2) ∈ led ∧ WayIn led x v1 ∧ WayIn led y v2
theorem WayIn.is {led : List (Addr × Obj)} {G : Heap} (h : ∀ p ∈ led, G.get? p.1 = some p.2) : ∀ {W : Way} {v : Value}, WayIn led W v → IsWay G W v
  | .leaf _, _, x => x
  | .node _ _, _, ⟨a, v1, v2, e, m, x, y⟩ => ⟨a, v1, v2, e, ⟨_, h _ m, rfl, 0, rfl⟩, WayIn.is h x, WayIn.is h y⟩
theorem WayIn.sub {led big : List (Addr × Obj)} (h : ∀ p ∈ led, p ∈ big) : ∀ {W : Way} {v : Value}, WayIn led W v → WayIn big W v
  | .leaf _, _, x => x
  | .node _ _, _, ⟨a, v1, v2, e, m, x, y⟩ => ⟨a, v1, v2, e, h _ m, WayIn.sub h x, WayIn.sub h y⟩
/-- the heap less some addresses holds the rest of a ledger -/
theorem hide_in {h : Heap} {as : List Addr} {led : List (Addr × Obj)} (N : ∀ p ∈ led, h.get? p.1 = some p.2) (ho : ∀ p ∈ led, p.1 ∉ as) : ∀ p ∈ led, (hideAll h as).get? p.1 = some p.2 := fun p hp => (hideAll_get _ (N p hp) (ho p hp))
theorem hide_ok {h : Heap} {as : List Addr} : ∀ b o, (hideAll h as).get? b = some o → h.get? b = some o ∧ b ∉ as := fun b o e => ⟨of_hideAll _ e, fun hm => by rw [hideAll_none _ hm] at e; cases e⟩
theorem Asc.low : ∀ {ps : List Pl} {x : Nat}, Asc x ps → ∀ p ∈ ps, @LT.lt Nat _ x p.q
  | q :: r, x, ⟨h1, h2⟩, p, hp => by
    rcases List.mem_cons.mp hp with rfl | hp
    · exact h1
    · exact Nat.lt_trans h1 (Asc.low h2 p hp)
theorem Ok.low {S : Sp} {ps : List Pl} (O : Ok S ps) : ∀ q ∈ stL S ps, @LE.le Nat _ S.dx q.1 := by
  intro q hq
  have h1 := O.o1; have h2 := O.o2; have h3 := O.o3; have h4 := O.o4
  rcases List.mem_append.mp hq with hq | hq
  · simp only [spL, List.mem_cons, List.not_mem_nil, or_false] at hq
    rcases hq with rfl | rfl | rfl | rfl | rfl <;> (dsimp only; omega)
  · obtain ⟨p, hp, rfl⟩ := List.mem_map.mp hq
    have := O.asc.low p hp
    show @LE.le Nat _ S.dx p.q
    omega
theorem Rest.pre {led r : List (Addr × Obj)} (ht : ∀ p ∈ r, ∀ q ∈ led, q.1 ≠ p.1) : ∀ l : List (Addr × Obj), (∀ p ∈ l, p ∈ led) → Rest led (l ++ r) r
  | [], _ => .tail ht
  | p :: l, h => .drop (h p (.head _)) (Rest.pre ht l fun q hq => h q (.tail _ hq))
/-- what stands below a space stands apart of it -/
theorem Ok.apart {S : Sp} {ps : List Pl} {r : List (Addr × Obj)} (O : Ok S ps) (hr : ∀ p ∈ r, @LT.lt Nat _ p.1 S.dx) : ∀ p ∈ r, ∀ q ∈ stL S ps, q.1 ≠ p.1 := fun p hp q hq e => by
  have h1 : @LT.lt Nat _ p.1 S.dx := hr p hp
  have h2 : @LE.le Nat _ S.dx q.1 := O.low q hq
  have h3 : @Eq Nat q.1 p.1 := e
  omega
/-- the ground of a join -/
theorem join_ground {h₀ h : Heap} {L ta : Addr} {S : Sp} {ps : List Pl} {r : List (Addr × Obj)} {ts : List Str} {V : Way} {v : Value} {tv : List Value} {ut : Nat} (N : News h₀ L h (stL S ps ++ r)) (O : Ok S ps) (hr : ∀ p ∈ r, @LT.lt Nat _ p.1 S.dx) (hW : WayIn r V v)
    (hta : (ta, W.listOf tv.toArray ut) ∈ r) (htl : tv.length = ts.length) (htv : ∀ (i : Nat) (x : Str), ts[i]? = some x → ∃ t, tv[i]? = some (.str x t)) : ∃ G, (∀ b o, G.get? b = some o → h.get? b = some o ∧ b ∉ (stL S ps).map (·.1)) ∧ TextsAre G ta ts ∧ IsWay G V v := by
  have hi := hide_in (as := (stL S ps).map (·.1)) (fun p (hp : p ∈ r) => (N p (List.mem_append_right _ hp)).1) (fun p hp hm => by
    obtain ⟨q, hq, e⟩ := List.mem_map.mp hm
    exact O.apart hr p hp q hq e)
  exact ⟨_, hide_ok, ⟨tv, ⟨_, hi _ hta, rfl, ut, rfl⟩, htl, htv⟩, hW.is hi⟩
theorem Way.dd_eq : ∀ W : Way, W.dd + 12 = 24 * W.lvs
  | .leaf _ => rfl
  | .node x y => by have := Way.dd_eq x; have := Way.dd_eq y; simp only [Way.dd, Way.lvs]; omega
theorem Way.dd_le (W : Way) (h : W.lvs ≤ 4) : W.dd ≤ 84 := by have := W.dd_eq; omega
theorem swap_in {α : Type} {a : α} {l r : List α} : ∀ x ∈ a :: (l ++ r), x ∈ l ++ a :: r := fun x hx => by
  simp only [List.mem_append, List.mem_cons] at hx ⊢
  rcases hx with h | h | h
  · exact .inr (.inl h)
  · exact .inl h
  · exact .inr (.inr h)
theorem swap_out {α : Type} {a : α} {l r : List α} : ∀ x ∈ l ++ a :: r, x ∈ a :: (l ++ r) := fun x hx => by
  simp only [List.mem_append, List.mem_cons] at hx ⊢
  rcases hx with h | h | h
  · exact .inr (.inl h)
  · exact .inl h
  · exact .inr (.inr h)
theorem swap_two {α : Type} {a b : α} {l r : List α} : ∀ x ∈ b :: a :: (l ++ r), x ∈ l ++ [b] ++ a :: r := fun x hx => by
  simp only [List.mem_append, List.mem_cons, List.not_mem_nil, or_false] at hx ⊢
  rcases hx with h | h | h | h
  · exact .inl (.inr h)
  · exact .inr (.inl h)
  · exact .inl (.inl h)
  · exact .inr (.inr h)
section
variable {prog : Program} {w : World} {A : Around} {E : Value → Shared → Prop} {s : Shared} {a b : Addr} {x : Str} {t1 t2 : Tok} {Q : Value → Shared → Prop}
theorem ascii_ok {x : Str} (h : x.cps.all (· < 128) = true) : PyData.strOk x = true := by
  unfold PyData.strOk
  rw [Array.all_eq_true'] at h ⊢
  intro c hc
  have := h c hc
  simp only [decide_eq_true_eq] at this ⊢
  omega
theorem strs_shaped {x : Str} (hx : x.cps.all (· < 128) = true) : SeqAt.shaped (.list [.str x]) = true := by simp [SeqAt.shaped, PyData.canLay0, PyData.canLayAll0, PyData.depth, PyData.depthAll, ascii_ok hx]
theorem strs_read {h : Heap} (ha : h.IsList a #[.str x t1]) : Reads h (.ref a) (.list [.str x]) [a] := by
  obtain ⟨o, ho, hc, k, hd⟩ := ha
  exact reads_list_at ho hc hd (ReadsAll.cons (Reads.str _ _) ReadsAll.nil)
theorem ne_strs (hx : x.cps.all (· < 128) = true) (ha : s.heap.IsList a #[.str x t1]) (hb : s.heap.IsList b #[.str x t2]) (hu : A.units + 64 < cLine) (h : Q (.bool false) s) : wpAny (model prog w) A (compareOp .NotEq (.ref a) (.ref b)) Q E s :=
  ne_dataH (strs_read ha) (strs_read hb) (strs_shaped hx) (strs_shaped hx) hu (by simpa [PyData.eqv, PyData.eqvAll] using h)
end
theorem sign_ground {h₀ h : Heap} {L ta : Addr} {big : List (Addr × Obj)} {ts : List Str} {V : Way} {v : Value} {tv : List Value} {ut : Nat} (N : News h₀ L h big) (hW : WayIn big V v) (hta : (ta, W.listOf tv.toArray ut) ∈ big) (htl : tv.length = ts.length)
    (htv : ∀ (i : Nat) (x : Str), ts[i]? = some x → ∃ t, tv[i]? = some (.str x t)) : ∃ G : Heap, (∀ b o, G.get? b = some o → h.get? b = some o ∧ b ∉ ([] : List (Addr × Obj)).map (·.1)) ∧ TextsAre G ta ts ∧ IsWay G V v :=
  ⟨h, fun _ _ e => ⟨e, fun q => nomatch q⟩, ⟨tv, ⟨_, (N _ hta).1, rfl, ut, rfl⟩, htl, htv⟩, hW.is fun p hp => (N p hp).1⟩
theorem Way.sd_eq : ∀ W : Way, W.sd + 3 = 6 * W.lvs
  | .leaf _ => rfl
  | .node x y => by have := Way.sd_eq x; have := Way.sd_eq y; simp only [Way.sd, Way.lvs]; omega
theorem Way.sd_le (W : Way) (h : W.lvs ≤ 4) : W.sd ≤ 21 := by have := W.sd_eq; omega
section
open KStt
theorem join_codes : ∀ ys : List Str, codes (Str.join (Str.ofString "") ys) = (ys.map codes).flatten
  | [] => rfl
  | [x] => by simp [Str.join]
  | x :: y :: r => by
    have e : Str.join (Str.ofString "") (x :: y :: r) = x ++ Str.ofString "" ++ Str.join (Str.ofString "") (y :: r) := rfl
    rw [e, codes_append, codes_append, join_codes (y :: r)]
    have e0 : codes (Str.ofString "") = [] := by decide +kernel
    rw [e0]
    simp
theorem tjoin_codes (ys : List Str) : codes (Txt.join (Str.ofString "") ys) = (ys.map codes).flatten := by
  rw [← join_codes]
  exact congrArg codes (StrLaws.glued_eq_join _ _)
end

section
variable (w : World) (mean : ExcName → Option Value) (mg mb : Str → Option Value)
open KStt
theorem free_S {S : Sp} {ps : List Pl} (O : Ok S ps) : Ctr w mean mg mb 2 87 [.ref S.sp] (stL S ps) (fun _ r led' => ∃ t, r = .int S.fr t ∧ led' = stL S ps) := by
  refine ((free_room_c w mean mg mb (sp := S.sp) (dx := S.dx) (oc := S.oc) (hd := S.hd) (wt := S.wt) (H := S.H) (n := S.n) (fr := S.fr) (c := S.c) (t1 := S.t1) (t2 := S.t2) (t3 := S.t3) (t4 := S.t4) (t5 := S.t5) (vs := S.vs.toArray) (u := S.u) (ws := (ps.map fun p => Value.ref p.q).toArray) (u' := S.u')).frame (rest := ps.map Pl.ent) ?_).mono ?_
  · intro p hp q hq e
    obtain ⟨x, hx, rfl⟩ := List.mem_map.mp hp
    have h1 := O.o1; have h2 := O.o2; have h3 := O.o3; have h4 := O.o4
    have h5 := O.asc.low x hx
    have e' : @Eq Nat q.1 x.q := e
    simp only [spL, List.mem_cons, List.not_mem_nil, or_false] at hq
    rcases hq with rfl | rfl | rfl | rfl | rfl <;> (dsimp only at e'; omega)
  · rintro _ r _ ⟨l', ⟨rfl, t, rfl⟩, rfl⟩
    exact ⟨t, rfl, rfl⟩
theorem waiting_S1 {S : Sp} {p : Pl} (O : Ok S [p]) {x : Str} (hx : txs S [p] = [codes x]) : Ctr w mean mg mb 4 168 [.ref S.sp] (stL S [p]) (fun hp r led' => ∃ D u y, r = .ref D ∧ hp.get? D = none ∧ led' = stL S [p] ++ [(D, W.listOf #[.str x y] u)]) := by
  obtain ⟨d1, d2, d3⟩ := O.desc
  have hn := O.hn
  have kf := O.kf
  simp only [Desc] at d3
  refine (waiting1_c w mean mg mb O.hi O.hn O.hz (fun y hy => O.hr y hy) O.o1 O.o2 O.o3 O.o4 (by omega) (by omega) (by omega) O.asc.1).mono ?_
  rintro _ r _ ⟨D, u, y, rfl, h, rfl⟩
  have e : txt (sl S.ns p.a p.l) = x := by rw [← txt_codes x]; exact congrArg txt (List.cons.inj hx).1
  rw [e]
  exact ⟨D, u, y, rfl, h, rfl⟩
theorem waiting_S2 {S : Sp} {p q : Pl} (O : Ok S [p, q]) {x y : Str} (hx : txs S [p, q] = [codes x, codes y]) : Ctr w mean mg mb 4 168 [.ref S.sp] (stL S [p, q]) (fun hp r led' => ∃ D u z1 z2, r = .ref D ∧ hp.get? D = none ∧ led' = stL S [p, q] ++ [(D, W.listOf #[.str x z1, .str y z2] u)]) := by
  obtain ⟨d1, d2, d3, d4, d5⟩ := O.desc
  have hn := O.hn
  have kf := O.kf
  simp only [Desc] at d5
  refine (waiting2_c w mean mg mb O.hi O.hn O.hz (fun y hy => O.hr y hy) O.o1 O.o2 O.o3 O.o4 (by omega) (by omega) (by omega) (by omega) (by omega) (by omega) O.asc.1 O.asc.2.1).mono ?_
  rintro _ r _ ⟨D, u, z1, z2, rfl, h, rfl⟩
  have e := List.cons.inj hx
  have e1 : txt (sl S.ns p.a p.l) = x := by rw [← txt_codes x]; exact congrArg txt e.1
  have e2 : txt (sl S.ns q.a q.l) = y := by rw [← txt_codes y]; exact congrArg txt (List.cons.inj e.2).1
  rw [e1, e2]
  exact ⟨D, u, z1, z2, rfl, h, rfl⟩
theorem sound_S1 {S : Sp} {p : Pl} (O : Ok S [p]) (hn : S.n ≤ 1000) : Ctr w mean mg mb 4 132 [.ref S.sp] (stL S [p]) (fun _ r led' => r = .bool true ∧ led' = stL S [p]) := by
  obtain ⟨d1, d2, d3⟩ := O.desc
  exact sound1_c w mean mg mb O.o1 O.o2 O.o3 O.o4 O.lo d1 d2 d3 O.kf hn O.asc.1
theorem sound_S2 {S : Sp} {p q : Pl} (O : Ok S [p, q]) (hn : S.n ≤ 1000) : Ctr w mean mg mb 4 132 [.ref S.sp] (stL S [p, q]) (fun _ r led' => r = .bool true ∧ led' = stL S [p, q]) := by
  obtain ⟨d1, d2, d3, d4, d5⟩ := O.desc
  exact sound2_c w mean mg mb O.o1 O.o2 O.o3 O.o4 O.lo d1 d3 d2 d4 d5 O.kf hn O.asc.1 O.asc.2.1
theorem collect_S1 {S : Sp} {p : Pl} (O : Ok S [p]) (hc : S.c ≤ 1000) : Ctr w mean mg mb 4 99 [.ref S.sp] (stL S [p]) (fun _ r led' => ∃ S' p' z, led' = stL S' [p'] ∧ r = .int (S.n - p.l - S.fr) z ∧ SameS S S' ∧ Ok S' [p'] ∧ txs S' [p'] = txs S [p] ∧ S'.fr = S.n - p.l) := by
  obtain ⟨d1, d2, d3⟩ := O.desc
  have hn := O.hn
  have hz := O.hz
  have kf := O.kf
  simp only [Desc] at d3
  refine (collect1_c w mean mg mb O.hi O.hn O.hz O.o1 O.o2 O.o3 O.o4 O.lo O.kc hc O.kf (by omega) d1 d2 (by omega) O.asc.1).mono ?_
  rintro _ r _ ⟨vs', ns', x, y, z, x1, rfl, rfl, hi', hl', ss1, PP⟩
  refine ⟨{ S with fr := S.n - p.l, c := S.c + 1, t3 := x, t5 := y, vs := vs', ns := ns' }, ⟨p.q, S.n - p.l, p.l, x1, p.r, p.u⟩, z, rfl, rfl, ⟨rfl, rfl, rfl⟩, ⟨hi', by simp only; omega, by simp only; omega, O.o1, O.o2, O.o3, O.o4, O.lo, by simp only; have := O.kc; omega, by simp only; omega, ⟨d1, by simp only; omega, Int.le_refl _⟩, ⟨O.asc.1, trivial⟩, by simp, ?_⟩, ?_, rfl⟩
  · exact PP _ O.hr
  · simp only [txs, List.map_cons, List.map_nil, ss1]
end

/-- the names of the law's frame -/
abbrev lawM (sp way size taken ways whole texts script : Option Value) : Str → Option Value := fun y =>
  if y = Str.ofString "space" then sp else if y = Str.ofString "way" then way else if y = Str.ofString "size" then size else if y = Str.ofString "taken" then taken else if y = Str.ofString "ways" then ways
  else if y = Str.ofString "whole" then whole else if y = Str.ofString "texts" then texts else if y = Str.ofString "script" then script else none
/-- what stands of the space behind a way -/
structure Done (ts : List Str) (whole : Str) (size : Int) (W : Way) (tk : Addr) (S : Sp) (p : Pl) : Prop where
  ok : Ok S [p]
  c : S.c = 0
  n : S.n = 5 * size
  fr : S.fr = 5 * size - W.sgn ts
  tx : txs S [p] = [KStt.codes whole]
  lo : @LT.lt Nat _ tk S.dx
section
variable (w : World) (mean : ExcName → Option Value) (mg mb : Str → Option Value)
open KStt
local macro_rules | `(tactic| walk_at "call ref") => `(tactic| (k_here; refine halt ?_))
local macro_rules | `(tactic| walk_at "call builtin:list.append") => `(tactic| (k_here; refine halt ?_))
theorem law_loop {st : Stmt} {h₀ : Heap} {L f : Addr} {cd : Value} {s : Shared} {Q : Flow → Shared → Prop} {E : Value → Shared → Prop}
    {ts : List Str} {whole : Str} {size : Int} {tkA wa ta : Addr} {tz tw : Tok} {u0 uw ut : Nat} {wv tv : List Value} {Ws : List Way} {sv : Option Value} {rest : List (Addr × Obj)}
    (hst : lawRec.body[4]? = some st) (B : Below callerA h₀ [] h₀) (F : Fr h₀ L s.heap (lawM (some .none) none (some (.int size tz)) (some (.ref tkA)) (some (.ref wa)) (some (.str whole tw)) (some (.ref ta)) sv)) (X : (Mine.hd.heap_39 w.params).In h₀)
    (N : News h₀ L s.heap ((tkA, W.listOf #[] u0) :: rest)) (T : Top Mine.hd.view_39 (looseW Mine.hd.view_39 [Str.ofString "BasicError"]) mean mg mb h₀) (hE : PassesOwn (model PySem.Challenge.rw_xm0013_01.row.prog w) (callerA.deeper (envOfC lawRec.name lawRec.scope L f cd)) (envOfC lawRec.name lawRec.scope L f cd) E)
    (hlo : ∀ p ∈ rest, @LT.lt Nat _ p.1 tkA) (hta : (ta, W.listOf tv.toArray ut) ∈ rest) (hwa : (wa, W.listOf wv.toArray uw) ∈ rest) (tok : TsOk ts) (h4 : ts.length ≤ 4) (htl : tv.length = ts.length) (htv : ∀ (i : Nat) (x : Str), ts[i]? = some x → ∃ t, tv[i]? = some (.str x t))
    (hwl : wv.length = Ws.length) (hw : ∀ (i : Nat) (V : Way) (v : Value), Ws[i]? = some V → wv[i]? = some v → WayIn rest V v ∧ V.ok ts ∧ V.lvs ≤ 4 ∧ 2 ≤ V.lvs ∧ V.txt ts = codes whole ∧ V.sgn ts ≤ 5 * size ∧ V.need ts ≤ 5 * size) (hsz : size = whole.length) (hs1 : 1 ≤ size) (hs2 : size ≤ 12) (hpos : 0 < Ws.length) (hasc : whole.cps.all (· < 128) = true) (hlen : Ws.length ≤ 5)
    (hret : ∀ S p way h' tkA' ks u' V, Fr h₀ L h' (lawM (some (.ref S.sp)) way (some (.int size tz)) (some (.ref tkA)) (some (.ref wa)) (some (.str whole tw)) (some (.ref ta)) sv) → News h₀ L h' (stL S [p] ++ (tkA, W.listOf (List.toArray ks) u') :: rest) → IntsAre ks (Ws.map fun W => W.sgn ts) → Ws[Ws.length - 1]? = some V → Done ts whole size V tkA S p → Q .next { s with heap := h', toks := tkA' }) :
    wpAny (model PySem.Challenge.rw_xm0013_01.row.prog w) (callerA.deeper (envOfC lawRec.name lawRec.scope L f cd)) (exec st (envOfC lawRec.name lawRec.scope L f cd)) Q E s := by
  revert X
  k_fill
  intro X
  dsimp only [lawRec, recOf] at hst hE ⊢
  simp only [List.getElem?_cons_succ, List.getElem?_cons_zero, Option.some.injEq] at hst
  subst hst
  with_unfolding_all refine' For_turns F ?_ (hE := hE)
  k_steps
  with_unfolding_all refine iter_listTurns (lo := W.listOf wv.toArray uw) (vs := wv) (by rfl) F N (List.mem_cons_of_mem _ hwa) (by rfl) (by rfl) ?_
  intro I l1
  refine items_ind0 (fun i m news => ∃ vs vw ks u', m = lawM vs vw (some (.int size tz)) (some (.ref tkA)) (some (.ref wa)) (some (.str whole tw)) (some (.ref ta)) sv ∧ IntsAre ks ((Ws.take i).map fun V => V.sgn ts) ∧
    ((i = 0 ∧ news = (tkA, W.listOf (List.toArray ks) u') :: rest) ∨ ∃ S p V, vs = some (.ref S.sp) ∧ news = stL S [p] ++ (tkA, W.listOf (List.toArray ks) u') :: rest ∧ 0 < i ∧ Ws[i - 1]? = some V ∧ Done ts whole size V tkA S p)) ⟨_, _, [], u0, rfl, .nil, .inl ⟨rfl, rfl⟩⟩ ?_ ?_
  · rintro i a m news ha ⟨vs, vw, ks, u', rfl, hks, hnews⟩ v h t1 hv Fx
    rw [List.getElem?_map] at ha
    obtain ⟨v', hv', rfl⟩ := Option.map_eq_some_iff.mp ha
    have hlt : i < Ws.length := by have := (List.getElem?_eq_some_iff.mp hv').1; omega
    obtain ⟨V, hV⟩ : ∃ V, Ws[i]? = some V := ⟨_, List.getElem?_eq_getElem hlt⟩
    obtain ⟨w1, w2, w3, w4, w5, w6, w7⟩ := hw i V v' hV hv'
    obtain rfl : v = v' := hv
    clear hret hw F N
    ktu_objs
    rename News _ _ _ _ => Nx
    rename_i oI hcI
    replace Fx : Fr h₀ L h (lawM vs vw (some (.int size tz)) (some (.ref tkA)) (some (.ref wa)) (some (.str whole tw)) (some (.ref ta)) sv) := Fx
    have N1 : News h₀ L h ((tkA, W.listOf (List.toArray ks) u') :: (I, oI) :: rest) := by
      refine news_sub Nx fun p hp => ?_
      rcases List.mem_cons.mp hp with rfl | hp
      · rcases hnews with ⟨_, rfl⟩ | ⟨S, q, V', _, rfl, _⟩
        · exact .tail _ (.head _)
        · exact .tail _ (List.mem_append_right _ (.head _))
      rcases List.mem_cons.mp hp with rfl | hp
      · exact .head _
      · rcases hnews with ⟨_, rfl⟩ | ⟨S, q, V', _, rfl, _⟩
        · exact .tail _ (.tail _ hp)
        · exact .tail _ (List.mem_append_right _ (.tail _ hp))
    have hkt : @LT.lt Nat _ tkA I := l1 _ (.head _)
    clear Nx hnews
    k_steps
    unfold Halt
    refine' use (space_c w mean mg mb (n := 5 * size) ?n1 ?n2) ?B1 ?F1 ?X1 ?N1 ?T1 ?K1 ?d1 ?u1 (fun _ h => nomatch h) (Rest.tail fun _ _ _ h => nomatch h) ?_; (case B1 => k_asm); (case F1 => k_asm); (case X1 => k_asm); (case N1 => k_asm); (case T1 => k_asm); (case K1 => first | exact rfl | assumption); (case d1 => ktr_room); (case u1 => ktr_units); (case n1 => omega); (case n2 => omega)
    intro r9 led9 h9 tk9 F9 N9 P9 M9
    obtain ⟨S, e9, f9, O, hn, hfr, hc, hdx⟩ := P9
    subst e9 f9
    have hlo2 : ∀ p ∈ (tkA, W.listOf (List.toArray ks) u') :: (I, oI) :: rest, @LT.lt Nat _ p.1 S.dx := fun p hp => Nat.lt_of_lt_of_le (Heap.lt_size (M9 p hp).1) hdx
    clear M9
    k_steps
    unfold Halt
    rename News _ _ _ _ => N10
    obtain ⟨G, hG, hT, hWy⟩ := join_ground (ps := []) N10 O hlo2 (w1.sub fun p hp => .tail _ (.tail _ hp)) (.tail _ (.tail _ hta)) htl htv
    have hdd := V.dd_le w3
    refine' useG (way_j w mean mg mb tok h4 hT V w2 hWy O ?l1 ?l2 ?l3) ?B2 ?F2 ?X2 ?N2 ?T2 ?K2 ?d2 ?u2 hG (fun p hp => List.mem_append_left _ hp) (Rest.pre (O.apart hlo2) _ fun _ h => h) ?_; (case B2 => k_asm); (case F2 => k_asm); (case X2 => k_asm); (case N2 => k_asm); (case T2 => k_asm); (case K2 => first | exact rfl | assumption)
    case l1 => simp only [List.length_nil]; omega
    case l2 => have l0 : live [] = 0 := rfl; omega
    case l3 => omega
    case d2 => exact Nat.lt_of_le_of_lt (Nat.add_le_add_left hdd _) (by decide)
    case u2 => exact Nat.lt_of_le_of_lt (Nat.add_le_add_left (Nat.mul_le_mul_left 8 hdd) _) (by decide)
    intro r9 led9 h9 tk9 F9 N9 P9
    obtain ⟨e9, S', ps', f9, j1, j2, j3, j4, j5, j6, j7, j8⟩ := P9
    subst e9 f9
    obtain ⟨p, rfl⟩ : ∃ p, ps' = [p] := by
      rcases ps' with _ | ⟨p, _ | ⟨q, r⟩⟩ <;> simp only [List.length_nil, List.length_cons] at j3
      · omega
      · exact ⟨p, rfl⟩
      · omega
    obtain ⟨c1, c2⟩ := j6 (by omega)
    rw [← j1.sp] at F9
    have hlo3 : ∀ p ∈ (tkA, W.listOf (List.toArray ks) u') :: (I, oI) :: rest, @LT.lt Nat _ p.1 S'.dx := j1.dx ▸ hlo2
    rw [w5] at j4
    clear N10 hG hT hWy O hlo2
    k_steps
    unfold Halt
    refine' use (free_S w mean mg mb j2) ?B3 ?F3 ?X3 ?N3 ?T3 ?K3 ?d3 ?u3 (fun p hp => List.mem_append_left _ hp) (Rest.pre (j2.apart hlo3) _ fun _ h => h) ?_; (case B3 => k_asm); (case F3 => k_asm); (case X3 => k_asm); (case N3 => k_asm); (case T3 => k_asm); (case K3 => first | exact rfl | assumption); (case d3 => ktr_room); (case u3 => ktr_units)
    intro r9 led9 h9 tk9 F9 N9 P9 M9
    obtain ⟨t9, e9, f9⟩ := P9
    subst e9 f9
    clear M9
    replace N9 := news_sub N9 swap_in
    k_steps
    unfold Halt
    have es : 5 * size - S'.fr = V.sgn ts := by omega
    rw [es]
    have hkl : ks.length = i := by rw [hks.length, List.length_map, List.length_take]; omega
    refine append_K (its := List.toArray ks) F9 N9 (Upd.head ?_) ?_ (by rw [sizeLine_eq, List.size_toArray]; omega)
    · intro x hx e
      have e' : @Eq Nat x.1 tkA := e
      have hd3 : @LT.lt Nat _ tkA S'.dx := hlo3 _ (.head _)
      rcases List.mem_append.mp hx with hx | hx
      · have := j2.low x hx
        omega
      rcases List.mem_cons.mp hx with rfl | hx
      · dsimp only at e'; omega
      · have := hlo x hx
        omega
    intro h10 F10 N10
    rw [List.push_toArray] at N10
    replace N10 := news_sub N10 swap_out
    have hlo4 : ∀ p ∈ (tkA, W.listOf (List.toArray (ks ++ [Value.int (V.sgn ts) tk9])) (u' + 1)) :: (I, oI) :: rest, @LT.lt Nat _ p.1 S'.dx := fun x hx => by
      rcases List.mem_cons.mp hx with rfl | hx
      · have := hlo3 _ (.head _); exact this
      · exact hlo3 _ (.tail _ hx)
    clear F9 N9 hlo3
    k_steps
    unfold Halt
    refine' use (waiting_S1 w mean mg mb j2 (x := whole) j4) ?B4 ?F4 ?X4 ?N4 ?T4 ?K4 ?d4 ?u4 (fun p hp => List.mem_append_left _ hp) (Rest.pre (j2.apart hlo4) _ fun _ h => h) ?_; (case B4 => k_asm); (case F4 => k_asm); (case X4 => k_asm); (case N4 => k_asm); (case T4 => k_asm); (case K4 => first | exact rfl | assumption); (case d4 => ktr_room); (case u4 => ktr_units)
    intro r9 led9 h9 tk9' F9 N9 P9 M9
    obtain ⟨D, uD, yD, e9, oD, f9⟩ := P9
    subst e9 f9
    clear M9
    replace N9 := news_sub N9 swap_two
    k_steps
    rename News _ _ _ _ => N11
    refine ne_strs (x := whole) hasc ⟨_, (N11 _ (.tail _ (.head _))).1, rfl, _, rfl⟩ ⟨_, (N11 _ (.head _)).1, rfl, _, rfl⟩ (by ke_room) ?_
    k_steps
    unfold Halt
    have hsd := V.sd_le w3
    obtain ⟨G2, hG2, hT2, hWy2⟩ := sign_ground N11 (w1.sub fun p hp => .tail _ (.tail _ (.tail _ (List.mem_append_right _ (.tail _ hp))))) (.tail _ (.tail _ (.tail _ (List.mem_append_right _ (.tail _ hta))))) htl htv
    refine' useH (way_s w mean mg mb tok h4 hT2 V w2 w3 hWy2) ?B5 ?F5 ?X5 ?N5 ?T5 ?K5 ?d5 ?u5 hG2 (fun _ h => nomatch h) (Rest.tail fun _ _ _ h => nomatch h) ?_; (case B5 => k_asm); (case F5 => k_asm); (case X5 => k_asm); (case N5 => exact N11); (case T5 => k_asm); (case K5 => first | exact rfl | assumption)
    case d5 => exact Nat.lt_of_le_of_lt (Nat.add_le_add_left hsd _) (by decide)
    case u5 => exact Nat.lt_of_le_of_lt (Nat.add_le_add_left (Nat.mul_le_mul_left 8 hsd) _) (by decide)
    intro r9 led9 h9 tk9'' F9 N9 k9 P9 M9
    obtain ⟨D2, z1, z2, e9, f9, o2⟩ := P9
    subst e9 f9
    clear M9 k9 N11 hG2 hT2 hWy2
    replace N9 : News h₀ L h9 ((D2, tup2 (.int (V.len ts) z1) (.int (V.sgn ts) z2)) :: (tkA, W.listOf (List.toArray (ks ++ [Value.int (V.sgn ts) tk9])) (u' + 1)) :: (stL S' [p] ++ (I, oI) :: rest)) := news_sub N9 fun x hx => by
      rcases List.mem_cons.mp hx with rfl | hx
      · exact .head _
      · exact .tail _ (.tail _ (.tail _ hx))
    k_steps
    all_goals try (exfalso; first | contradiction | omega)
    refine ⟨h9, _, lawM (some (.ref S'.sp)) (some v) (some (.int size tz)) (some (.ref tkA)) (some (.ref wa)) (some (.str whole tw)) (some (.ref ta)) sv, stL S' [p] ++ (tkA, W.listOf (List.toArray (ks ++ [Value.int (V.sgn ts) tk9])) (u' + 1)) :: rest, rfl, ?_, ?_, ?_, ⟨List.mem_append_right _ (.tail _ hwa), trivial⟩, _, _, _, _, rfl, ?_, .inr ⟨S', p, V, rfl, rfl, Nat.succ_pos i, by simpa using hV, ⟨j2, by omega, by rw [j1.n]; exact hn, by omega, by rw [j4]; rfl, hlo4 _ (.head _)⟩⟩⟩
    · refine Eq.mp (congrArg (Fr h₀ L h9) (funext fun y => ?_)) F9
      dsimp only [lawM]
      by_cases h1 : y = Str.ofString "space"
      · simp only [if_pos h1]
      · by_cases h2 : y = Str.ofString "way"
        · simp only [if_neg h1, if_pos h2]
        · simp only [if_neg h1, if_neg h2]
    · refine news_sub N9 fun x hx => ?_
      rcases List.mem_append.mp hx with hx | hx
      · rw [List.mem_singleton.mp hx]; exact .tail _ (.tail _ (List.mem_append_right _ (.head _)))
      rcases List.mem_append.mp hx with hx | hx
      · exact .tail _ (.tail _ (List.mem_append_left _ hx))
      rcases List.mem_cons.mp hx with rfl | hx
      · exact .tail _ (.head _)
      · exact .tail _ (.tail _ (List.mem_append_right _ (.tail _ hx)))
    · intro x hx q hq e
      rw [List.mem_singleton.mp hq] at e
      have e' : @Eq Nat x.1 I := e
      have hd4 : @LT.lt Nat _ I S'.dx := hlo4 _ (.tail _ (.head _))
      rcases List.mem_append.mp hx with hx | hx
      · have := j2.low x hx
        omega
      rcases List.mem_cons.mp hx with rfl | hx
      · dsimp only at e'; omega
      · have := hlo x hx
        omega
    · rw [List.take_add_one, hV]
      simp only [List.map_append, Option.toList_some, List.map_cons, List.map_nil]
      exact IntsAre.append hks (IntsAre.cons _ _ IntsAre.nil)
  · rintro m news ⟨vs, vw, ks, u', rfl, hks, hn⟩ h t1 Fx Nx
    simp only [List.length_map] at hks hn
    rw [hwl] at hks hn
    rcases hn with ⟨h0, _⟩ | ⟨S, p, V, rfl, rfl, _, hV, hD⟩
    · omega
    · rw [List.take_length] at hks
      exact hret S p vw h t1 ks u' V Fx Nx hks hV hD
end

theorem AllNe.mem {D : Addr} : ∀ (l : List (Addr × Obj)), AllNe D l → ∀ p ∈ l, p.1 ≠ D := by
  intro l
  induction l with
  | nil => exact fun _ p hp => (List.not_mem_nil hp).elim
  | cons a r ih =>
    intro h p hp
    have h1 : NeN a.1 D ∧ AllNe D r := h
    rcases List.mem_cons.mp hp with e | hp
    · rw [e]; exact h1.1
    · exact ih h1.2 p hp
theorem AllNe.tail {D : Addr} {o : Obj} {l : List (Addr × Obj)} (h : AllNe D l) : ∀ p ∈ l, ∀ q ∈ [(D, o)], q.1 ≠ p.1 := fun p hp q hq e => AllNe.mem l h p hp (by rw [List.mem_singleton.mp hq] at e; exact e.symm)
section
variable (w : World) (mean : ExcName → Option Value) (mg mb : Str → Option Value)
open KStt
local macro_rules | `(tactic| walk_at "call ref") => `(tactic| (k_here; refine halt ?_))
local macro_rules | `(tactic| walk_at "CompSrc") => `(tactic| (k_here; k_dflt (refine LCg.CompSrc.ledger (by rfl) (by k_asm) (by k_asm) (by k_mem) (by first | size_fits | exact Nat.le_of_ble_eq_true rfl) ?_; intro g')))
local macro_rules | `(tactic| walk_at "REST") => `(tactic| first
  | exact Rest.nil
  | exact Rest.tail (AllNe.tail (by assumption))
  | (refine' Rest.drop ?ra ?rb; (case ra => k_mem); (case rb => walk_at "REST"))
  | (refine' Rest.keep ?ra ?rb; (case ra => k_all); (case rb => walk_at "REST")))
theorem law_min3 {st : Stmt} {h₀ : Heap} {L f : Addr} {cd : Value} {s : Shared} {Q : Flow → Shared → Prop} {E : Value → Shared → Prop} {sv sp way size ways whole : Option Value} {tkA ta : Addr} {u ut : Nat} {x0 x1 x2 : Str} {tx0 tx1 tx2 za0 za1 : Tok} {a0 a1 : Int} {R : List (Addr × Obj)}
    (hst : lawRec.body[5]? = some st) (B : Below callerA h₀ [] h₀) (F : Fr h₀ L s.heap (lawM sp way size (some (.ref tkA)) ways whole (some (.ref ta)) sv)) (X : (Mine.hd.heap_39 w.params).In h₀)
    (N : News h₀ L s.heap ((tkA, W.listOf #[.int a0 za0, .int a1 za1] u) :: (ta, W.listOf #[.str x0 tx0, .str x1 tx1, .str x2 tx2] ut) :: R)) (T : Top Mine.hd.view_39 (looseW Mine.hd.view_39 [Str.ofString "BasicError"]) mean mg mb h₀)
    (hx0 : (x0.length : Int) ≤ 3) (hx1 : (x1.length : Int) ≤ 3) (hx2 : (x2.length : Int) ≤ 3) (hm : ∀ M : Int, least3 (x0.length : Int) (x1.length : Int) (x2.length : Int) = M → min a0 a1 = M)
    (hret : ∀ h' tk', Fr h₀ L h' (lawM sp way size (some (.ref tkA)) ways whole (some (.ref ta)) sv) → News h₀ L h' ((tkA, W.listOf #[.int a0 za0, .int a1 za1] u) :: (ta, W.listOf #[.str x0 tx0, .str x1 tx1, .str x2 tx2] ut) :: R) → Q .next { s with heap := h', toks := tk' }) :
    wpAny (model PySem.Challenge.rw_xm0013_01.row.prog w) (callerA.deeper (envOfC lawRec.name lawRec.scope L f cd)) (exec st (envOfC lawRec.name lawRec.scope L f cd)) Q E s := by
  revert X
  k_fill
  intro X
  dsimp only [lawRec, recOf] at hst ⊢
  simp only [List.getElem?_cons_succ, List.getElem?_cons_zero, Option.some.injEq] at hst
  subst hst
  k_steps
  unfold Halt
  refine' use (least3_c w mean mg mb (a := (x0.length : Int)) (b := (x1.length : Int)) (c := (x2.length : Int)) (ia := ?p0) (ja := ?q0) (ib := ?p1) (jb := ?q1) (ic := ?p2) (jc := ?q2)) ?B1 ?F1 ?X1 ?N1 ?T1 ?K1 ?d1 ?u1 ?s1 ?r1 ?_; (case B1 => k_asm); (case F1 => k_asm); (case X1 => k_asm); (case N1 => k_asm); (case T1 => k_asm); (case K1 => first | exact rfl | assumption); (case s1 => lcg_sub); (case r1 => walk_at "REST"); (case d1 => ktr_room); (case u1 => ktr_units); (case p0 => omega); (case q0 => omega); (case p1 => omega); (case q1 => omega); (case p2 => omega); (case q2 => omega)
  intro r9 led9 h9 tk9 F9 N9 P9 M9
  obtain ⟨⟨y1, e9⟩, f9⟩ := P9
  subst f9; clear M9
  generalize hM : least3 (x0.length : Int) (x1.length : Int) (x2.length : Int) = M at e9
  have hm2 := hm _ hM
  clear hM hm
  subst e9
  k_steps
  all_goals first
    | (exfalso; omega)
    | exact hret _ _ (by k_asm) (news_sub (by k_asm) fun x hx => .tail _ hx)

theorem law_min4 {st : Stmt} {h₀ : Heap} {L f : Addr} {cd : Value} {s : Shared} {Q : Flow → Shared → Prop} {E : Value → Shared → Prop} {sv sp way size ways whole : Option Value} {tkA ta : Addr} {u ut : Nat} {x0 x1 x2 x3 : Str} {tx0 tx1 tx2 tx3 za0 za1 za2 za3 za4 : Tok} {a0 a1 a2 a3 a4 : Int} {R : List (Addr × Obj)}
    (hst : lawRec.body[5]? = some st) (B : Below callerA h₀ [] h₀) (F : Fr h₀ L s.heap (lawM sp way size (some (.ref tkA)) ways whole (some (.ref ta)) sv)) (X : (Mine.hd.heap_39 w.params).In h₀)
    (N : News h₀ L s.heap ((tkA, W.listOf #[.int a0 za0, .int a1 za1, .int a2 za2, .int a3 za3, .int a4 za4] u) :: (ta, W.listOf #[.str x0 tx0, .str x1 tx1, .str x2 tx2, .str x3 tx3] ut) :: R)) (T : Top Mine.hd.view_39 (looseW Mine.hd.view_39 [Str.ofString "BasicError"]) mean mg mb h₀)
    (hx0 : (x0.length : Int) ≤ 3) (hx1 : (x1.length : Int) ≤ 3) (hx2 : (x2.length : Int) ≤ 3) (hx3 : (x3.length : Int) ≤ 3) (hm : ∀ M : Int, least4 (x0.length : Int) (x1.length : Int) (x2.length : Int) (x3.length : Int) = M → min (min (min (min a0 a1) a2) a3) a4 = M)
    (hret : ∀ h' tk', Fr h₀ L h' (lawM sp way size (some (.ref tkA)) ways whole (some (.ref ta)) sv) → News h₀ L h' ((tkA, W.listOf #[.int a0 za0, .int a1 za1, .int a2 za2, .int a3 za3, .int a4 za4] u) :: (ta, W.listOf #[.str x0 tx0, .str x1 tx1, .str x2 tx2, .str x3 tx3] ut) :: R) → Q .next { s with heap := h', toks := tk' }) :
    wpAny (model PySem.Challenge.rw_xm0013_01.row.prog w) (callerA.deeper (envOfC lawRec.name lawRec.scope L f cd)) (exec st (envOfC lawRec.name lawRec.scope L f cd)) Q E s := by
  revert X
  k_fill
  intro X
  dsimp only [lawRec, recOf] at hst ⊢
  simp only [List.getElem?_cons_succ, List.getElem?_cons_zero, Option.some.injEq] at hst
  subst hst
  k_steps
  unfold Halt
  refine' use (least4_c w mean mg mb (a := (x0.length : Int)) (b := (x1.length : Int)) (c := (x2.length : Int)) (d := (x3.length : Int)) (ia := ?p0) (ja := ?q0) (ib := ?p1) (jb := ?q1) (ic := ?p2) (jc := ?q2) (id := ?p3) (jd := ?q3)) ?B1 ?F1 ?X1 ?N1 ?T1 ?K1 ?d1 ?u1 ?s1 ?r1 ?_; (case B1 => k_asm); (case F1 => k_asm); (case X1 => k_asm); (case N1 => k_asm); (case T1 => k_asm); (case K1 => first | exact rfl | assumption); (case s1 => lcg_sub); (case r1 => walk_at "REST"); (case d1 => ktr_room); (case u1 => ktr_units); (case p0 => omega); (case q0 => omega); (case p1 => omega); (case q1 => omega); (case p2 => omega); (case q2 => omega); (case p3 => omega); (case q3 => omega)
  intro r9 led9 h9 tk9 F9 N9 P9 M9
  obtain ⟨⟨y1, e9⟩, f9⟩ := P9
  subst f9; clear M9
  generalize hM : least4 (x0.length : Int) (x1.length : Int) (x2.length : Int) (x3.length : Int) = M at e9
  have hm2 := hm _ hM
  clear hM hm
  subst e9
  k_steps
  all_goals first
    | (exfalso; omega)
    | exact hret _ _ (by k_asm) (news_sub (by k_asm) fun x hx => .tail _ hx)

end

theorem ints_last {ks : List Value} {ms : List Int} (h : IntsAre ks ms) : ∀ {x : Int}, ms.getLast? = some x → ∃ ks' z, ks = ks' ++ [Value.int x z] := by
  induction h with
  | nil => intro x hx; simp at hx
  | cons n t r ih =>
    rename_i vs ns
    intro x hx
    rcases ns with _ | ⟨m, ns⟩
    · cases r
      simp only [List.getLast?_singleton, Option.some.injEq] at hx
      subst hx
      exact ⟨[], t, rfl⟩
    · rw [List.getLast?_cons_cons] at hx
      obtain ⟨k', z, e⟩ := ih hx
      exact ⟨_ :: k', z, by rw [e]; rfl⟩
section
variable (w : World) (mean : ExcName → Option Value) (mg mb : Str → Option Value)
open KStt
local macro_rules | `(tactic| walk_at "call ref") => `(tactic| (k_here; refine halt ?_))
/-- the second `if`: a collection gives back all but the text's own signs -/
theorem law_coll {st : Stmt} {h₀ : Heap} {L f : Addr} {cd : Value} {s : Shared} {Q : Flow → Shared → Prop} {E : Value → Shared → Prop} {ts : List Str} {whole : Str} {size : Int} {tkA : Addr} {tz tw : Tok} {u : Nat} {way ways texts sv : Option Value} {ks : List Value} {ms : List Int} {V : Way} {S : Sp} {p : Pl} {rest : List (Addr × Obj)}
    (hst : lawRec.body[6]? = some st) (B : Below callerA h₀ [] h₀) (F : Fr h₀ L s.heap (lawM (some (.ref S.sp)) way (some (.int size tz)) (some (.ref tkA)) ways (some (.str whole tw)) texts sv)) (X : (Mine.hd.heap_39 w.params).In h₀)
    (N : News h₀ L s.heap (stL S [p] ++ (tkA, W.listOf (List.toArray ks) u) :: rest)) (T : Top Mine.hd.view_39 (looseW Mine.hd.view_39 [Str.ofString "BasicError"]) mean mg mb h₀)
    (hlo : ∀ p ∈ rest, @LT.lt Nat _ p.1 tkA) (hks : IntsAre ks ms) (hms : ms.getLast? = some (V.sgn ts)) (hml : ms.length ≤ 5) (hD : Done ts whole size V tkA S p) (hsz : size = whole.length) (hs1 : 1 ≤ size) (hs2 : size ≤ 12) (hasc : whole.cps.all (· < 128) = true) (hV : 0 ≤ V.sgn ts) (hV2 : V.sgn ts ≤ 5 * size)
    (hret : ∀ h' tk', Fr h₀ L h' (lawM (some (.ref S.sp)) way (some (.int size tz)) (some (.ref tkA)) ways (some (.str whole tw)) texts sv) → News h₀ L h' rest → Q .next { s with heap := h', toks := tk' }) :
    wpAny (model PySem.Challenge.rw_xm0013_01.row.prog w) (callerA.deeper (envOfC lawRec.name lawRec.scope L f cd)) (exec st (envOfC lawRec.name lawRec.scope L f cd)) Q E s := by
  revert X
  k_fill
  intro X
  dsimp only [lawRec, recOf] at hst ⊢
  simp only [List.getElem?_cons_succ, List.getElem?_cons_zero, Option.some.injEq] at hst
  subst hst
  obtain ⟨ks', zl, rfl⟩ := ints_last hks hms
  have hlo2 : ∀ p ∈ (tkA, W.listOf (List.toArray (ks' ++ [Value.int (V.sgn ts) zl])) u) :: rest, @LT.lt Nat _ p.1 S.dx := fun x hx => by
    have h1 : @LT.lt Nat _ tkA S.dx := hD.lo
    rcases List.mem_cons.mp hx with rfl | hx
    · exact h1
    · exact Nat.lt_trans (hlo x hx) h1
  have hkl : ks'.length ≤ 4 := by
    have := hks.length
    simp only [List.length_append, List.length_cons, List.length_nil] at this
    omega
  have hfr := hD.fr
  have hnn := hD.n
  have hcc := hD.c
  have hpl : p.l = size := by
    have := hD.ok.len p (.head _)
    have e : sl S.ns p.a p.l = codes whole := (List.cons.inj hD.tx).1
    rw [e] at this
    rw [← this, hsz, codes_length]
  k_steps
  unfold Halt
  refine' use (collect_S1 w mean mg mb hD.ok ?hc) ?B1 ?F1 ?X1 ?N1 ?T1 ?K1 ?d1 ?u1 (fun p hp => List.mem_append_left _ hp) (Rest.pre (hD.ok.apart hlo2) _ fun _ h => h) ?_; (case B1 => k_asm); (case F1 => k_asm); (case X1 => k_asm); (case N1 => k_asm); (case T1 => k_asm); (case K1 => first | exact rfl | assumption); (case d1 => ktr_room); (case u1 => ktr_units); (case hc => omega)
  intro r9 led9 h9 tk9 F9 N9 P9 M9
  obtain ⟨S', p', z, f9, e9, j1, j2, j3, j4⟩ := P9
  subst e9 f9
  clear M9
  rw [← j1.sp] at F9
  replace N9 := news_sub N9 swap_in
  have hlo3 : ∀ p ∈ (tkA, W.listOf (List.toArray (ks' ++ [Value.int (V.sgn ts) zl])) u) :: rest, @LT.lt Nat _ p.1 S'.dx := j1.dx ▸ hlo2
  k_steps
  refine item_last (vi := ks') (v := Value.int (V.sgn ts) zl) ⟨_, (N9 _ (.head _)).1, rfl, _, rfl⟩ ?_
  replace N9 := news_sub N9 swap_out
  k_steps
  · exfalso; omega
  unfold Halt
  refine' use (free_S w mean mg mb j2) ?B3 ?F3 ?X3 ?N3 ?T3 ?K3 ?d3 ?u3 (fun p hp => List.mem_append_left _ hp) (Rest.pre (j2.apart hlo3) _ fun _ h => h) ?_; (case B3 => k_asm); (case F3 => k_asm); (case X3 => k_asm); (case N3 => k_asm); (case T3 => k_asm); (case K3 => first | exact rfl | assumption); (case d3 => ktr_room); (case u3 => ktr_units)
  intro r9 led9 h9' tk9' F9' N9' P9 M9
  obtain ⟨t9, e9, f9⟩ := P9
  subst e9 f9
  clear M9 F9 N9
  k_steps
  · exfalso; omega
  unfold Halt
  refine' use (waiting_S1 w mean mg mb j2 (x := whole) (j3.trans hD.tx)) ?B4 ?F4 ?X4 ?N4 ?T4 ?K4 ?d4 ?u4 (fun p hp => List.mem_append_left _ hp) (Rest.pre (j2.apart hlo3) _ fun _ h => h) ?_; (case B4 => k_asm); (case F4 => k_asm); (case X4 => k_asm); (case N4 => k_asm); (case T4 => k_asm); (case K4 => first | exact rfl | assumption); (case d4 => ktr_room); (case u4 => ktr_units)
  intro r9 led9 h9 tk9'' F9 N9 P9 M9
  obtain ⟨D, uD, yD, e9, oD, f9⟩ := P9
  subst e9 f9
  clear M9
  replace N9 := news_sub N9 swap_two
  k_steps
  rename News _ _ _ _ => N11
  refine ne_strs (x := whole) hasc ⟨_, (N11 _ (.tail _ (.head _))).1, rfl, _, rfl⟩ ⟨_, (N11 _ (.head _)).1, rfl, _, rfl⟩ (by ke_room) ?_
  k_steps
  rename Fr _ _ _ _ => F11
  rw [j1.sp] at F11
  exact hret _ _ F11 (news_sub N11 fun x hx => .tail _ (.tail _ (.tail _ (List.mem_append_right _ hx))))
end

section
variable (w : World) (mean : ExcName → Option Value) (mg mb : Str → Option Value)
open KStt
local macro_rules | `(tactic| walk_at "call ref") => `(tactic| (k_here; refine halt ?_))
local macro_rules | `(tactic| walk_at "call builtin:len") => `(tactic| (k_here; refine halt ?_))
local macro_rules | `(tactic| walk_at "subscriptTail") => `(tactic| (k_here; refine halt ?_))
theorem lawM_two {h₀ h : Heap} {L : Addr} {a b sp way size taken ways whole texts script : Option Value} (F : Fr h₀ L h (fun y => if y = Str.ofString "way" then b else if y = Str.ofString "space" then a else lawM sp way size taken ways whole texts script y)) : Fr h₀ L h (lawM a b size taken ways whole texts script) := by
  refine Eq.mp (congrArg (Fr h₀ L h) (funext fun y => ?_)) F
  dsimp only [lawM]
  by_cases h1 : y = Str.ofString "space"
  · have h2 : ¬ y = Str.ofString "way" := by rw [h1]; decide
    simp only [if_pos h1, if_neg h2]
  · by_cases h2 : y = Str.ofString "way"
    · simp only [if_neg h1, if_pos h2]
    · simp only [if_neg h1, if_neg h2]
theorem lawM_one {h₀ h : Heap} {L : Addr} {a sp way size taken ways whole texts script : Option Value} (F : Fr h₀ L h (fun y => if y = Str.ofString "space" then a else lawM sp way size taken ways whole texts script y)) : Fr h₀ L h (lawM a way size taken ways whole texts script) := by
  refine Eq.mp (congrArg (Fr h₀ L h) (funext fun y => ?_)) F
  dsimp only [lawM]
  by_cases h1 : y = Str.ofString "space"
  · simp only [if_pos h1]
  · simp only [if_neg h1]
/-- `way, space = (ways[..], Space(2 * size, 4))` -/
theorem law_pick {st : Stmt} {h₀ : Heap} {L f : Addr} {cd : Value} {s : Shared} {Q : Flow → Shared → Prop} {E : Value → Shared → Prop} {whole : Str} {size : Int} {wa bag ls : Addr} {oc : Obj} {spot : Int} {tz tw tp : Tok} {uw ub ul : Nat} {sp way taken texts sv : Option Value} {wv vs : List Value} {ns : List Int} {fz : List (Addr × Obj)}
    (hst : lawRec.body[7]? = some st) (B : Below callerA h₀ [] h₀) (F : Fr h₀ L s.heap (lawM sp way (some (.int size tz)) taken (some (.ref wa)) (some (.str whole tw)) texts sv)) (X : (Mine.hd.heap_39 w.params).In h₀)
    (N : News h₀ L s.heap ((bag, W.listOf #[.ref ls, .int spot tp] ub) :: (ls, W.listOf vs.toArray ul) :: (L + 1, oc) :: (wa, W.listOf wv.toArray uw) :: fz)) (T : Top Mine.hd.view_39 (looseW Mine.hd.view_39 [Str.ofString "BasicError"]) mean mg mb h₀)
    (hoc : oc.data = Data.cell (some (.ref bag))) (hi : IntsAre vs ns) (hz : ns.length ≤ 100) (k0 : 0 ≤ spot) (k1 : spot ≤ 1000) (hbl : @Ne Nat bag ls) (o1 : ∀ p ∈ (L + 1, oc) :: fz, @Ne Nat p.1 bag ∧ @Ne Nat p.1 ls) (hwa : (wa, W.listOf wv.toArray uw) ∈ fz) (hwl : 0 < wv.length) (hwl2 : wv.length ≤ 5) (hs1 : 1 ≤ size) (hs2 : size ≤ 12)
    (hret : ∀ (S : Sp) (v : Value) (i : Nat) h' tk', wv[i]? = some v → Fr h₀ L h' (lawM (some (.ref S.sp)) (some v) (some (.int size tz)) taken (some (.ref wa)) (some (.str whole tw)) texts sv) → News h₀ L h' (stL S [] ++ fz) → Ok S [] → S.n = 2 * size → S.c = 0 → (∀ p ∈ fz, @LT.lt Nat _ p.1 S.dx) → Q .next { s with heap := h', toks := tk' }) :
    wpAny (model PySem.Challenge.rw_xm0013_01.row.prog w) (callerA.deeper (envOfC lawRec.name lawRec.scope L f cd)) (exec st (envOfC lawRec.name lawRec.scope L f cd)) Q E s := by
  revert X
  k_fill
  intro X
  dsimp only [lawRec, recOf] at hst ⊢
  simp only [List.getElem?_cons_succ, List.getElem?_cons_zero, Option.some.injEq] at hst
  subst hst
  k_steps
  unfold Halt
  refine KM.len_K (n := wv.length) N (.tail _ (.tail _ (.tail _ (.head _)))) (by simp) (by omega) ?_
  k_steps
  unfold Halt
  have ha : ∀ p ∈ (L + 1, oc) :: (wa, W.listOf wv.toArray uw) :: fz, ∀ q ∈ [(bag, W.listOf #[.ref ls, .int spot tp] ub), (ls, W.listOf vs.toArray ul)], q.1 ≠ p.1 := by
    intro p hp q hq e
    have e' : @Eq Nat q.1 p.1 := e
    have hq' : @Eq Nat q.1 bag ∨ @Eq Nat q.1 ls := by
      simp only [List.mem_cons, List.not_mem_nil, or_false] at hq
      rcases hq with rfl | rfl
      · exact .inl rfl
      · exact .inr rfl
    have hp' : @Ne Nat p.1 bag ∧ @Ne Nat p.1 ls := by
      rcases List.mem_cons.mp hp with rfl | hp
      · exact o1 _ (.head _)
      rcases List.mem_cons.mp hp with rfl | hp
      · exact o1 _ (.tail _ hwa)
      · exact o1 _ (.tail _ hp)
    omega
  refine' use (drawn_c w mean mg mb (n := (wv.length : Int)) hi hz k0 k1 ?hn1 ?hn2 ?hb) ?B1 ?F1 ?X1 ?N1 ?T1 ?K1 ?d1 ?u1 (fun p hp => List.mem_append_left _ hp) (Rest.pre ha _ fun _ h => h) ?_; (case B1 => k_asm); (case F1 => k_asm); (case X1 => k_asm); (case N1 => exact N); (case T1 => k_asm); (case K1 => first | exact rfl | assumption); (case d1 => ktr_room); (case u1 => ktr_units); (case hn1 => omega); (case hn2 => omega); (case hb => exact hbl)
  intro r9 led9 h9 tk9 F9 N9 P9 M9
  obtain ⟨x, y2, y3, e9, x0, x1, f9⟩ := P9
  subst e9 f9
  clear M9
  k_steps
  unfold Halt
  obtain ⟨v, hv⟩ : ∃ v, wv[x.toNat]? = some v := ⟨_, List.getElem?_eq_getElem (by omega)⟩
  refine item_listL (k := x) (x := v) ⟨_, (N9 _ (List.mem_append_right _ (.tail _ (.head _)))).1, rfl, _, rfl⟩ x0 (by omega) hv ?_ (by with_unfolding_all rfl) (by intro _; with_unfolding_all rfl)
  replace N9 : News h₀ L h9 fz := news_sub N9 fun x hx => List.mem_append_right _ (.tail _ (.tail _ hx))
  clear N F
  k_steps
  unfold Halt
  refine' use (space_c w mean mg mb (n := 2 * size) ?n1 ?n2) ?B2 ?F2 ?X2 ?N2 ?T2 ?K2 ?d2 ?u2 (fun _ h => nomatch h) (Rest.tail fun _ _ _ h => nomatch h) ?_; (case B2 => k_asm); (case F2 => k_asm); (case X2 => k_asm); (case N2 => exact N9); (case T2 => k_asm); (case K2 => first | exact rfl | assumption); (case d2 => ktr_room); (case u2 => ktr_units); (case n1 => omega); (case n2 => omega)
  intro r9 led9 h9' tk9' F9' N9' P9 M9
  obtain ⟨S, e9, f9, O, hn, hfr, hc, hdx⟩ := P9
  subst e9 f9
  have hlo2 : ∀ p ∈ fz, @LT.lt Nat _ p.1 S.dx := fun p hp => Nat.lt_of_lt_of_le (Heap.lt_size (M9 p hp).1) hdx
  clear M9 F9 N9
  k_steps
  rename Fr _ _ _ _ => F11
  rename News _ _ _ _ => N11
  exact hret S v x.toNat _ _ hv (lawM_two (sp := sp) (way := way) F11) (news_sub N11 fun x hx => .tail _ hx) O hn hc hlo2
end

section
variable (w : World) (mean : ExcName → Option Value) (mg mb : Str → Option Value)
open KStt
local macro_rules | `(tactic| walk_at "call ref") => `(tactic| (k_here; refine halt ?_))
/-- `_law_join(space, way, texts)` and the `if` behind it -/
theorem law_twice {st st2 : Stmt} {r : List Stmt} {h₀ : Heap} {L f : Addr} {cd : Value} {s : Shared} {Q : Flow → Shared → Prop} {E : Value → Shared → Prop} {ts : List Str} {whole : Str} {size : Int} {ta : Addr} {tw : Tok} {ut : Nat} {siz taken ways sv : Option Value} {tv : List Value} {v : Value} {V : Way} {S : Sp} {fz : List (Addr × Obj)}
    (hst : lawRec.body[8]? = some st) (hst2 : lawRec.body[9]? = some st2) (B : Below callerA h₀ [] h₀) (F : Fr h₀ L s.heap (lawM (some (.ref S.sp)) (some v) siz taken ways (some (.str whole tw)) (some (.ref ta)) sv)) (X : (Mine.hd.heap_39 w.params).In h₀)
    (N : News h₀ L s.heap (stL S [] ++ fz)) (T : Top Mine.hd.view_39 (looseW Mine.hd.view_39 [Str.ofString "BasicError"]) mean mg mb h₀) (O : Ok S []) (hn : S.n = 2 * size) (hc : S.c = 0) (hlo : ∀ p ∈ fz, @LT.lt Nat _ p.1 S.dx)
    (hta : (ta, W.listOf tv.toArray ut) ∈ fz) (tok : TsOk ts) (h4 : ts.length ≤ 4) (htl : tv.length = ts.length) (htv : ∀ (i : Nat) (x : Str), ts[i]? = some x → ∃ t, tv[i]? = some (.str x t))
    (w1 : WayIn fz V v) (w2 : V.ok ts) (w3 : V.lvs ≤ 4) (w5 : V.txt ts = codes whole) (w7 : V.need ts ≤ 2 * size) (hs2 : size ≤ 12) (hasc : whole.cps.all (· < 128) = true)
    (hret : ∀ (S : Sp) h' tk', Fr h₀ L h' (lawM (some (.ref S.sp)) (some v) siz taken ways (some (.str whole tw)) (some (.ref ta)) sv) → News h₀ L h' fz → wpAny (model PySem.Challenge.rw_xm0013_01.row.prog w) (callerA.deeper (envOfC lawRec.name lawRec.scope L f cd)) (execs r (envOfC lawRec.name lawRec.scope L f cd)) Q E { s with heap := h', toks := tk' }) :
    wpAny (model PySem.Challenge.rw_xm0013_01.row.prog w) (callerA.deeper (envOfC lawRec.name lawRec.scope L f cd)) (execs (st :: st2 :: r) (envOfC lawRec.name lawRec.scope L f cd)) Q E s := by
  revert X
  k_fill
  intro X
  dsimp only [lawRec, recOf] at hst hst2 ⊢
  simp only [List.getElem?_cons_succ, List.getElem?_cons_zero, Option.some.injEq] at hst hst2
  subst hst hst2
  k_steps
  unfold Halt
  obtain ⟨G, hG, hT, hWy⟩ := join_ground (ps := []) N O hlo w1 hta htl htv
  have hdd := V.dd_le w3
  refine' useG (way_j w mean mg mb tok h4 hT V w2 hWy O ?l1 ?l2 ?l3) ?B2 ?F2 ?X2 ?N2 ?T2 ?K2 ?d2 ?u2 hG (fun p hp => List.mem_append_left _ hp) (Rest.pre (O.apart hlo) _ fun _ h => h) ?_; (case B2 => k_asm); (case F2 => k_asm); (case X2 => k_asm); (case N2 => k_asm); (case T2 => k_asm); (case K2 => first | exact rfl | assumption)
  case l1 => simp only [List.length_nil]; omega
  case l2 => have l0 : live [] = 0 := rfl; omega
  case l3 => omega
  case d2 => exact Nat.lt_of_le_of_lt (Nat.add_le_add_left hdd _) (by decide)
  case u2 => exact Nat.lt_of_le_of_lt (Nat.add_le_add_left (Nat.mul_le_mul_left 8 hdd) _) (by decide)
  intro r9 led9 h9 tk9 F9 N9 P9
  obtain ⟨e9, S', ps', f9, j1, j2, j3, j4, j5, j6, j7, j8⟩ := P9
  subst e9 f9
  obtain ⟨p, rfl⟩ : ∃ p, ps' = [p] := by
    rcases ps' with _ | ⟨p, _ | ⟨q, r⟩⟩ <;> simp only [List.length_nil, List.length_cons] at j3
    · omega
    · exact ⟨p, rfl⟩
    · omega
  rw [← j1.sp] at F9
  have hlo3 : ∀ p ∈ fz, @LT.lt Nat _ p.1 S'.dx := j1.dx ▸ hlo
  rw [w5] at j4
  have hn2 := j1.n
  clear hG hT hWy O hlo N F
  k_steps
  unfold Halt
  refine' use (waiting_S1 w mean mg mb j2 (x := whole) j4) ?B4 ?F4 ?X4 ?N4 ?T4 ?K4 ?d4 ?u4 (fun p hp => List.mem_append_left _ hp) (Rest.pre (j2.apart hlo3) _ fun _ h => h) ?_; (case B4 => k_asm); (case F4 => k_asm); (case X4 => k_asm); (case N4 => k_asm); (case T4 => k_asm); (case K4 => first | exact rfl | assumption); (case d4 => ktr_room); (case u4 => ktr_units)
  intro r9 led9 h9' tk9' F9' N9' P9 M9
  obtain ⟨D, uD, yD, e9, oD, f9⟩ := P9
  subst e9 f9
  clear M9 F9 N9
  replace N9' : News h₀ L h9' ((D, W.listOf #[.str whole yD] uD) :: (stL S' [p] ++ fz)) := news_sub N9' fun x hx => by
    simp only [List.mem_append, List.mem_cons, List.not_mem_nil, or_false] at hx ⊢
    rcases hx with h | h | h
    · exact .inl (.inr h)
    · exact .inl (.inl h)
    · exact .inr h
  k_steps
  rename News _ _ _ _ => N11
  refine ne_strs (x := whole) hasc ⟨_, (N11 _ (.tail _ (.head _))).1, rfl, _, rfl⟩ ⟨_, (N11 _ (.head _)).1, rfl, _, rfl⟩ (by ke_room) ?_
  replace N11 := news_sub N11 fun x hx => .tail _ (.tail _ hx)
  k_steps
  unfold Halt
  refine' use (sound_S1 w mean mg mb j2 ?hn5) ?B5 ?F5 ?X5 ?N5 ?T5 ?K5 ?d5 ?u5 (fun p hp => List.mem_append_left _ hp) (Rest.pre (j2.apart hlo3) _ fun _ h => h) ?_; (case B5 => k_asm); (case F5 => k_asm); (case X5 => k_asm); (case N5 => k_asm); (case T5 => k_asm); (case K5 => first | exact rfl | assumption); (case d5 => ktr_room); (case u5 => ktr_units); (case hn5 => omega)
  intro r9 led9 h9 tk9'' F9 N9 P9 M9
  obtain ⟨e9, f9⟩ := P9
  subst e9 f9
  clear M9
  k_steps
  exact hret S' _ _ F9 (news_sub N9 fun x hx => List.mem_append_right _ hx)
end

theorem name_gone {M : Model} {A : Around} {E : Value → Shared → Prop} {s : Shared} {h₀ : Heap} {L a : Addr} {m : Str → Option Value} {news : List (Addr × Obj)} {name n : Str} {scope : Scope} {cd : Value} {cl : List (Str × Addr)} {pos : Pos} {Q : Unit → Shared → Prop}
    (F : Fr h₀ L s.heap m) (N : News h₀ L s.heap news) (hk : scope.kind = .function) (hl : (envX name scope L a cd cl).kindOf n = some .local)
    (h : ∀ h' v, Fr h₀ L h' (fun x => if x = n then v else m x) → News h₀ L h' news → Q () { s with heap := h', toks := s.toks + 1 }) :
    wpAny M A (do bindName (envX name scope L a cd cl) n .none; unbindBehindTheSuite (envX name scope L a cd cl) n pos) Q E s :=
  wpAny_nameGoes_keeps hl F.ns (by show (scope.kind == .class || (scope.kind == .module && _)) = false; rw [hk]; rfl) fun h' v hn hs => h h' v (F.set hn hs) fun p hp => ⟨(hs.2 _ (N p hp).2.1).trans (N p hp).1, (N p hp).2⟩
theorem code_get_K {prog : Program} {w : World} {A : Around} {E : Value → Shared → Prop} {s : Shared} {h₀ : Heap} {L : Addr} {m : Str → Option Value} {K : Frag}
    {nm q : Str} {N : Addr} {bs : List Value} {sn : List Str} {sub : List Value} {ab : Bool} {col : Option Bool} {dd : Option Addr} {k0 k1 k2 k3 k5 : Option Value} {newId : String} {e dx : Addr} {vs : Array Value} {sl : Array (Option Value)} {h1 h2 : Int} {kc kt tc : Tok} {x : Str} {l : Value} {expr : Bool} {Q : Value → Shared → Prop}
    (X₀ : K.In h₀) (hC : K.lookup 34 = some (excClassObj nm q 34 N bs [.type "Exception", .type "BaseException", .type "object"] true sn sub ab col dd k0 k1 k2 k3 k5 newId)) (hok : nsOkIn K N = true) (hga : nsIn K N "__getattribute__" = some none) (hgh : nsIn K N "__getattr__" = some none) (hna : nsIn K N (Str.ofString "code") = some none)
    (F : Fr h₀ L s.heap m) (hx : s.heap.get? e = some ⟨.ref 34, some dx, .fields vs, sl⟩) (hd : s.heap.get? dx = some (excD h1 h2 kc kt (.str x tc) l)) (hq : Q (.str x tc) { s with toks := s.toks + 1 }) :
    wpAny (model prog w) A (getAttr (.ref e) (Str.ofString "code") expr) Q E s := by
  have X := X₀.keeps F.keep
  obtain ⟨hh, g, d, tk, os⟩ := s
  exact code_get (X _ _ hC) (.of_isNs (isNs_of_in X hok)) (ns_none_of X (.of_isNs (isNs_of_in X hok)) hga) (ns_none_of X (.of_isNs (isNs_of_in X hok)) hgh) (ns_none_of X (.of_isNs (isNs_of_in X hok)) hna) hx hd hq
section
variable (w : World) (mean : ExcName → Option Value) (mg mb : Str → Option Value)
open KStt
local macro_rules | `(tactic| walk_at "call ref") => `(tactic| (k_here; refine halt ?_))
local macro_rules | `(tactic| walk_at "exec Try") => `(tactic| (k_here; refine halt ?_))
/-- one octet less -/
theorem law_last {st st2 st3 st4 : Stmt} {h₀ : Heap} {L f : Addr} {cd : Value} {s : Shared} {Q : Flow → Shared → Prop} {E : Value → Shared → Prop} {ts : List Str} {whole : Str} {size : Int} {ta : Addr} {tz tw : Tok} {ut : Nat} {sp taken ways sv : Option Value} {tv : List Value} {v : Value} {V1 V2 : Way} {x1 x2 : Str} {fz : List (Addr × Obj)}
    (hst : lawRec.body[10]? = some st) (hst2 : lawRec.body[11]? = some st2) (hst3 : lawRec.body[12]? = some st3) (hst4 : lawRec.body[13]? = some st4) (B : Below callerA h₀ [] h₀) (F : Fr h₀ L s.heap (lawM sp (some v) (some (.int size tz)) taken ways (some (.str whole tw)) (some (.ref ta)) sv)) (X : (Mine.hd.heap_39 w.params).In h₀)
    (N : News h₀ L s.heap fz) (T : Top Mine.hd.view_39 (looseW Mine.hd.view_39 [Str.ofString "BasicError"]) mean mg mb h₀)
    (hta : (ta, W.listOf tv.toArray ut) ∈ fz) (tok : TsOk ts) (h4 : ts.length ≤ 4) (htl : tv.length = ts.length) (htv : ∀ (i : Nat) (x : Str), ts[i]? = some x → ∃ t, tv[i]? = some (.str x t))
    (w1 : WayIn fz (.node V1 V2) v) (w2 : (Way.node V1 V2).ok ts) (w3 : (Way.node V1 V2).lvs ≤ 4) (w5 : (Way.node V1 V2).txt ts = codes whole) (hx1 : V1.txt ts = codes x1) (hx2 : V2.txt ts = codes x2) (hsz : size = (Way.node V1 V2).len ts) (hs1 : 1 ≤ size) (hs2 : size ≤ 12) (hasc : whole.cps.all (· < 128) = true)
    (hret : ∀ h' tk' m', Fr h₀ L h' m' → Q (.ret (.bool true)) { s with heap := h', toks := tk' }) :
    wpAny (model PySem.Challenge.rw_xm0013_01.row.prog w) (callerA.deeper (envOfC lawRec.name lawRec.scope L f cd)) (execs [st, st2, st3, st4] (envOfC lawRec.name lawRec.scope L f cd)) Q E s := by
  revert X
  k_fill
  intro X
  dsimp only [lawRec, recOf] at hst hst2 hst3 hst4 ⊢
  simp only [List.getElem?_cons_succ, List.getElem?_cons_zero, Option.some.injEq] at hst hst2 hst3 hst4
  subst hst hst2 hst3 hst4
  k_steps
  unfold Halt
  refine' use (space_c w mean mg mb (n := 2 * size - 1) ?n1 ?n2) ?B1 ?F1 ?X1 ?N1 ?T1 ?K1 ?d1 ?u1 (fun _ h => nomatch h) (Rest.tail fun _ _ _ h => nomatch h) ?_; (case B1 => k_asm); (case F1 => k_asm); (case X1 => k_asm); (case N1 => exact N); (case T1 => k_asm); (case K1 => first | exact rfl | assumption); (case d1 => ktr_room); (case u1 => ktr_units); (case n1 => omega); (case n2 => omega)
  intro r9 led9 h9 tk9 F9 N9 P9 M9
  obtain ⟨S, e9, f9, O, hn, hfr, hc, hdx⟩ := P9
  subst e9 f9
  have hlo : ∀ p ∈ fz, @LT.lt Nat _ p.1 S.dx := fun p hp => Nat.lt_of_lt_of_le (Heap.lt_size (M9 p hp).1) hdx
  clear M9 N F
  k_steps
  unfold Halt
  refine wpAny_Try_except ?_
  k_steps
  unfold Halt
  rename Fr _ _ _ _ => F2
  rename News _ _ _ _ => N2
  obtain ⟨G, hG, hT, hWy⟩ := join_ground (ps := []) N2 O hlo w1 hta htl htv
  have hdd := (Way.node V1 V2).dd_le w3
  have hap := O.apart hlo
  refine (way_x w mean mg mb tok h4 hT w2 hWy O w3 (by rw [hn, hsz]) (by omega)) _ _ _ _ _ _ _ _ _ _ _ _ _ _ _ _ _ B F2 X (news_sub N2 fun p hp => List.mem_append_left _ hp) T rfl ?_ ?_ hG (fun _ _ _ _ _ _ _ z => z.elim) ?_
  · exact Nat.lt_of_le_of_lt (Nat.add_le_add_left hdd _) (by decide)
  · exact Nat.lt_of_le_of_lt (Nat.add_le_add_left (Nat.mul_le_mul_left 8 hdd) _) (by decide)
  intro e dx od Bx led' h' tk' Y P
  obtain ⟨⟨y1, y2, kc, kt, tc, lx, rfl⟩, S', ps', rfl, j1, j2, j3, j4⟩ := P
  refine' caught_M (x := Str.ofString "BasicError") rfl F2 N2 (rest := fz) ?hs ?hr Y X (T := ?T) ?ex ?hx ?k rfl ?k1 ?k2 ?k3
  case T => k_asm
  case k1 => rfl
  case k2 => rfl
  case k3 => decide
  case ex => k_is
  case hx => first | kernel_rfl | rfl | decide +kernel
  case hs => exact fun a ha => by obtain ⟨q, hq, e⟩ := List.mem_map.mp ha; exact ⟨q, List.mem_append_left _ hq, e⟩
  case hr => exact fun q hq => ⟨List.mem_append_right _ hq, fun hm => by obtain ⟨q', hq', e⟩ := List.mem_map.mp hm; exact hap q hq q' hq' e⟩
  intro h10 tk10 vs10 sl10 F10 N10
  k_steps
  refine code_get_K X (by exact rfl) (by kernel_rfl) (by k_is) (by k_is) (by k_is) F10 (N10 _ (.head _)).1 (N10 _ (.tail _ (.head _))).1 ?_
  k_steps
  refine name_gone (news := stL S' ps' ++ fz) F10 (news_sub N10 fun x hx => .tail _ (.tail _ hx)) rfl rfl ?_
  intro h11 gone F11 N11
  obtain ⟨p, q, rfl⟩ : ∃ p q, ps' = [p, q] := by
    rcases ps' with _ | ⟨p, _ | ⟨q, _ | ⟨r, r'⟩⟩⟩ <;> simp only [List.length_nil, List.length_cons] at j3
    · omega
    · omega
    · exact ⟨p, q, rfl⟩
    · omega
  rw [← j1.sp] at F11
  rw [hx1, hx2] at j4
  have hlo3 : ∀ p ∈ fz, @LT.lt Nat _ p.1 S'.dx := j1.dx ▸ hlo
  have hn2 := j1.n
  have w5' : (Way.node V1 V2).txt ts = codes x1 ++ codes x2 := by simp only [Way.txt, hx1, hx2]
  clear F10 N10 F2 N2 hG hT hWy hap Y O hlo
  k_steps
  unfold Halt
  refine' use (waiting_S2 w mean mg mb j2 (x := x1) (y := x2) j4) ?B4 ?F4 ?X4 ?N4 ?T4 ?K4 ?d4 ?u4 (fun p hp => List.mem_append_left _ hp) (Rest.pre (j2.apart hlo3) _ fun _ h => h) ?_; (case B4 => k_asm); (case F4 => k_asm); (case X4 => k_asm); (case N4 => exact N11); (case T4 => k_asm); (case K4 => first | exact rfl | assumption); (case d4 => ktr_room); (case u4 => ktr_units)
  intro r9 led9 h9' tk9' F9' N9' P9 M9
  obtain ⟨D, uD, z1, z2, e9, oD, f9⟩ := P9
  subst e9 f9
  clear M9 F11 N11
  replace N9' : News h₀ L h9' ((D, W.listOf #[.str x1 z1, .str x2 z2] uD) :: (stL S' [p, q] ++ fz)) := news_sub N9' fun x hx => by
    simp only [List.mem_append, List.mem_cons, List.not_mem_nil, or_false] at hx ⊢
    rcases hx with h | h | h
    · exact .inl (.inr h)
    · exact .inl (.inl h)
    · exact .inr h
  k_steps
  rename News _ _ _ _ => N5
  have hlen : (x1.length : Int) + x2.length = size := by rw [hsz, Way.len, w5', List.length_append, codes_length, codes_length]; omega
  have e0 : (Str.ofString "").length = 0 := by decide +kernel
  refine join_list (ys := [x1, x2]) ⟨_, (N5 _ (.head _)).1, rfl, _, rfl⟩ (.cons _ _ (.cons _ _ .nil)) (by simp only [List.map_cons, List.map_nil, List.sum_cons, List.sum_nil, List.length_cons, List.length_nil]; rw [e0]; omega) fun t' k => ?_
  have ej : Txt.join (Str.ofString "") [x1, x2] = whole := codes_inj (by rw [tjoin_codes, ← w5, w5']; simp)
  rw [ej]
  k_steps
  · unfold Halt
    replace N5 := news_sub N5 fun x hx => .tail _ hx
    refine' use (sound_S2 w mean mg mb j2 ?hn5) ?B5 ?F5 ?X5 ?N5 ?T5 ?K5 ?d5 ?u5 (fun p hp => List.mem_append_left _ hp) (Rest.pre (j2.apart hlo3) _ fun _ h => h) ?_; (case B5 => k_asm); (case F5 => k_asm); (case X5 => k_asm); (case N5 => exact N5); (case T5 => k_asm); (case K5 => first | exact rfl | assumption); (case d5 => ktr_room); (case u5 => ktr_units); (case hn5 => omega)
    intro r9 led9 h9 tk9'' F9 N9 P9 M9
    obtain ⟨e9, f9⟩ := P9
    subst e9
    exact hret _ _ _ F9
  · exfalso
    rename _ = false => hw9
    simp at hw9
end

section
variable {prog : Program} {w : World} {A : Around} {E : Value → Shared → Prop} {s : Shared}
/-- one sign, once, twice or three times -/
theorem mul_one {c : Str} {n : Int} {t u : Tok} {Q : Value → Shared → Prop} (hc : c.length = 1) (ha : c.cps.all (· < 128) = true) (h1 : 1 ≤ n) (h3 : n ≤ 3)
    (h : ∀ X t' k, (X.length : Int) = n → X.cps.all (· < 128) = true → Q (.str X t') { s with toks := k }) : wpAny (model prog w) A (binaryOp .Mult (.str c t) (.int n u)) Q E s := by
  have hcs : c.cps.size = 1 := hc
  refine P.mul_str ?_ ?_ ?_ ?_
  · simp; omega
  · intro _ _; rw [hc]; have : n = 1 ∨ n = 2 ∨ n = 3 := by omega
    rcases this with rfl | rfl | rfl <;> decide
  · intro _ _; rw [hc]; have : n = 1 ∨ n = 2 ∨ n = 3 := by omega
    rcases this with rfl | rfl | rfl <;> decide +kernel
  · have : n = 1 ∨ n = 2 ∨ n = 3 := by omega
    rcases this with rfl | rfl | rfl
    · exact h c t s.toks (by rw [hc]; rfl) ha
    · have e : ((2 : Int) == 1 || c.length == 0) = false := by rw [hc]; decide
      rw [if_neg (by decide), if_neg (by rw [e]; decide)]
      refine ⟨by simp [Str.length, hcs, sizeLine_eq], h _ _ _ ?_ ?_⟩
      · simp [Str.length, hcs]
      · simp [List.replicate, ha]
    · have e : ((3 : Int) == 1 || c.length == 0) = false := by rw [hc]; decide
      rw [if_neg (by decide), if_neg (by rw [e]; decide)]
      refine ⟨by simp [Str.length, hcs, sizeLine_eq], h _ _ _ ?_ ?_⟩
      · simp [Str.length, hcs]
      · simp [List.replicate, ha]
end
section
variable (w : World) (mean : ExcName → Option Value) (mg mb : Str → Option Value)
open KStt
local macro_rules | `(tactic| walk_at "call ref") => `(tactic| (k_here; (with_reducible show wpAny _ _ (call (Value.ref 144) _) _ _ _); k_dflt (refine' use (ways03_c _ _ _ _) ?B ?F ?X ?N ?T ?K ?d ?u ?s ?r ?_; (case B => k_asm); (case F => k_asm); (case X => k_asm); (case N => k_asm); (case T => k_asm); (case K => first | exact rfl | assumption); (case s => lcg_sub); (case r => walk_at "REST"); (case d => ktr_room); (case u => ktr_units)); (intro r9 led9 h9 tk9 F9 N9 P9 M9; obtain ⟨D9, u9, T29, T19, T49, T39, z19, z29, z39, z49, z59, z69, e9, f9, o9, pT2, pT1, pT4, pT3⟩ := P9; subst e9; subst f9; replace o9 := AllNe.of (off_fresh M9 o9); (try simp only [AllNe, and_true] at o9); (repeat (obtain ⟨_, o9⟩ := o9)); replace pT2 := AllNe.of (off_fresh M9 pT2); (try simp only [AllNe, and_true] at pT2); (repeat (obtain ⟨_, pT2⟩ := pT2)); replace pT1 := AllNe.of (off_fresh M9 pT1); (try simp only [AllNe, and_true] at pT1); (repeat (obtain ⟨_, pT1⟩ := pT1)); replace pT4 := AllNe.of (off_fresh M9 pT4); (try simp only [AllNe, and_true] at pT4); (repeat (obtain ⟨_, pT4⟩ := pT4)); replace pT3 := AllNe.of (off_fresh M9 pT3); (try simp only [AllNe, and_true] at pT3); (repeat (obtain ⟨_, pT3⟩ := pT3)); clear M9; (try dsimp only [List.cons_append, List.nil_append] at N9); (try k_sweep); (try dsimp only))))
local macro_rules | `(tactic| walk_at "call ref") => `(tactic| (k_here; (with_reducible show wpAny _ _ (call (Value.ref 144) _) _ _ _); k_dflt (refine' use (ways04_c _ _ _ _) ?B ?F ?X ?N ?T ?K ?d ?u ?s ?r ?_; (case B => k_asm); (case F => k_asm); (case X => k_asm); (case N => k_asm); (case T => k_asm); (case K => first | exact rfl | assumption); (case s => lcg_sub); (case r => walk_at "REST"); (case d => ktr_room); (case u => ktr_units)); (intro r9 led9 h9 tk9 F9 N9 P9 M9; obtain ⟨D9, u9, T59, T29, T19, T69, T49, T39, T99, T79, T89, T149, T119, T109, T159, T139, T129, z19, z29, z39, z49, z59, z69, z79, z89, z99, z109, z119, z129, z139, z149, z159, z169, z179, z189, z199, e9, f9, o9, pT5, pT2, pT1, pT6, pT4, pT3, pT9, pT7, pT8, pT14, pT11, pT10, pT15, pT13, pT12⟩ := P9; subst e9; subst f9; replace o9 := AllNe.of (off_fresh M9 o9); (try simp only [AllNe, and_true] at o9); (repeat (obtain ⟨_, o9⟩ := o9)); replace pT5 := AllNe.of (off_fresh M9 pT5); (try simp only [AllNe, and_true] at pT5); (repeat (obtain ⟨_, pT5⟩ := pT5)); replace pT2 := AllNe.of (off_fresh M9 pT2); (try simp only [AllNe, and_true] at pT2); (repeat (obtain ⟨_, pT2⟩ := pT2)); replace pT1 := AllNe.of (off_fresh M9 pT1); (try simp only [AllNe, and_true] at pT1); (repeat (obtain ⟨_, pT1⟩ := pT1)); replace pT6 := AllNe.of (off_fresh M9 pT6); (try simp only [AllNe, and_true] at pT6); (repeat (obtain ⟨_, pT6⟩ := pT6)); replace pT4 := AllNe.of (off_fresh M9 pT4); (try simp only [AllNe, and_true] at pT4); (repeat (obtain ⟨_, pT4⟩ := pT4)); replace pT3 := AllNe.of (off_fresh M9 pT3); (try simp only [AllNe, and_true] at pT3); (repeat (obtain ⟨_, pT3⟩ := pT3)); replace pT9 := AllNe.of (off_fresh M9 pT9); (try simp only [AllNe, and_true] at pT9); (repeat (obtain ⟨_, pT9⟩ := pT9)); replace pT7 := AllNe.of (off_fresh M9 pT7); (try simp only [AllNe, and_true] at pT7); (repeat (obtain ⟨_, pT7⟩ := pT7)); replace pT8 := AllNe.of (off_fresh M9 pT8); (try simp only [AllNe, and_true] at pT8); (repeat (obtain ⟨_, pT8⟩ := pT8)); replace pT14 := AllNe.of (off_fresh M9 pT14); (try simp only [AllNe, and_true] at pT14); (repeat (obtain ⟨_, pT14⟩ := pT14)); replace pT11 := AllNe.of (off_fresh M9 pT11); (try simp only [AllNe, and_true] at pT11); (repeat (obtain ⟨_, pT11⟩ := pT11)); replace pT10 := AllNe.of (off_fresh M9 pT10); (try simp only [AllNe, and_true] at pT10); (repeat (obtain ⟨_, pT10⟩ := pT10)); replace pT15 := AllNe.of (off_fresh M9 pT15); (try simp only [AllNe, and_true] at pT15); (repeat (obtain ⟨_, pT15⟩ := pT15)); replace pT13 := AllNe.of (off_fresh M9 pT13); (try simp only [AllNe, and_true] at pT13); (repeat (obtain ⟨_, pT13⟩ := pT13)); replace pT12 := AllNe.of (off_fresh M9 pT12); (try simp only [AllNe, and_true] at pT12); (repeat (obtain ⟨_, pT12⟩ := pT12)); clear M9; (try dsimp only [List.cons_append, List.nil_append] at N9); (try k_sweep); (try dsimp only))))
local macro_rules | `(tactic| walk_at "call ref") => `(tactic| (k_here; (with_reducible show wpAny _ _ (call (Value.ref 139) _) _ _ _); refine halt ?_))
local macro_rules | `(tactic| walk_at "binaryOp Mult str int") => `(tactic| (k_here; k_dflt (refine' mul_one ?c ?a ?b ?d ?_; (case c => decide +kernel); (case a => decide +kernel); (case b => omega); (case d => omega)); intro X9 t9 k9 lX9 aX9))
theorem lawM_head {h₀ h : Heap} {L : Addr} {sp size taken ways whole texts script : Option Value} (F : Fr h₀ L h (fun y => if y = Str.ofString "size" then size else if y = Str.ofString "space" then sp else if y = Str.ofString "whole" then whole else if y = Str.ofString "ways" then ways else if y = Str.ofString "taken" then taken else if y = Str.ofString "texts" then texts else (fun y => if y = Str.ofString "script" then script else none) y)) : Fr h₀ L h (lawM sp none size taken ways whole texts script) := by
  refine Eq.mp (congrArg (Fr h₀ L h) (funext fun y => ?_)) F
  dsimp only [lawM]
  by_cases h1 : y = Str.ofString "space"
  · subst h1; rfl
  by_cases h2 : y = Str.ofString "way"
  · subst h2; rfl
  by_cases h3 : y = Str.ofString "size"
  · subst h3; rfl
  by_cases h4 : y = Str.ofString "taken"
  · subst h4; rfl
  by_cases h5 : y = Str.ofString "ways"
  · subst h5; rfl
  by_cases h6 : y = Str.ofString "whole"
  · subst h6; rfl
  by_cases h7 : y = Str.ofString "texts"
  · subst h7; rfl
  simp only [if_neg h1, if_neg h2, if_neg h3, if_neg h4, if_neg h5, if_neg h6, if_neg h7]
theorem join_any {prog : Program} {w : World} {A : Around} {E : Value → Shared → Prop} {s : Shared} {D : Addr} {items : Array Value} {ys : List Str} {t : Tok} {Q : Value → Shared → Prop} (hl : s.heap.IsList D items) (hi : StrsAre items.toList ys) (hok : (ys.map (·.length)).sum ≤ 1000)
    (h : ∀ V t' k, codes V = (ys.map codes).flatten → Q (.str V t') { s with toks := k }) : wpAny (model prog w) A (call (.builtin "str.join") [.str (Str.ofString "") t, .ref D]) Q E s :=
  join_list hl hi (by have e0 : (Str.ofString "").length = 0 := by decide +kernel
                      rw [e0]; omega) fun t' k => h _ t' k (tjoin_codes ys)
local macro_rules | `(tactic| walk_at "call builtin:str.join") => `(tactic| (k_here; refine halt ?_))
local macro_rules | `(tactic| walk_at "CompSrc") => `(tactic| (k_here; k_dflt (refine LCg.CompSrc.range (by rfl) (by k_asm) (by k_asm) (by assumption) (by decide) (by exact rangeSize_nat _ _) (by exact Nat.le_of_ble_eq_true rfl) ?_; intro g')))
theorem law_head {st0 st1 st2 st3 : Stmt} {r : List Stmt} {h₀ : Heap} {L f sc : Addr} {cd : Value} {s : Shared} {Q : Flow → Shared → Prop} {E : Value → Shared → Prop} {oc : Obj} {vs : List Value} {ns : List Int}
    (hst0 : lawRec.body[0]? = some st0) (hst1 : lawRec.body[1]? = some st1) (hst2 : lawRec.body[2]? = some st2) (hst3 : lawRec.body[3]? = some st3) (B : Below callerA h₀ [] h₀) (F : Fr h₀ L s.heap (fun y => if y = Str.ofString "script" then some (.ref sc) else none)) (X : (Mine.hd.heap_39 w.params).In h₀)
    (N : News h₀ L s.heap [(L + 1, oc)]) (T : Top Mine.hd.view_39 (looseW Mine.hd.view_39 [Str.ofString "BasicError"]) mean mg mb h₀) (hoc : oc.data = Data.cell none) (hsc : h₀.IsList sc vs.toArray) (hi : IntsAre vs ns) (hz : ns.length ≤ 63)
    (hret3 : ∀ (X0 X1 X2 : Str) (t0 t1 t2 : Tok) (whole : Str) (tz tw : Tok) (tk wa ta bag ls : Addr) (oc' : Obj) (spot : Int) (tp : Tok) (u0 uw ut ub ul : Nat) (ws : List Value) (T2 T1 T4 T3 : Addr) (z1 z2 z3 z4 z5 z6 : Tok) (h' : Heap) (tk' : Nat),
      Fr h₀ L h' (lawM (some .none) none (some (.int whole.length tz)) (some (.ref tk)) (some (.ref wa)) (some (.str whole tw)) (some (.ref ta)) (some (.ref sc))) → oc'.data = Data.cell (some (.ref bag)) →
      News h₀ L h' ((tk, W.listOf #[] u0) :: (bag, W.listOf #[.ref ls, .int spot tp] ub) :: (ls, W.listOf ws.toArray ul) :: (L + 1, oc') :: (wa, W.listOf #[.ref T2, .ref T4] uw) :: (ta, W.listOf #[.str X0 t0, .str X1 t1, .str X2 t2] ut) :: [(T2, tup2 (.int 0 z1) (.ref T1)), (T1, tup2 (.int 1 z2) (.int 2 z3)), (T4, tup2 (.ref T3) (.int 2 z6)), (T3, tup2 (.int 0 z4) (.int 1 z5))]) → IntsAre ws (ns.take 6) → 0 ≤ spot → spot ≤ 1000 →
      (∀ p ∈ (bag, W.listOf #[.ref ls, .int spot tp] ub) :: (ls, W.listOf ws.toArray ul) :: (L + 1, oc') :: (wa, W.listOf #[.ref T2, .ref T4] uw) :: (ta, W.listOf #[.str X0 t0, .str X1 t1, .str X2 t2] ut) :: [(T2, tup2 (.int 0 z1) (.ref T1)), (T1, tup2 (.int 1 z2) (.int 2 z3)), (T4, tup2 (.ref T3) (.int 2 z6)), (T3, tup2 (.int 0 z4) (.int 1 z5))], @LT.lt Nat _ p.1 tk) → @Ne Nat bag ls → (∀ p ∈ (L + 1, oc') :: (wa, W.listOf #[.ref T2, .ref T4] uw) :: (ta, W.listOf #[.str X0 t0, .str X1 t1, .str X2 t2] ut) :: [(T2, tup2 (.int 0 z1) (.ref T1)), (T1, tup2 (.int 1 z2) (.int 2 z3)), (T4, tup2 (.ref T3) (.int 2 z6)), (T3, tup2 (.int 0 z4) (.int 1 z5))], @Ne Nat p.1 bag ∧ @Ne Nat p.1 ls) →
      1 ≤ (X0.length : Int) → (X0.length : Int) ≤ 3 → X0.cps.all (· < 128) = true → 1 ≤ (X1.length : Int) → (X1.length : Int) ≤ 3 → X1.cps.all (· < 128) = true → 1 ≤ (X2.length : Int) → (X2.length : Int) ≤ 3 → X2.cps.all (· < 128) = true → codes whole = ([X0, X1, X2].map codes).flatten → wpAny (model PySem.Challenge.rw_xm0013_01.row.prog w) (callerA.deeper (envOfC lawRec.name lawRec.scope L f cd)) (execs r (envOfC lawRec.name lawRec.scope L f cd)) Q E { s with heap := h', toks := tk' })
    (hret4 : ∀ (X0 X1 X2 X3 : Str) (t0 t1 t2 t3 : Tok) (whole : Str) (tz tw : Tok) (tk wa ta bag ls : Addr) (oc' : Obj) (spot : Int) (tp : Tok) (u0 uw ut ub ul : Nat) (ws : List Value) (T5 T2 T1 T6 T4 T3 T9 T7 T8 T14 T11 T10 T15 T13 T12 : Addr) (z1 z2 z3 z4 z5 z6 z7 z8 z9 z10 z11 z12 z13 z14 z15 z16 z17 z18 z19 : Tok) (h' : Heap) (tk' : Nat),
      Fr h₀ L h' (lawM (some .none) none (some (.int whole.length tz)) (some (.ref tk)) (some (.ref wa)) (some (.str whole tw)) (some (.ref ta)) (some (.ref sc))) → oc'.data = Data.cell (some (.ref bag)) →
      News h₀ L h' ((tk, W.listOf #[] u0) :: (bag, W.listOf #[.ref ls, .int spot tp] ub) :: (ls, W.listOf ws.toArray ul) :: (L + 1, oc') :: (wa, W.listOf #[.ref T5, .ref T6, .ref T9, .ref T14, .ref T15] uw) :: (ta, W.listOf #[.str X0 t0, .str X1 t1, .str X2 t2, .str X3 t3] ut) :: [(T5, tup2 (.int 0 z1) (.ref T2)), (T2, tup2 (.int 1 z2) (.ref T1)), (T1, tup2 (.int 2 z3) (.int 3 z4)), (T6, tup2 (.int 0 z1) (.ref T4)), (T4, tup2 (.ref T3) (.int 3 z7)), (T3, tup2 (.int 1 z5) (.int 2 z6)), (T9, tup2 (.ref T7) (.ref T8)), (T7, tup2 (.int 0 z8) (.int 1 z9)), (T8, tup2 (.int 2 z10) (.int 3 z11)), (T14, tup2 (.ref T11) (.int 3 z18)), (T11, tup2 (.int 0 z12) (.ref T10)), (T10, tup2 (.int 1 z13) (.int 2 z14)), (T15, tup2 (.ref T13) (.int 3 z19)), (T13, tup2 (.ref T12) (.int 2 z17)), (T12, tup2 (.int 0 z15) (.int 1 z16))]) → IntsAre ws (ns.take 6) → 0 ≤ spot → spot ≤ 1000 →
      (∀ p ∈ (bag, W.listOf #[.ref ls, .int spot tp] ub) :: (ls, W.listOf ws.toArray ul) :: (L + 1, oc') :: (wa, W.listOf #[.ref T5, .ref T6, .ref T9, .ref T14, .ref T15] uw) :: (ta, W.listOf #[.str X0 t0, .str X1 t1, .str X2 t2, .str X3 t3] ut) :: [(T5, tup2 (.int 0 z1) (.ref T2)), (T2, tup2 (.int 1 z2) (.ref T1)), (T1, tup2 (.int 2 z3) (.int 3 z4)), (T6, tup2 (.int 0 z1) (.ref T4)), (T4, tup2 (.ref T3) (.int 3 z7)), (T3, tup2 (.int 1 z5) (.int 2 z6)), (T9, tup2 (.ref T7) (.ref T8)), (T7, tup2 (.int 0 z8) (.int 1 z9)), (T8, tup2 (.int 2 z10) (.int 3 z11)), (T14, tup2 (.ref T11) (.int 3 z18)), (T11, tup2 (.int 0 z12) (.ref T10)), (T10, tup2 (.int 1 z13) (.int 2 z14)), (T15, tup2 (.ref T13) (.int 3 z19)), (T13, tup2 (.ref T12) (.int 2 z17)), (T12, tup2 (.int 0 z15) (.int 1 z16))], @LT.lt Nat _ p.1 tk) → @Ne Nat bag ls → (∀ p ∈ (L + 1, oc') :: (wa, W.listOf #[.ref T5, .ref T6, .ref T9, .ref T14, .ref T15] uw) :: (ta, W.listOf #[.str X0 t0, .str X1 t1, .str X2 t2, .str X3 t3] ut) :: [(T5, tup2 (.int 0 z1) (.ref T2)), (T2, tup2 (.int 1 z2) (.ref T1)), (T1, tup2 (.int 2 z3) (.int 3 z4)), (T6, tup2 (.int 0 z1) (.ref T4)), (T4, tup2 (.ref T3) (.int 3 z7)), (T3, tup2 (.int 1 z5) (.int 2 z6)), (T9, tup2 (.ref T7) (.ref T8)), (T7, tup2 (.int 0 z8) (.int 1 z9)), (T8, tup2 (.int 2 z10) (.int 3 z11)), (T14, tup2 (.ref T11) (.int 3 z18)), (T11, tup2 (.int 0 z12) (.ref T10)), (T10, tup2 (.int 1 z13) (.int 2 z14)), (T15, tup2 (.ref T13) (.int 3 z19)), (T13, tup2 (.ref T12) (.int 2 z17)), (T12, tup2 (.int 0 z15) (.int 1 z16))], @Ne Nat p.1 bag ∧ @Ne Nat p.1 ls) →
      1 ≤ (X0.length : Int) → (X0.length : Int) ≤ 3 → X0.cps.all (· < 128) = true → 1 ≤ (X1.length : Int) → (X1.length : Int) ≤ 3 → X1.cps.all (· < 128) = true → 1 ≤ (X2.length : Int) → (X2.length : Int) ≤ 3 → X2.cps.all (· < 128) = true → 1 ≤ (X3.length : Int) → (X3.length : Int) ≤ 3 → X3.cps.all (· < 128) = true → codes whole = ([X0, X1, X2, X3].map codes).flatten → wpAny (model PySem.Challenge.rw_xm0013_01.row.prog w) (callerA.deeper (envOfC lawRec.name lawRec.scope L f cd)) (execs r (envOfC lawRec.name lawRec.scope L f cd)) Q E { s with heap := h', toks := tk' }) :
    wpAny (model PySem.Challenge.rw_xm0013_01.row.prog w) (callerA.deeper (envOfC lawRec.name lawRec.scope L f cd)) (execs (st0 :: st1 :: st2 :: st3 :: r) (envOfC lawRec.name lawRec.scope L f cd)) Q E s := by
  revert X
  k_fill
  intro X
  dsimp only [lawRec, recOf] at hst0 hst1 hst2 hst3 ⊢
  simp only [List.getElem?_cons_succ, List.getElem?_cons_zero, Option.some.injEq] at hst0 hst1 hst2 hst3
  subst hst0 hst1 hst2 hst3
  k_steps
  unfold Halt
  rename News _ _ _ _ => N1
  rename IntsAre _ (List.take 6 ns) => hIA
  refine' use (drawn_c w mean mg mb (n := 2) hIA ?hz ?h0 ?h1 ?hn ?hn2 ?hb) ?B1 ?F1 ?X1 N1 ?T1 ?K1 ?d1 ?u1 ?s1 ?r1 ?_; (case B1 => k_asm); (case F1 => k_asm); (case X1 => k_asm); (case T1 => k_asm); (case K1 => first | exact rfl | assumption); (case s1 => lcg_sub); (case r1 => walk_at "REST"); (case d1 => ktr_room); (case u1 => ktr_units); (case hz => omega); (case h0 => omega); (case h1 => omega); (case hn => omega); (case hn2 => omega); (case hb => k_ne)
  intro r9 led9 h9 tk9 F9 N9 P9 M9
  obtain ⟨x, y2, y3, e9, x0, x1, f9⟩ := P9
  subst e9 f9
  clear M9
  (try dsimp only [List.cons_append, List.nil_append] at N9)
  have hx : x = 0 ∨ x = 1 := by omega
  clear x0 x1
  rcases hx with rfl | rfl
  · k_steps
    rename LCg.Off3 _ _ _ _ => off9
    have hO0 := off3_all off9
    clear off9
    simp only [AllNe, and_true] at hO0
    obtain ⟨hI0, hC0, hD0⟩ := hO0
    (repeat (obtain ⟨_, hI0⟩ := hI0)); (repeat (obtain ⟨_, hC0⟩ := hC0)); (repeat (obtain ⟨_, hD0⟩ := hD0))
    unfold Halt
    refine' use (drawn_c w mean mg mb (n := 3) hIA ?hz0 ?h00 ?h10 ?hn0 ?hm0 ?hb0) ?B0 ?F0 ?X0 ?N0 ?T0 ?K0 ?d0 ?u0 ?s0 ?r0 ?_; (case B0 => k_asm); (case F0 => k_asm); (case X0 => k_asm); (case N0 => k_asm); (case T0 => k_asm); (case K0 => first | exact rfl | assumption); (case s0 => lcg_sub); (case r0 => walk_at "REST"); (case d0 => ktr_room); (case u0 => ktr_units); (case hz0 => omega); (case h00 => omega); (case h10 => omega); (case hn0 => omega); (case hm0 => omega); (case hb0 => k_ne)
    intro r9 led9 h9 tk9 F9 N9 P9 M9
    obtain ⟨x0, y0, v0, e9, p0, q0, f9⟩ := P9
    subst e9 f9
    clear M9
    (try dsimp only [List.cons_append, List.nil_append] at N9)
    k_steps
    rename LCg.Off3 _ _ _ _ => off9
    have hO1 := off3_all off9
    clear off9
    simp only [AllNe, and_true] at hO1
    obtain ⟨hI1, hC1, hD1⟩ := hO1
    (repeat (obtain ⟨_, hI1⟩ := hI1)); (repeat (obtain ⟨_, hC1⟩ := hC1)); (repeat (obtain ⟨_, hD1⟩ := hD1))
    unfold Halt
    refine' use (drawn_c w mean mg mb (n := 3) hIA ?hz1 ?h01 ?h11 ?hn1 ?hm1 ?hb1) ?B1 ?F1 ?X1 ?N1 ?T1 ?K1 ?d1 ?u1 ?s1 ?r1 ?_; (case B1 => k_asm); (case F1 => k_asm); (case X1 => k_asm); (case N1 => k_asm); (case T1 => k_asm); (case K1 => first | exact rfl | assumption); (case s1 => lcg_sub); (case r1 => walk_at "REST"); (case d1 => ktr_room); (case u1 => ktr_units); (case hz1 => omega); (case h01 => omega); (case h11 => omega); (case hn1 => omega); (case hm1 => omega); (case hb1 => k_ne)
    intro r9 led9 h9 tk9 F9 N9 P9 M9
    obtain ⟨x1, y1, v1, e9, p1, q1, f9⟩ := P9
    subst e9 f9
    clear M9
    (try dsimp only [List.cons_append, List.nil_append] at N9)
    k_steps
    rename LCg.Off3 _ _ _ _ => off9
    have hO2 := off3_all off9
    clear off9
    simp only [AllNe, and_true] at hO2
    obtain ⟨hI2, hC2, hD2⟩ := hO2
    (repeat (obtain ⟨_, hI2⟩ := hI2)); (repeat (obtain ⟨_, hC2⟩ := hC2)); (repeat (obtain ⟨_, hD2⟩ := hD2))
    unfold Halt
    refine' use (drawn_c w mean mg mb (n := 3) hIA ?hz2 ?h02 ?h12 ?hn2 ?hm2 ?hb2) ?B2 ?F2 ?X2 ?N2 ?T2 ?K2 ?d2 ?u2 ?s2 ?r2 ?_; (case B2 => k_asm); (case F2 => k_asm); (case X2 => k_asm); (case N2 => k_asm); (case T2 => k_asm); (case K2 => first | exact rfl | assumption); (case s2 => lcg_sub); (case r2 => walk_at "REST"); (case d2 => ktr_room); (case u2 => ktr_units); (case hz2 => omega); (case h02 => omega); (case h12 => omega); (case hn2 => omega); (case hm2 => omega); (case hb2 => k_ne)
    intro r9 led9 h9 tk9 F9 N9 P9 M9
    obtain ⟨x2, y2, v2, e9, p2, q2, f9⟩ := P9
    subst e9 f9
    clear M9
    (try dsimp only [List.cons_append, List.nil_append] at N9)
    k_steps
    unfold Halt
    rename News _ _ _ _ => N5
    refine join_any (ys := [_, _, _]) ⟨_, (N5 _ (.head _)).1, rfl, _, rfl⟩ (.cons _ _ (.cons _ _ (.cons _ _ .nil))) (by simp only [List.map_cons, List.map_nil, List.sum_cons, List.sum_nil]; omega) fun whole tw k hwh => ?_
    have hwl := congrArg List.length hwh
    simp only [List.map_cons, List.map_nil, List.flatten_cons, List.flatten_nil, List.length_append, List.length_nil, codes_length] at hwl
    have hwl2 : (whole.length : Int) ≤ 100 := by omega
    k_steps
    rename Fr _ _ _ _ => F6
    rename News _ _ _ _ => N6
    refine' hret3 _ _ _ _ _ _ whole _ tw _ _ _ _ _ _ _ _ _ _ _ _ _ _ _ _ _ _ _ _ _ _ _ _ _ _ (lawM_head F6) ?oc ?N ?I ?s0 ?s1 ?lo ?bl ?ap ?la0 ?lb0 ?lc0 ?la1 ?lb1 ?lc1 ?la2 ?lb2 ?lc2 hwh
    case oc => assumption
    case N => exact news_sub N6 (by lcg_sub)
    case I => exact hIA
    case s0 => decide
    case s1 => decide
    case bl => k_ne
    case ap => (intro p hp; (repeat (rcases List.mem_cons.mp hp with rfl | hp; (exact ⟨by (show _ ≠ _); k_ne, by (show _ ≠ _); k_ne⟩))); exact (List.not_mem_nil hp).elim)
    case lo => ((repeat (rename _ ∧ _ => hc; (obtain ⟨_, _⟩ := hc))); intro p hp; (repeat (rcases List.mem_cons.mp hp with rfl | hp; (dsimp only; assumption))); exact (List.not_mem_nil hp).elim)
    case la0 => omega
    case lb0 => omega
    case lc0 => assumption
    case la1 => omega
    case lb1 => omega
    case lc1 => assumption
    case la2 => omega
    case lb2 => omega
    case lc2 => assumption
  · k_steps
    rename LCg.Off3 _ _ _ _ => off9
    have hO0 := off3_all off9
    clear off9
    simp only [AllNe, and_true] at hO0
    obtain ⟨hI0, hC0, hD0⟩ := hO0
    (repeat (obtain ⟨_, hI0⟩ := hI0)); (repeat (obtain ⟨_, hC0⟩ := hC0)); (repeat (obtain ⟨_, hD0⟩ := hD0))
    unfold Halt
    refine' use (drawn_c w mean mg mb (n := 3) hIA ?hz0 ?h00 ?h10 ?hn0 ?hm0 ?hb0) ?B0 ?F0 ?X0 ?N0 ?T0 ?K0 ?d0 ?u0 ?s0 ?r0 ?_; (case B0 => k_asm); (case F0 => k_asm); (case X0 => k_asm); (case N0 => k_asm); (case T0 => k_asm); (case K0 => first | exact rfl | assumption); (case s0 => lcg_sub); (case r0 => walk_at "REST"); (case d0 => ktr_room); (case u0 => ktr_units); (case hz0 => omega); (case h00 => omega); (case h10 => omega); (case hn0 => omega); (case hm0 => omega); (case hb0 => k_ne)
    intro r9 led9 h9 tk9 F9 N9 P9 M9
    obtain ⟨x0, y0, v0, e9, p0, q0, f9⟩ := P9
    subst e9 f9
    clear M9
    (try dsimp only [List.cons_append, List.nil_append] at N9)
    k_steps
    rename LCg.Off3 _ _ _ _ => off9
    have hO1 := off3_all off9
    clear off9
    simp only [AllNe, and_true] at hO1
    obtain ⟨hI1, hC1, hD1⟩ := hO1
    (repeat (obtain ⟨_, hI1⟩ := hI1)); (repeat (obtain ⟨_, hC1⟩ := hC1)); (repeat (obtain ⟨_, hD1⟩ := hD1))
    unfold Halt
    refine' use (drawn_c w mean mg mb (n := 3) hIA ?hz1 ?h01 ?h11 ?hn1 ?hm1 ?hb1) ?B1 ?F1 ?X1 ?N1 ?T1 ?K1 ?d1 ?u1 ?s1 ?r1 ?_; (case B1 => k_asm); (case F1 => k_asm); (case X1 => k_asm); (case N1 => k_asm); (case T1 => k_asm); (case K1 => first | exact rfl | assumption); (case s1 => lcg_sub); (case r1 => walk_at "REST"); (case d1 => ktr_room); (case u1 => ktr_units); (case hz1 => omega); (case h01 => omega); (case h11 => omega); (case hn1 => omega); (case hm1 => omega); (case hb1 => k_ne)
    intro r9 led9 h9 tk9 F9 N9 P9 M9
    obtain ⟨x1, y1, v1, e9, p1, q1, f9⟩ := P9
    subst e9 f9
    clear M9
    (try dsimp only [List.cons_append, List.nil_append] at N9)
    k_steps
    rename LCg.Off3 _ _ _ _ => off9
    have hO2 := off3_all off9
    clear off9
    simp only [AllNe, and_true] at hO2
    obtain ⟨hI2, hC2, hD2⟩ := hO2
    (repeat (obtain ⟨_, hI2⟩ := hI2)); (repeat (obtain ⟨_, hC2⟩ := hC2)); (repeat (obtain ⟨_, hD2⟩ := hD2))
    unfold Halt
    refine' use (drawn_c w mean mg mb (n := 3) hIA ?hz2 ?h02 ?h12 ?hn2 ?hm2 ?hb2) ?B2 ?F2 ?X2 ?N2 ?T2 ?K2 ?d2 ?u2 ?s2 ?r2 ?_; (case B2 => k_asm); (case F2 => k_asm); (case X2 => k_asm); (case N2 => k_asm); (case T2 => k_asm); (case K2 => first | exact rfl | assumption); (case s2 => lcg_sub); (case r2 => walk_at "REST"); (case d2 => ktr_room); (case u2 => ktr_units); (case hz2 => omega); (case h02 => omega); (case h12 => omega); (case hn2 => omega); (case hm2 => omega); (case hb2 => k_ne)
    intro r9 led9 h9 tk9 F9 N9 P9 M9
    obtain ⟨x2, y2, v2, e9, p2, q2, f9⟩ := P9
    subst e9 f9
    clear M9
    (try dsimp only [List.cons_append, List.nil_append] at N9)
    k_steps
    rename LCg.Off3 _ _ _ _ => off9
    have hO3 := off3_all off9
    clear off9
    simp only [AllNe, and_true] at hO3
    obtain ⟨hI3, hC3, hD3⟩ := hO3
    (repeat (obtain ⟨_, hI3⟩ := hI3)); (repeat (obtain ⟨_, hC3⟩ := hC3)); (repeat (obtain ⟨_, hD3⟩ := hD3))
    unfold Halt
    refine' use (drawn_c w mean mg mb (n := 3) hIA ?hz3 ?h03 ?h13 ?hn3 ?hm3 ?hb3) ?B3 ?F3 ?X3 ?N3 ?T3 ?K3 ?d3 ?u3 ?s3 ?r3 ?_; (case B3 => k_asm); (case F3 => k_asm); (case X3 => k_asm); (case N3 => k_asm); (case T3 => k_asm); (case K3 => first | exact rfl | assumption); (case s3 => lcg_sub); (case r3 => walk_at "REST"); (case d3 => ktr_room); (case u3 => ktr_units); (case hz3 => omega); (case h03 => omega); (case h13 => omega); (case hn3 => omega); (case hm3 => omega); (case hb3 => k_ne)
    intro r9 led9 h9 tk9 F9 N9 P9 M9
    obtain ⟨x3, y3, v3, e9, p3, q3, f9⟩ := P9
    subst e9 f9
    clear M9
    (try dsimp only [List.cons_append, List.nil_append] at N9)
    k_steps
    unfold Halt
    rename News _ _ _ _ => N5
    refine join_any (ys := [_, _, _, _]) ⟨_, (N5 _ (.head _)).1, rfl, _, rfl⟩ (.cons _ _ (.cons _ _ (.cons _ _ (.cons _ _ .nil)))) (by simp only [List.map_cons, List.map_nil, List.sum_cons, List.sum_nil]; omega) fun whole tw k hwh => ?_
    have hwl := congrArg List.length hwh
    simp only [List.map_cons, List.map_nil, List.flatten_cons, List.flatten_nil, List.length_append, List.length_nil, codes_length] at hwl
    have hwl2 : (whole.length : Int) ≤ 100 := by omega
    k_steps
    rename Fr _ _ _ _ => F6
    rename News _ _ _ _ => N6
    refine' hret4 _ _ _ _ _ _ _ _ whole _ tw _ _ _ _ _ _ _ _ _ _ _ _ _ _ _ _ _ _ _ _ _ _ _ _ _ _ _ _ _ _ _ _ _ _ _ _ _ _ _ _ _ _ _ _ _ _ _ _ _ _ (lawM_head F6) ?oc ?N ?I ?s0 ?s1 ?lo ?bl ?ap ?la0 ?lb0 ?lc0 ?la1 ?lb1 ?lc1 ?la2 ?lb2 ?lc2 ?la3 ?lb3 ?lc3 hwh
    case oc => assumption
    case N => exact news_sub N6 (by lcg_sub)
    case I => exact hIA
    case s0 => decide
    case s1 => decide
    case bl => k_ne
    case ap => (intro p hp; (repeat (rcases List.mem_cons.mp hp with rfl | hp; (exact ⟨by (show _ ≠ _); k_ne, by (show _ ≠ _); k_ne⟩))); exact (List.not_mem_nil hp).elim)
    case lo => ((repeat (rename _ ∧ _ => hc; (obtain ⟨_, _⟩ := hc))); intro p hp; (repeat (rcases List.mem_cons.mp hp with rfl | hp; (dsimp only; assumption))); exact (List.not_mem_nil hp).elim)
    case la0 => omega
    case lb0 => omega
    case lc0 => assumption
    case la1 => omega
    case lb1 => omega
    case lc1 => assumption
    case la2 => omega
    case lb2 => omega
    case lc2 => assumption
    case la3 => omega
    case lb3 => omega
    case lc3 => assumption
end

section
variable (w : World) (mean : ExcName → Option Value) (mg mb : Str → Option Value)
open KStt
theorem Way.txt_is (ts : List Str) : ∀ V : Way, ∃ x, V.txt ts = codes x
  | .leaf _ => ⟨_, rfl⟩
  | .node x y => by
    obtain ⟨a, ha⟩ := Way.txt_is ts x
    obtain ⟨b, hb⟩ := Way.txt_is ts y
    exact ⟨a ++ b, by simp only [Way.txt, ha, hb, codes_append]⟩
/-- all that stands behind the fourth statement -/
theorem law_rest {st4 st5 st6 st7 st8 st9 st10 st11 st12 st13 : Stmt} {h₀ : Heap} {L f : Addr} {cd : Value} {s : Shared} {Q : Flow → Shared → Prop} {E : Value → Shared → Prop}
    {ts : List Str} {whole : Str} {size : Int} {tkA wa ta bag ls : Addr} {oc : Obj} {spot : Int} {tz tw tp : Tok} {u0 uw ut ub ul : Nat} {wv tv vs : List Value} {ns : List Int} {Ws : List Way} {sv : Option Value} {fz : List (Addr × Obj)}
    (k4 : lawRec.body[4]? = some st4) (k5 : lawRec.body[5]? = some st5) (k6 : lawRec.body[6]? = some st6) (k7 : lawRec.body[7]? = some st7) (k8 : lawRec.body[8]? = some st8) (k9 : lawRec.body[9]? = some st9) (k10 : lawRec.body[10]? = some st10) (k11 : lawRec.body[11]? = some st11) (k12 : lawRec.body[12]? = some st12) (k13 : lawRec.body[13]? = some st13)
    (B : Below callerA h₀ [] h₀) (F : Fr h₀ L s.heap (lawM (some .none) none (some (.int size tz)) (some (.ref tkA)) (some (.ref wa)) (some (.str whole tw)) (some (.ref ta)) sv)) (X : (Mine.hd.heap_39 w.params).In h₀)
    (N : News h₀ L s.heap ((tkA, W.listOf #[] u0) :: (bag, W.listOf #[.ref ls, .int spot tp] ub) :: (ls, W.listOf vs.toArray ul) :: (L + 1, oc) :: fz)) (T : Top Mine.hd.view_39 (looseW Mine.hd.view_39 [Str.ofString "BasicError"]) mean mg mb h₀) (hE : PassesOwn (model PySem.Challenge.rw_xm0013_01.row.prog w) (callerA.deeper (envOfC lawRec.name lawRec.scope L f cd)) (envOfC lawRec.name lawRec.scope L f cd) E)
    (hoc : oc.data = Data.cell (some (.ref bag))) (hi : IntsAre vs ns) (hz : ns.length ≤ 100) (q0 : 0 ≤ spot) (q1 : spot ≤ 1000)
    (hlo : ∀ p ∈ (bag, W.listOf #[.ref ls, .int spot tp] ub) :: (ls, W.listOf vs.toArray ul) :: (L + 1, oc) :: fz, @LT.lt Nat _ p.1 tkA) (hbl : @Ne Nat bag ls) (hap : ∀ p ∈ (L + 1, oc) :: fz, @Ne Nat p.1 bag ∧ @Ne Nat p.1 ls)
    (hta : (ta, W.listOf tv.toArray ut) ∈ fz) (hwa : (wa, W.listOf wv.toArray uw) ∈ fz) (tok : TsOk ts) (h4 : ts.length ≤ 4) (htl : tv.length = ts.length) (htv : ∀ (i : Nat) (x : Str), ts[i]? = some x → ∃ t, tv[i]? = some (.str x t))
    (hwl : wv.length = Ws.length) (hw : ∀ (i : Nat) (V : Way) (v : Value), Ws[i]? = some V → wv[i]? = some v → WayIn fz V v ∧ V.ok ts ∧ V.lvs ≤ 4 ∧ 2 ≤ V.lvs ∧ V.txt ts = codes whole ∧ V.sgn ts ≤ 5 * size) (hsz : size = whole.length) (hs1 : 1 ≤ size) (hs2 : size ≤ 12) (hpos : 0 < Ws.length) (hasc : whole.cps.all (· < 128) = true) (hlen : Ws.length ≤ 5)
    (hmin : ∀ (S : Sp) (p : Pl) (way : Option Value) (h1 : Heap) (t1 : Nat) (ks : List Value) (u' : Nat) (Q1 : Flow → Shared → Prop), IntsAre ks (Ws.map fun V => V.sgn ts) → Fr h₀ L h1 (lawM (some (.ref S.sp)) way (some (.int size tz)) (some (.ref tkA)) (some (.ref wa)) (some (.str whole tw)) (some (.ref ta)) sv) →
      News h₀ L h1 (stL S [p] ++ (tkA, W.listOf ks.toArray u') :: (bag, W.listOf #[.ref ls, .int spot tp] ub) :: (ls, W.listOf vs.toArray ul) :: (L + 1, oc) :: fz) →
      (∀ h2 t2, Fr h₀ L h2 (lawM (some (.ref S.sp)) way (some (.int size tz)) (some (.ref tkA)) (some (.ref wa)) (some (.str whole tw)) (some (.ref ta)) sv) → News h₀ L h2 (stL S [p] ++ (tkA, W.listOf ks.toArray u') :: (bag, W.listOf #[.ref ls, .int spot tp] ub) :: (ls, W.listOf vs.toArray ul) :: (L + 1, oc) :: fz) → Q1 .next { s with heap := h2, toks := t2 }) →
      wpAny (model PySem.Challenge.rw_xm0013_01.row.prog w) (callerA.deeper (envOfC lawRec.name lawRec.scope L f cd)) (exec st5 (envOfC lawRec.name lawRec.scope L f cd)) Q1 E { s with heap := h1, toks := t1 })
    (hret : ∀ h' tk' m', Fr h₀ L h' m' → Q (.ret (.bool true)) { s with heap := h', toks := tk' }) :
    wpAny (model PySem.Challenge.rw_xm0013_01.row.prog w) (callerA.deeper (envOfC lawRec.name lawRec.scope L f cd)) (execs [st4, st5, st6, st7, st8, st9, st10, st11, st12, st13] (envOfC lawRec.name lawRec.scope L f cd)) Q E s := by
  have hlen1 : ∀ V : Way, V.txt ts = codes whole → V.len ts = size := fun V e => by rw [Way.len, e, codes_length, hsz]
  have hsub : ∀ p ∈ fz, p ∈ (bag, W.listOf #[.ref ls, .int spot tp] ub) :: (ls, W.listOf vs.toArray ul) :: (L + 1, oc) :: fz := fun p hp => .tail _ (.tail _ (.tail _ hp))
  refine wpAny_execs_cons (law_loop w mean mg mb k4 B F X N T hE hlo (hsub _ hta) (hsub _ hwa) tok h4 htl htv hwl (fun i V v e1 e2 => ?_) hsz hs1 hs2 hpos hasc hlen ?_)
  · obtain ⟨w1, w2, w3, w4, w5, w6⟩ := hw i V v e1 e2
    have := Way.need_le (ts := ts) V
    have := hlen1 V w5
    exact ⟨w1.sub hsub, w2, w3, w4, w5, w6, by omega⟩
  intro S p way h1 t1 ks u1 V F1 N1 hks hV hD
  show wpAny _ _ (execs _ _) _ _ _
  refine wpAny_execs_cons (hmin S p way h1 t1 ks u1 _ hks F1 N1 ?_)
  intro h2 t2 F2 N2
  show wpAny _ _ (execs _ _) _ _ _
  have hvl : Ws.length - 1 < wv.length := by omega
  obtain ⟨w1, w2, w3, w4, w5, w6⟩ := hw (Ws.length - 1) V _ hV (List.getElem?_eq_getElem hvl)
  refine wpAny_execs_cons (law_coll w mean mg mb (ts := ts) k6 B F2 X N2 T hlo hks ?_ (by rw [List.length_map]; omega) hD hsz hs1 hs2 hasc (Way.sgn_nn V) w6 ?_)
  · rw [List.getLast?_map, List.getLast?_eq_getElem?, hV]; rfl
  intro h3 t3 F3 N3
  show wpAny _ _ (execs _ _) _ _ _
  refine wpAny_execs_cons (law_pick w mean mg mb (fz := fz) (tp := tp) (ub := ub) (ul := ul) (uw := uw) k7 B F3 X (news_sub N3 fun x hx => ?_) T hoc hi hz q0 q1 hbl hap hwa (by omega) (by omega) hs1 hs2 ?_)
  · rcases List.mem_cons.mp hx with rfl | hx
    · exact .head _
    rcases List.mem_cons.mp hx with rfl | hx
    · exact .tail _ (.head _)
    rcases List.mem_cons.mp hx with rfl | hx
    · exact .tail _ (.tail _ (.head _))
    rcases List.mem_cons.mp hx with rfl | hx
    · exact hsub _ hwa
    · exact hsub _ hx
  intro S2 v i h4' t4 hv F4 N4 O4 n4 c4 lo4
  show wpAny _ _ (execs _ _) _ _ _
  have hiw : i < Ws.length := by have := (List.getElem?_eq_some_iff.mp hv).1; omega
  obtain ⟨V2, hV2⟩ : ∃ V, Ws[i]? = some V := ⟨_, List.getElem?_eq_getElem hiw⟩
  obtain ⟨y1, y2, y3, y4, y5, y6⟩ := hw i V2 v hV2 hv
  have hl2 := hlen1 V2 y5
  refine law_twice w mean mg mb (ts := ts) k8 k9 B F4 X N4 T O4 n4 c4 lo4 hta tok h4 htl htv y1 y2 y3 y5 (by have := Way.need_le (ts := ts) V2; omega) hs2 hasc ?_
  intro S3 h5 t5 F5 N5
  rcases V2 with j | ⟨Va, Vb⟩
  · simp [Way.lvs] at y4
  obtain ⟨x1, hx1⟩ := Way.txt_is ts Va
  obtain ⟨x2, hx2⟩ := Way.txt_is ts Vb
  refine law_last w mean mg mb (ts := ts) k10 k11 k12 k13 B F5 X N5 T hta tok h4 htl htv y1 y2 y3 y5 hx1 hx2 hl2.symm hs1 hs2 hasc ?_
  intro h6 t6 m6 F6
  exact hret h6 t6 m6 F6
end

section
open KStt
theorem ints_cons {ks : List Value} {a : Int} {r : List Int} (h : IntsAre ks (a :: r)) : ∃ z k', ks = .int a z :: k' ∧ IntsAre k' r := by
  cases h with
  | cons n t h => exact ⟨_, _, rfl, h⟩
theorem ints_nil {ks : List Value} (h : IntsAre ks []) : ks = [] := by cases h; rfl
theorem News.two {h₀ h : Heap} {L : Addr} {big : List (Addr × Obj)} {a b : Addr × Obj} (N : News h₀ L h big) (ha : a ∈ big) (hb : b ∈ big) : News h₀ L h (a :: b :: big) := fun p hp => by
  rcases List.mem_cons.mp hp with rfl | hp
  · exact N _ ha
  rcases List.mem_cons.mp hp with rfl | hp
  · exact N _ hb
  · exact N _ hp
theorem whole_asc {whole : Str} {ts : List Str} (h : codes whole = (ts.map codes).flatten) (ha : ∀ x ∈ ts, x.cps.all (· < 128) = true) : whole.cps.all (· < 128) = true := by
  rw [Array.all_eq_true']
  intro c hc
  have hm : (c : Int) ∈ codes whole := by
    simp only [codes, List.mem_map]
    exact ⟨c, by simpa using hc, rfl⟩
  rw [h] at hm
  obtain ⟨l, hl, hcl⟩ := List.mem_flatten.mp hm
  obtain ⟨x, hx, rfl⟩ := List.mem_map.mp hl
  have := codes_range (ha x hx) _ hcl
  simp only [decide_eq_true_eq]
  omega
theorem tsok3 {X0 X1 X2 : Str} (l0 : 1 ≤ (X0.length : Int)) (m0 : (X0.length : Int) ≤ 3) (n0 : X0.cps.all (· < 128) = true) (l1 : 1 ≤ (X1.length : Int)) (m1 : (X1.length : Int) ≤ 3) (n1 : X1.cps.all (· < 128) = true) (l2 : 1 ≤ (X2.length : Int)) (m2 : (X2.length : Int) ≤ 3) (n2 : X2.cps.all (· < 128) = true) : TsOk [X0, X1, X2] := by
  constructor <;> (intro x hx; simp only [List.mem_cons, List.not_mem_nil, or_false] at hx; rcases hx with rfl | rfl | rfl <;> first | assumption | omega)
theorem tvs3 {X0 X1 X2 : Str} {t0 t1 t2 : Tok} : ∀ (i : Nat) (x : Str), ([X0, X1, X2] : List Str)[i]? = some x → ∃ t, ([.str X0 t0, .str X1 t1, .str X2 t2] : List Value)[i]? = some (.str x t) := by
  intro i x h
  rcases i with _ | (_ | (_ | i)) <;> simp at h
  · subst h; exact ⟨_, rfl⟩
  · subst h; exact ⟨_, rfl⟩
  · subst h; exact ⟨_, rfl⟩
theorem wys3 {X0 X1 X2 whole : Str} {t0 t1 t2 : Tok} {wa ta T2 T1 T4 T3 : Addr} {z1 z2 z3 z4 z5 z6 : Tok} {uw ut : Nat} (hwh : codes whole = ([X0, X1, X2].map codes).flatten) : ∀ (i : Nat) (V : Way) (v : Value), ([.node (.leaf 0) (.node (.leaf 1) (.leaf 2)), .node (.node (.leaf 0) (.leaf 1)) (.leaf 2)] : List Way)[i]? = some V → ([.ref T2, .ref T4] : List Value)[i]? = some v →
    WayIn ((wa, W.listOf #[.ref T2, .ref T4] uw) :: (ta, W.listOf #[.str X0 t0, .str X1 t1, .str X2 t2] ut) :: [(T2, tup2 (.int 0 z1) (.ref T1)), (T1, tup2 (.int 1 z2) (.int 2 z3)), (T4, tup2 (.ref T3) (.int 2 z6)), (T3, tup2 (.int 0 z4) (.int 1 z5))]) V v ∧ V.ok [X0, X1, X2] ∧ V.lvs ≤ 4 ∧ 2 ≤ V.lvs ∧ V.txt [X0, X1, X2] = codes whole ∧ V.sgn [X0, X1, X2] ≤ 5 * (whole.length : Int) := by
  have hl := congrArg List.length hwh
  simp only [List.map_cons, List.map_nil, List.flatten_cons, List.flatten_nil, List.length_append, List.length_nil, codes_length] at hl
  intro i V v h1 h2
  rcases i with _ | (_ | i) <;> simp at h1 h2
  · subst h1 h2
    refine ⟨⟨_, .int 0 z1, .ref T1, rfl, .tail _ (.tail _ (.head _)), ⟨_, rfl⟩, ⟨_, .int 1 z2, .int 2 z3, rfl, .tail _ (.tail _ (.tail _ (.head _))), ⟨_, rfl⟩, ⟨_, rfl⟩⟩⟩, by simp [Way.ok], by decide, by decide, by rw [hwh]; simp [Way.txt], ?_⟩
    simp only [Way.sgn, Way.len, Way.txt, List.length_append, codes_length, List.getD_cons_zero, List.getD_cons_succ]
    omega
  · subst h1 h2
    refine ⟨⟨_, .ref T3, .int 2 z6, rfl, .tail _ (.tail _ (.tail _ (.tail _ (.head _)))), ⟨_, .int 0 z4, .int 1 z5, rfl, .tail _ (.tail _ (.tail _ (.tail _ (.tail _ (.head _))))), ⟨_, rfl⟩, ⟨_, rfl⟩⟩, ⟨_, rfl⟩⟩, by simp [Way.ok], by decide, by decide, by rw [hwh]; simp [Way.txt], ?_⟩
    simp only [Way.sgn, Way.len, Way.txt, List.length_append, codes_length, List.getD_cons_zero, List.getD_cons_succ]
    omega
theorem least_is3 {X0 X1 X2 : Str} : ∀ M : Int, least3 (X0.length : Int) (X1.length : Int) (X2.length : Int) = M → min (Way.sgn [X0, X1, X2] (.node (.leaf 0) (.node (.leaf 1) (.leaf 2)))) (Way.sgn [X0, X1, X2] (.node (.node (.leaf 0) (.leaf 1)) (.leaf 2))) = M := by
  intro M h
  subst h
  simp only [Way.sgn, Way.len, Way.txt, List.length_append, codes_length, List.getD_cons_zero, List.getD_cons_succ, least4, least3, least2]
  omega
theorem tsok4 {X0 X1 X2 X3 : Str} (l0 : 1 ≤ (X0.length : Int)) (m0 : (X0.length : Int) ≤ 3) (n0 : X0.cps.all (· < 128) = true) (l1 : 1 ≤ (X1.length : Int)) (m1 : (X1.length : Int) ≤ 3) (n1 : X1.cps.all (· < 128) = true) (l2 : 1 ≤ (X2.length : Int)) (m2 : (X2.length : Int) ≤ 3) (n2 : X2.cps.all (· < 128) = true) (l3 : 1 ≤ (X3.length : Int)) (m3 : (X3.length : Int) ≤ 3) (n3 : X3.cps.all (· < 128) = true) : TsOk [X0, X1, X2, X3] := by
  constructor <;> (intro x hx; simp only [List.mem_cons, List.not_mem_nil, or_false] at hx; rcases hx with rfl | rfl | rfl | rfl <;> first | assumption | omega)
theorem tvs4 {X0 X1 X2 X3 : Str} {t0 t1 t2 t3 : Tok} : ∀ (i : Nat) (x : Str), ([X0, X1, X2, X3] : List Str)[i]? = some x → ∃ t, ([.str X0 t0, .str X1 t1, .str X2 t2, .str X3 t3] : List Value)[i]? = some (.str x t) := by
  intro i x h
  rcases i with _ | (_ | (_ | (_ | i))) <;> simp at h
  · subst h; exact ⟨_, rfl⟩
  · subst h; exact ⟨_, rfl⟩
  · subst h; exact ⟨_, rfl⟩
  · subst h; exact ⟨_, rfl⟩
theorem wys4 {X0 X1 X2 X3 whole : Str} {t0 t1 t2 t3 : Tok} {wa ta T5 T2 T1 T6 T4 T3 T9 T7 T8 T14 T11 T10 T15 T13 T12 : Addr} {z1 z2 z3 z4 z5 z6 z7 z8 z9 z10 z11 z12 z13 z14 z15 z16 z17 z18 z19 : Tok} {uw ut : Nat} (hwh : codes whole = ([X0, X1, X2, X3].map codes).flatten) : ∀ (i : Nat) (V : Way) (v : Value), ([.node (.leaf 0) (.node (.leaf 1) (.node (.leaf 2) (.leaf 3))), .node (.leaf 0) (.node (.node (.leaf 1) (.leaf 2)) (.leaf 3)), .node (.node (.leaf 0) (.leaf 1)) (.node (.leaf 2) (.leaf 3)), .node (.node (.leaf 0) (.node (.leaf 1) (.leaf 2))) (.leaf 3), .node (.node (.node (.leaf 0) (.leaf 1)) (.leaf 2)) (.leaf 3)] : List Way)[i]? = some V → ([.ref T5, .ref T6, .ref T9, .ref T14, .ref T15] : List Value)[i]? = some v →
    WayIn ((wa, W.listOf #[.ref T5, .ref T6, .ref T9, .ref T14, .ref T15] uw) :: (ta, W.listOf #[.str X0 t0, .str X1 t1, .str X2 t2, .str X3 t3] ut) :: [(T5, tup2 (.int 0 z1) (.ref T2)), (T2, tup2 (.int 1 z2) (.ref T1)), (T1, tup2 (.int 2 z3) (.int 3 z4)), (T6, tup2 (.int 0 z1) (.ref T4)), (T4, tup2 (.ref T3) (.int 3 z7)), (T3, tup2 (.int 1 z5) (.int 2 z6)), (T9, tup2 (.ref T7) (.ref T8)), (T7, tup2 (.int 0 z8) (.int 1 z9)), (T8, tup2 (.int 2 z10) (.int 3 z11)), (T14, tup2 (.ref T11) (.int 3 z18)), (T11, tup2 (.int 0 z12) (.ref T10)), (T10, tup2 (.int 1 z13) (.int 2 z14)), (T15, tup2 (.ref T13) (.int 3 z19)), (T13, tup2 (.ref T12) (.int 2 z17)), (T12, tup2 (.int 0 z15) (.int 1 z16))]) V v ∧ V.ok [X0, X1, X2, X3] ∧ V.lvs ≤ 4 ∧ 2 ≤ V.lvs ∧ V.txt [X0, X1, X2, X3] = codes whole ∧ V.sgn [X0, X1, X2, X3] ≤ 5 * (whole.length : Int) := by
  have hl := congrArg List.length hwh
  simp only [List.map_cons, List.map_nil, List.flatten_cons, List.flatten_nil, List.length_append, List.length_nil, codes_length] at hl
  intro i V v h1 h2
  rcases i with _ | (_ | (_ | (_ | (_ | i)))) <;> simp at h1 h2
  · subst h1 h2
    refine ⟨⟨_, .int 0 z1, .ref T2, rfl, .tail _ (.tail _ (.head _)), ⟨_, rfl⟩, ⟨_, .int 1 z2, .ref T1, rfl, .tail _ (.tail _ (.tail _ (.head _))), ⟨_, rfl⟩, ⟨_, .int 2 z3, .int 3 z4, rfl, .tail _ (.tail _ (.tail _ (.tail _ (.head _)))), ⟨_, rfl⟩, ⟨_, rfl⟩⟩⟩⟩, by simp [Way.ok], by decide, by decide, by rw [hwh]; simp [Way.txt], ?_⟩
    simp only [Way.sgn, Way.len, Way.txt, List.length_append, codes_length, List.getD_cons_zero, List.getD_cons_succ]
    omega
  · subst h1 h2
    refine ⟨⟨_, .int 0 z1, .ref T4, rfl, .tail _ (.tail _ (.tail _ (.tail _ (.tail _ (.head _))))), ⟨_, rfl⟩, ⟨_, .ref T3, .int 3 z7, rfl, .tail _ (.tail _ (.tail _ (.tail _ (.tail _ (.tail _ (.head _)))))), ⟨_, .int 1 z5, .int 2 z6, rfl, .tail _ (.tail _ (.tail _ (.tail _ (.tail _ (.tail _ (.tail _ (.head _))))))), ⟨_, rfl⟩, ⟨_, rfl⟩⟩, ⟨_, rfl⟩⟩⟩, by simp [Way.ok], by decide, by decide, by rw [hwh]; simp [Way.txt], ?_⟩
    simp only [Way.sgn, Way.len, Way.txt, List.length_append, codes_length, List.getD_cons_zero, List.getD_cons_succ]
    omega
  · subst h1 h2
    refine ⟨⟨_, .ref T7, .ref T8, rfl, .tail _ (.tail _ (.tail _ (.tail _ (.tail _ (.tail _ (.tail _ (.tail _ (.head _)))))))), ⟨_, .int 0 z8, .int 1 z9, rfl, .tail _ (.tail _ (.tail _ (.tail _ (.tail _ (.tail _ (.tail _ (.tail _ (.tail _ (.head _))))))))), ⟨_, rfl⟩, ⟨_, rfl⟩⟩, ⟨_, .int 2 z10, .int 3 z11, rfl, .tail _ (.tail _ (.tail _ (.tail _ (.tail _ (.tail _ (.tail _ (.tail _ (.tail _ (.tail _ (.head _)))))))))), ⟨_, rfl⟩, ⟨_, rfl⟩⟩⟩, by simp [Way.ok], by decide, by decide, by rw [hwh]; simp [Way.txt], ?_⟩
    simp only [Way.sgn, Way.len, Way.txt, List.length_append, codes_length, List.getD_cons_zero, List.getD_cons_succ]
    omega
  · subst h1 h2
    refine ⟨⟨_, .ref T11, .int 3 z18, rfl, .tail _ (.tail _ (.tail _ (.tail _ (.tail _ (.tail _ (.tail _ (.tail _ (.tail _ (.tail _ (.tail _ (.head _))))))))))), ⟨_, .int 0 z12, .ref T10, rfl, .tail _ (.tail _ (.tail _ (.tail _ (.tail _ (.tail _ (.tail _ (.tail _ (.tail _ (.tail _ (.tail _ (.tail _ (.head _)))))))))))), ⟨_, rfl⟩, ⟨_, .int 1 z13, .int 2 z14, rfl, .tail _ (.tail _ (.tail _ (.tail _ (.tail _ (.tail _ (.tail _ (.tail _ (.tail _ (.tail _ (.tail _ (.tail _ (.tail _ (.head _))))))))))))), ⟨_, rfl⟩, ⟨_, rfl⟩⟩⟩, ⟨_, rfl⟩⟩, by simp [Way.ok], by decide, by decide, by rw [hwh]; simp [Way.txt], ?_⟩
    simp only [Way.sgn, Way.len, Way.txt, List.length_append, codes_length, List.getD_cons_zero, List.getD_cons_succ]
    omega
  · subst h1 h2
    refine ⟨⟨_, .ref T13, .int 3 z19, rfl, .tail _ (.tail _ (.tail _ (.tail _ (.tail _ (.tail _ (.tail _ (.tail _ (.tail _ (.tail _ (.tail _ (.tail _ (.tail _ (.tail _ (.head _)))))))))))))), ⟨_, .ref T12, .int 2 z17, rfl, .tail _ (.tail _ (.tail _ (.tail _ (.tail _ (.tail _ (.tail _ (.tail _ (.tail _ (.tail _ (.tail _ (.tail _ (.tail _ (.tail _ (.tail _ (.head _))))))))))))))), ⟨_, .int 0 z15, .int 1 z16, rfl, .tail _ (.tail _ (.tail _ (.tail _ (.tail _ (.tail _ (.tail _ (.tail _ (.tail _ (.tail _ (.tail _ (.tail _ (.tail _ (.tail _ (.tail _ (.tail _ (.head _)))))))))))))))), ⟨_, rfl⟩, ⟨_, rfl⟩⟩, ⟨_, rfl⟩⟩, ⟨_, rfl⟩⟩, by simp [Way.ok], by decide, by decide, by rw [hwh]; simp [Way.txt], ?_⟩
    simp only [Way.sgn, Way.len, Way.txt, List.length_append, codes_length, List.getD_cons_zero, List.getD_cons_succ]
    omega
theorem least_is4 {X0 X1 X2 X3 : Str} : ∀ M : Int, least4 (X0.length : Int) (X1.length : Int) (X2.length : Int) (X3.length : Int) = M → min (min (min (min (Way.sgn [X0, X1, X2, X3] (.node (.leaf 0) (.node (.leaf 1) (.node (.leaf 2) (.leaf 3))))) (Way.sgn [X0, X1, X2, X3] (.node (.leaf 0) (.node (.node (.leaf 1) (.leaf 2)) (.leaf 3))))) (Way.sgn [X0, X1, X2, X3] (.node (.node (.leaf 0) (.leaf 1)) (.node (.leaf 2) (.leaf 3))))) (Way.sgn [X0, X1, X2, X3] (.node (.node (.leaf 0) (.node (.leaf 1) (.leaf 2))) (.leaf 3)))) (Way.sgn [X0, X1, X2, X3] (.node (.node (.node (.leaf 0) (.leaf 1)) (.leaf 2)) (.leaf 3))) = M := by
  intro M h
  subst h
  simp only [Way.sgn, Way.len, Way.txt, List.length_append, codes_length, List.getD_cons_zero, List.getD_cons_succ, least4, least3, least2]
  omega
theorem body_split : ∃ s0 s1 s2 s3 s4 s5 s6 s7 s8 s9 s10 s11 s12 s13 : Stmt, lawRec.body = [s0, s1, s2, s3, s4, s5, s6, s7, s8, s9, s10, s11, s12, s13] := ⟨_, _, _, _, _, _, _, _, _, _, _, _, _, _, rfl⟩
variable (w : World) (mean : ExcName → Option Value) (mg mb : Str → Option Value)
theorem law_walk {h₀ : Heap} {L f sc : Addr} {cd : Value} {s : Shared} {Q : Flow → Shared → Prop} {E : Value → Shared → Prop} {oc : Obj} {vs : List Value} {ns : List Int}
    (B : Below callerA h₀ [] h₀) (F : Fr h₀ L s.heap (fun y => if y = Str.ofString "script" then some (.ref sc) else none)) (X : (Mine.hd.heap_39 w.params).In h₀)
    (N : News h₀ L s.heap [(L + 1, oc)]) (T : Top Mine.hd.view_39 (looseW Mine.hd.view_39 [Str.ofString "BasicError"]) mean mg mb h₀) (hE : PassesOwn (model PySem.Challenge.rw_xm0013_01.row.prog w) (callerA.deeper (envOfC lawRec.name lawRec.scope L f cd)) (envOfC lawRec.name lawRec.scope L f cd) E)
    (hoc : oc.data = Data.cell none) (hsc : h₀.IsList sc vs.toArray) (hi : IntsAre vs ns) (hz : ns.length ≤ 63) (hret : ∀ h' tk' m', Fr h₀ L h' m' → Q (.ret (.bool true)) { s with heap := h', toks := tk' }) :
    wpAny (model PySem.Challenge.rw_xm0013_01.row.prog w) (callerA.deeper (envOfC lawRec.name lawRec.scope L f cd)) (execs lawRec.body (envOfC lawRec.name lawRec.scope L f cd)) Q E s := by
  obtain ⟨s0, s1, s2, s3, s4, s5, s6, s7, s8, s9, s10, s11, s12, s13, e⟩ := body_split
  have k0 : lawRec.body[0]? = some s0 := by rw [e]; rfl
  have k1 : lawRec.body[1]? = some s1 := by rw [e]; rfl
  have k2 : lawRec.body[2]? = some s2 := by rw [e]; rfl
  have k3 : lawRec.body[3]? = some s3 := by rw [e]; rfl
  have k4 : lawRec.body[4]? = some s4 := by rw [e]; rfl
  have k5 : lawRec.body[5]? = some s5 := by rw [e]; rfl
  have k6 : lawRec.body[6]? = some s6 := by rw [e]; rfl
  have k7 : lawRec.body[7]? = some s7 := by rw [e]; rfl
  have k8 : lawRec.body[8]? = some s8 := by rw [e]; rfl
  have k9 : lawRec.body[9]? = some s9 := by rw [e]; rfl
  have k10 : lawRec.body[10]? = some s10 := by rw [e]; rfl
  have k11 : lawRec.body[11]? = some s11 := by rw [e]; rfl
  have k12 : lawRec.body[12]? = some s12 := by rw [e]; rfl
  have k13 : lawRec.body[13]? = some s13 := by rw [e]; rfl
  rw [e]
  refine law_head w mean mg mb k0 k1 k2 k3 B F X N T hoc hsc hi hz ?_ ?_
  · intro X0 X1 X2 t0 t1 t2 whole tz tw tkA wa ta bag ls oc' spot tp u0 uw ut ub ul ws T2 T1 T4 T3 z1 z2 z3 z4 z5 z6 h' tk' F' hoc' N' I' s0' s1' lo' bl' ap' l0 m0 n0 l1 m1 n1 l2 m2 n2 hwh
    have hl := congrArg List.length hwh
    simp only [List.map_cons, List.map_nil, List.flatten_cons, List.flatten_nil, List.length_append, List.length_nil, codes_length] at hl
    refine law_rest w mean mg mb (ts := [X0, X1, X2]) (tv := [.str X0 t0, .str X1 t1, .str X2 t2]) (wv := [.ref T2, .ref T4]) (Ws := [.node (.leaf 0) (.node (.leaf 1) (.leaf 2)), .node (.node (.leaf 0) (.leaf 1)) (.leaf 2)]) (ut := ut) (uw := uw) k4 k5 k6 k7 k8 k9 k10 k11 k12 k13 B F' X N' T hE hoc' I' (by rw [List.length_take]; omega) s0' s1' lo' bl' ap' (.tail _ (.head _)) (.head _) (tsok3 l0 m0 n0 l1 m1 n1 l2 m2 n2) (by simp) rfl tvs3 rfl (wys3 hwh) rfl (by omega) (by omega) (by simp) (whole_asc hwh (by intro x hx; simp only [List.mem_cons, List.not_mem_nil, or_false] at hx; rcases hx with rfl | rfl | rfl <;> assumption)) (by simp) ?_ ?_
    · intro S p way h1 t1 ks u' Q1 hks F1 N1 hr
      have hq0 := hks
      clear hks
      simp only [List.map_cons, List.map_nil] at hq0
      obtain ⟨z0', k0', rfl, hq1⟩ := ints_cons hq0
      obtain ⟨z1', k1', rfl, hq2⟩ := ints_cons hq1
      obtain rfl := ints_nil hq2
      exact law_min3 w mean mg mb (R := _) k5 B F1 X (News.two N1 (List.mem_append_right _ (.head _)) (List.mem_append_right _ (.tail _ (.tail _ (.tail _ (.tail _ (.tail _ (.head _)))))))) T m0 m1 m2 least_is3 fun h2 t2 F2 N2 => hr h2 t2 F2 (news_sub N2 fun x hx => .tail _ (.tail _ hx))
    · exact fun h6 t6 m6 F6 => hret h6 t6 m6 F6
  · intro X0 X1 X2 X3 t0 t1 t2 t3 whole tz tw tkA wa ta bag ls oc' spot tp u0 uw ut ub ul ws T5 T2 T1 T6 T4 T3 T9 T7 T8 T14 T11 T10 T15 T13 T12 z1 z2 z3 z4 z5 z6 z7 z8 z9 z10 z11 z12 z13 z14 z15 z16 z17 z18 z19 h' tk' F' hoc' N' I' s0' s1' lo' bl' ap' l0 m0 n0 l1 m1 n1 l2 m2 n2 l3 m3 n3 hwh
    have hl := congrArg List.length hwh
    simp only [List.map_cons, List.map_nil, List.flatten_cons, List.flatten_nil, List.length_append, List.length_nil, codes_length] at hl
    refine law_rest w mean mg mb (ts := [X0, X1, X2, X3]) (tv := [.str X0 t0, .str X1 t1, .str X2 t2, .str X3 t3]) (wv := [.ref T5, .ref T6, .ref T9, .ref T14, .ref T15]) (Ws := [.node (.leaf 0) (.node (.leaf 1) (.node (.leaf 2) (.leaf 3))), .node (.leaf 0) (.node (.node (.leaf 1) (.leaf 2)) (.leaf 3)), .node (.node (.leaf 0) (.leaf 1)) (.node (.leaf 2) (.leaf 3)), .node (.node (.leaf 0) (.node (.leaf 1) (.leaf 2))) (.leaf 3), .node (.node (.node (.leaf 0) (.leaf 1)) (.leaf 2)) (.leaf 3)]) (ut := ut) (uw := uw) k4 k5 k6 k7 k8 k9 k10 k11 k12 k13 B F' X N' T hE hoc' I' (by rw [List.length_take]; omega) s0' s1' lo' bl' ap' (.tail _ (.head _)) (.head _) (tsok4 l0 m0 n0 l1 m1 n1 l2 m2 n2 l3 m3 n3) (by simp) rfl tvs4 rfl (wys4 hwh) rfl (by omega) (by omega) (by simp) (whole_asc hwh (by intro x hx; simp only [List.mem_cons, List.not_mem_nil, or_false] at hx; rcases hx with rfl | rfl | rfl | rfl <;> assumption)) (by simp) ?_ ?_
    · intro S p way h1 t1 ks u' Q1 hks F1 N1 hr
      have hq0 := hks
      clear hks
      simp only [List.map_cons, List.map_nil] at hq0
      obtain ⟨z0', k0', rfl, hq1⟩ := ints_cons hq0
      obtain ⟨z1', k1', rfl, hq2⟩ := ints_cons hq1
      obtain ⟨z2', k2', rfl, hq3⟩ := ints_cons hq2
      obtain ⟨z3', k3', rfl, hq4⟩ := ints_cons hq3
      obtain ⟨z4', k4', rfl, hq5⟩ := ints_cons hq4
      obtain rfl := ints_nil hq5
      exact law_min4 w mean mg mb (R := _) k5 B F1 X (News.two N1 (List.mem_append_right _ (.head _)) (List.mem_append_right _ (.tail _ (.tail _ (.tail _ (.tail _ (.tail _ (.head _)))))))) T m0 m1 m2 m3 least_is4 fun h2 t2 F2 N2 => hr h2 t2 F2 (news_sub N2 fun x hx => .tail _ (.tail _ hx))
    · exact fun h6 t6 m6 F6 => hret h6 t6 m6 F6
end

end Mine
theorem PySem.Challenge.cw_xm0013_01_holds : PySem.Challenge.rw_xm0013_01.Holds := by
  refine Mine.hd ?_
  k_go0
  rename Fr _ _ _ _ => F0
  rename News _ _ _ _ => N0
  rename Top _ _ _ _ _ _ => T0
  rename Below _ _ _ _ => B0
  rename IntsAre _ _ => I0
  rename Heap.IsList _ _ _ => L0
  rename Frag.In _ _ => X0
  refine Mine.law_walk _ _ _ _ B0 F0 X0 N0 T0 (by passes_own) ?_ L0 I0 ?_ ?_
  · rename _ = Data.cell _ => d0
    exact d0
  · omega
  · intro h' tk' m' F'
    k_steps
