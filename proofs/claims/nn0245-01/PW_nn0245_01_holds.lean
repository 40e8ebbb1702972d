import PyProof.Rows.All
import Wide.All
import OpenK.AllK
import Wide.FinOn
import PySem.Challenge.RW_nn0245_01
open PySem PySem.W PyProof.Rows PySem.Calls
set_option Elab.async false
set_option linter.unusedVariables false
set_option linter.unusedSimpArgs false
set_option maxRecDepth 100000
namespace Mine
set_option maxHeartbeats 8000000 in
open_top hd for PySem.Challenge.rw_nn0245_01


/-- the surroundings of a call, with the fields that the proofs ask of them -/
abbrev Ar (dp un : Nat) (fr : Option (List Env)) (gd : Option (List Code)) : Around := { handled := none, depth := dp, frames := fr, guards := gd, units := un }


/-- what stands in the base of every frame -/
structure Gr (w : World) (h : Heap) : Prop where
  k : (hd.heap_39 w.params).In h
  t : ∃ p loose mean mg mb, Top p loose mean mg mb h

theorem Gr.keeps {w : World} {h h' : Heap} (G : Gr w h) (hk : ∀ b o, h.get? b = some o → h'.get? b = some o) : Gr w h' :=
  ⟨G.k.keeps hk, let ⟨p, l, me, mg, mb, T⟩ := G.t; ⟨p, l, me, mg, mb, T.keeps hk⟩⟩

def Does (w : World) (f : Addr) (d u : Nat) (vs : List Value) (news : List (Addr × Obj)) (Out : List (Addr × Obj) → Value → Prop) : Prop :=
  ∀ (dp un : Nat) (fr : Option (List Env)) (gd : Option (List Code)) (h₀ : Heap) (L : Addr) (m : Str → Option Value) (s : Shared) (Q E : Value → Shared → Prop),
    Fr h₀ L s.heap m → (hd.heap_39 w.params).In h₀ → (∃ p loose mean mg mb, Top p loose mean mg mb h₀) → News h₀ L s.heap news → dp + d < recursionLimit → un + u < cLine →
    (∀ r news' h' tk', Fr h₀ L h' m → News h₀ L h' news' → Out news' r → Q r { s with heap := h', toks := tk' }) →
    wpAny (model PySem.Challenge.rw_nn0245_01.row.prog w) (Ar dp un fr gd) (call (.ref f) vs) Q E s

def BodyEnd (g : Heap) (L : Addr) (s : Shared) (Out : List (Addr × Obj) → Value → Prop) (fl : Flow) (s' : Shared) : Prop :=
  ∃ h' tk' m' news', s' = { s with heap := h', toks := tk' } ∧ Fr g L h' m' ∧ News g L h' news' ∧ Out news' (match fl with | .ret v => v | _ => .none)

theorem BodyEnd.intro {g : Heap} {L : Addr} {s : Shared} {Out : List (Addr × Obj) → Value → Prop} {fl : Flow} {h' : Heap} {tk' : Nat} {m' : Str → Option Value} {news' : List (Addr × Obj)}
    (F : Fr g L h' m') (N : News g L h' news') (ho : Out news' (match fl with | .ret v => v | _ => .none)) : BodyEnd g L s Out fl { s with heap := h', toks := tk' } :=
  ⟨h', tk', m', news', rfl, F, N, ho⟩

section
variable {w : World} {s : Shared} {h₀ : Heap} {L : Addr} {m : Str → Option Value} {news : List (Addr × Obj)}

theorem ground (F : Fr h₀ L s.heap m) (N : News h₀ L s.heap news) :
    (∀ b o, h₀.get? b = some o → (hideAll s.heap (news.map (·.1))).get? b = some o) ∧
      ∀ L' m' news' h', Fr (hideAll s.heap (news.map (·.1))) L' h' m' → News (hideAll s.heap (news.map (·.1))) L' h' news' → Fr h₀ L h' m ∧ News h₀ L h' news' := by
  have nm : ∀ b o, h₀.get? b = some o → b ∉ news.map (·.1) := fun b o e q => by
    obtain ⟨p, hp, rfl⟩ := List.mem_map.mp q
    rw [(N p hp).2.2] at e; cases e
  have st : ∀ b o, h₀.get? b = some o → (hideAll s.heap (news.map (·.1))).get? b = some o := fun b o e => hideAll_get _ (F.keep b o e) (nm b o e)
  obtain ⟨oL, es, ep, hL, hLd, hLk, hLf⟩ := F.ns
  have nL : L ∉ news.map (·.1) := fun q => by
    obtain ⟨p, hp, e⟩ := List.mem_map.mp q
    exact (N p hp).2.1 e
  have hLg := hideAll_get (news.map (·.1)) hL nL
  refine ⟨st, fun L' m' news' h' F' N' => ⟨⟨⟨oL, es, ep, F'.keep L oL hLg, hLd, hLk, hLf⟩, fun b o e => F'.keep b o (st b o e), F.above⟩, fun p hp => ⟨(N' p hp).1, fun q => ?_, ?_⟩⟩⟩
  · have := (N' p hp).2.2; rw [q, hLg] at this; cases this
  · cases q : h₀.get? p.1 with
    | none => rfl
    | some o => have := (N' p hp).2.2; rw [st _ _ q] at this; cases this
end

theorem does_plain {w : World} {f : Addr} {d u : Nat} {vs : List Value} {news : List (Addr × Obj)} {Out : List (Addr × Obj) → Value → Prop}
    {name qual : Str} {params : Arguments} {body : List Stmt} {scope : Scope} {dV kV doc pm cdv ct oc : Value} {an od : Option Addr} {osl : Array (Option Value)} {binds : List (Str × Value)}
    (ho : (hd.heap_39 w.params).lookup f = some ⟨oc, od, .func (fnOf name qual params body scope dV kV doc pm an cdv ct), osl⟩) (hcd : codeIn (hd.heap_39 w.params) cdv qual = true)
    (hbind : ∀ s, BindsTo s (fnOf name qual params body scope dV kV doc pm an cdv ct) ⟨vs, []⟩ binds) (hloc : ∀ y ∈ binds, scope.names.lookup y.1 = some .local)
    (hcell : ∀ x ∈ scope.names, x.2 ≠ .cell) (hco : scope.isCoroutine = false) (hgen : scope.isGenerator = false) (hk : scope.kind = .function)
    (h : ∀ (dp un : Nat) (fr : Option (List Env)) (gd : Option (List Code)) (g : Heap) (L : Addr) (h₁ : Heap) (tk : Nat) (s : Shared), dp + d < recursionLimit + 1 → un + u < cLine + 3 →
      Fr g L h₁ (fun y => binds.reverse.lookup y) → (hd.heap_39 w.params).In g → (∃ p loose mean mg mb, Top p loose mean mg mb g) → News g L h₁ news → (∀ p ∈ news, p.1 < L) →
      wpAny (model PySem.Challenge.rw_nn0245_01.row.prog w) (Ar dp un fr gd) (execs body (envOf qual scope L f cdv)) (BodyEnd g L s Out) (fun _ _ => False) { s with heap := h₁, toks := tk }) (hd0 : 0 < d) : Does w f d u vs news Out := by
  intro dp un fr gd h₀ L m s Q E F X T N hdp hun ret
  refine wpAny_call ?_
  obtain ⟨st, back⟩ := ground F N
  obtain ⟨p, lo, me, mg, mb, T⟩ := T
  refine codeAny_call_def (fd := fnX name qual params body scope [] dV kV doc pm an cdv ct) (body := body) (binds := binds) (by show dp < _; omega) ((X.keeps F.keep) _ _ ho) rfl (T.nolimit.keeps F.keep) (codeRec_of (X.keeps F.keep) hcd) rfl (hbind s) hcell hloc (fun h₁ hns hk₁ => ?_) hco hgen hk
  refine wpAny_mono (h (dp + 1) (un + 3) _ gd (hideAll s.heap (news.map (·.1))) s.heap.objs.size h₁ _ s (by omega) (by omega) ⟨hns, fun b o e => hk₁ b o (of_hideAll _ e), Nat.le_of_eq (hideAll_size _ _)⟩ (X.keeps st) ⟨p, lo, me, mg, mb, T.keeps st⟩
    (fun p hp => ⟨hk₁ _ _ (N p hp).1, Nat.ne_of_lt (Heap.lt_size (N p hp).1), hideAll_none _ (List.mem_map_of_mem hp)⟩) fun p hp => Heap.lt_size (N p hp).1) (fun fl s' hl => ?_) (fun _ _ y => y.elim)
  obtain ⟨h', tk', m', news', rfl, F', N', hO⟩ := hl
  obtain ⟨F'', N''⟩ := back _ _ _ _ F' N'
  exact ret _ _ _ _ F'' N'' hO

theorem does_cells {w : World} {f : Addr} {d u : Nat} {vs : List Value} {news : List (Addr × Obj)} {Out : List (Addr × Obj) → Value → Prop}
    {name qual : Str} {params : Arguments} {body : List Stmt} {scope : Scope} {dV kV doc pm cdv ct oc : Value} {an od : Option Addr} {osl : Array (Option Value)} {binds : List (Str × Value)}
    (ho : (hd.heap_39 w.params).lookup f = some ⟨oc, od, .func (fnOf name qual params body scope dV kV doc pm an cdv ct), osl⟩) (hcd : codeIn (hd.heap_39 w.params) cdv qual = true)
    (hbind : ∀ s, BindsTo s (fnOf name qual params body scope dV kV doc pm an cdv ct) ⟨vs, []⟩ binds)
    (hkind : (binds.all fun y => scope.names.lookup y.1 == some .local || scope.names.lookup y.1 == some .cell) = true)
    (hnd : ((cellsFrom 0 scope.names []).map (·.1)).Nodup) (hco : scope.isCoroutine = false) (hgen : scope.isGenerator = false) (hk : scope.kind = .function)
    (h : ∀ (dp un : Nat) (fr : Option (List Env)) (gd : Option (List Code)) (g : Heap) (L : Addr) (h₁ : Heap) (tk : Nat) (s : Shared) (cells : List (Addr × Obj)), dp + d < recursionLimit + 1 → un + u < cLine + 3 →
      Fr g L h₁ (bindL (envOfC qual scope L f cdv).kindOf binds fun _ => none) → (hd.heap_39 w.params).In g → (∃ p loose mean mg mb, Top p loose mean mg mb g) → News g L h₁ (cells ++ news) →
      CellsAre (bindC (envOfC qual scope L f cdv).kindOf binds fun _ => none) (cellsFrom (L + 1) scope.names []) cells → (∀ p ∈ news, p.1 < L) →
      wpAny (model PySem.Challenge.rw_nn0245_01.row.prog w) (Ar dp un fr gd) (execs body (envOfC qual scope L f cdv)) (BodyEnd g L s Out) (fun _ _ => False) { s with heap := h₁, toks := tk }) (hd0 : 0 < d) : Does w f d u vs news Out := by
  intro dp un fr gd h₀ L m s Q E F X T N hdp hun ret
  refine wpAny_call ?_
  obtain ⟨st, back⟩ := ground F N
  obtain ⟨p, lo, me, mg, mb, T⟩ := T
  refine codeAny_call_function (by show dp < _; omega) ((X.keeps F.keep) _ _ ho) rfl hco hgen rfl (codeRec_of (X.keeps F.keep) hcd) (hbind s _ _ _ _ ?_)
  refine wpAny_newFunctionEnv_cells hk (kindsX hkind _) fun env' he s' x => ?_
  subst he
  refine ⟨(T.nolimit.keeps F.keep).keeps x.toInCall.keep, codeAny_func ?_⟩
  obtain ⟨h₁, tk, rfl, _⟩ := x.done
  have hk₁ := x.toInCall.keep
  obtain ⟨cells, NC, Y⟩ := Cl.news (h₀ := s.heap) (Nat.le_refl _) fun n c hm => ⟨x.cell n c (lookup_of_mem_nodup (cellsFrom_names scope.names 0 (s.heap.objs.size + 1) [] [] rfl ▸ hnd) hm), x.above n c hm⟩
  refine wpAny_mono (h (dp + 1) (un + 3) _ gd (hideAll s.heap (news.map (·.1))) s.heap.objs.size h₁ _ s cells (by omega) (by omega) ⟨x.toInCall.ns, fun b o e => hk₁ b o (of_hideAll _ e), Nat.le_of_eq (hideAll_size _ _)⟩ (X.keeps st) ⟨p, lo, me, mg, mb, T.keeps st⟩
    (fun p hp => ?_) Y fun p hp => Heap.lt_size (N p hp).1) (fun fl s' hl => ?_) (fun _ _ y => y.elim)
  · rcases List.mem_append.mp hp with hp | hp
    · refine ⟨(NC p hp).1, (NC p hp).2.1, ?_⟩
      cases q : (hideAll s.heap (news.map (·.1))).get? p.1 with
      | none => rfl
      | some o => have := of_hideAll _ q; rw [(NC p hp).2.2] at this; cases this
    · exact ⟨hk₁ _ _ (N p hp).1, Nat.ne_of_lt (Heap.lt_size (N p hp).1), hideAll_none _ (List.mem_map_of_mem hp)⟩
  · obtain ⟨h', tk', m', news', rfl, F', N', hO⟩ := hl
    obtain ⟨F'', N''⟩ := back _ _ _ _ F' N'
    exact ret _ _ _ _ F'' N'' hO


abbrev Led := List (Addr × Obj)

/-- a list object with these items stands in the ledger -/
def IsL (news : Led) (a : Addr) (vs : List Value) : Prop := ∃ o n, (a, o) ∈ news ∧ o.cls = .type "list" ∧ o.data = .seq vs.toArray n
/-- .. and it is a plain one: no dict of its own -/
def IsP (news : Led) (a : Addr) (vs : List Value) : Prop := ∃ n, (a, ({ cls := .type "list", data := .seq vs.toArray n } : Obj)) ∈ news
theorem IsP.l {news : Led} {a vs} (x : IsP news a vs) : IsL news a vs := let ⟨n, h⟩ := x; ⟨_, n, h, rfl, rfl⟩
def Ints (news : Led) (a : Addr) (ns : List Int) : Prop := ∃ vs, IsL news a vs ∧ IntsAre vs ns
structure Grid (news : Led) (g : Addr) (as : List Addr) (rows : List (List Int)) : Prop where
  head : IsL news g (as.map Value.ref)
  len : as.length = rows.length
  row : ∀ (i : Nat) (a : Addr) (r : List Int), as[i]? = some a → rows[i]? = some r → Ints news a r

def Sub (news news' : Led) : Prop := ∀ p ∈ news, p ∈ news'
/-- all but the objects at W stand as they stood -/
def SubBut (W : List Addr) (news news' : Led) : Prop := ∀ p ∈ news, p.1 ∉ W → p ∈ news'
def Fresh (news : Led) (a : Addr) : Prop := ∀ p ∈ news, p.1 ≠ a

theorem Sub.refl {a : Led} : Sub a a := fun _ h => h
theorem Sub.trans {a b c : Led} (x : Sub a b) (y : Sub b c) : Sub a c := fun p h => y p (x p h)
theorem Sub.cons {a : Led} {p : Addr × Obj} : Sub a (p :: a) := fun _ h => List.mem_cons_of_mem _ h
theorem Sub.but {W : List Addr} {a b : Led} (x : Sub a b) : SubBut W a b := fun p h _ => x p h
theorem SubBut.trans {W : List Addr} {a b c : Led} (x : SubBut W a b) (y : SubBut W b c) : SubBut W a c := fun p h n => y p (x p h n) n
theorem SubBut.nil {a b : Led} (x : SubBut [] a b) : Sub a b := fun p h => x p h (fun h => nomatch h)

theorem IsL.sub {n n' : Led} {a vs} (x : IsL n a vs) (s : Sub n n') : IsL n' a vs := let ⟨o, k, h, r⟩ := x; ⟨o, k, s _ h, r⟩
theorem IsL.but {n n' : Led} {a vs} {W : List Addr} (x : IsL n a vs) (s : SubBut W n n') (ha : a ∉ W) : IsL n' a vs := let ⟨o, k, h, r⟩ := x; ⟨o, k, s _ h ha, r⟩
theorem Ints.sub {n n' : Led} {a ns} (x : Ints n a ns) (s : Sub n n') : Ints n' a ns := let ⟨vs, h, r⟩ := x; ⟨vs, h.sub s, r⟩
theorem Ints.but {n n' : Led} {a ns} {W : List Addr} (x : Ints n a ns) (s : SubBut W n n') (ha : a ∉ W) : Ints n' a ns := let ⟨vs, h, r⟩ := x; ⟨vs, h.but s ha, r⟩
theorem Grid.sub {n n' : Led} {g as rows} (x : Grid n g as rows) (s : Sub n n') : Grid n' g as rows := ⟨x.head.sub s, x.len, fun i a r h1 h2 => (x.row i a r h1 h2).sub s⟩
theorem Grid.but {n n' : Led} {g as rows} {W : List Addr} (x : Grid n g as rows) (s : SubBut W n n') (hg : g ∉ W) (ha : ∀ a ∈ as, a ∉ W) : Grid n' g as rows :=
  ⟨x.head.but s hg, x.len, fun i a r h1 h2 => (x.row i a r h1 h2).but s (ha a (List.mem_of_getElem? h1))⟩

theorem IsL.list {h₀ h : Heap} {L : Addr} {news : Led} {a vs} (x : IsL news a vs) (N : News h₀ L h news) : h.IsList a vs.toArray :=
  let ⟨o, n, hm, hc, hd⟩ := x; ⟨o, (N _ hm).1, hc, n, hd⟩
theorem IsL.src {h₀ : Heap} {news : Led} {a vs} (x : IsL news a vs) : LCg.SrcAt h₀ a vs.toArray news := let ⟨o, n, hm, hc, hd⟩ := x; .inr ⟨o, hm, hc, n, hd⟩
theorem IsL.mk_lst {news : Led} {a vs n} (h : (a, ({ cls := .type "list", data := .seq vs n } : Obj)) ∈ news) : IsL news a vs.toList := ⟨_, n, h, rfl, by simp⟩
theorem IsL.fresh {news : Led} {a d vs} (x : IsL news a vs) (f : Fresh news d) : a ≠ d := let ⟨_, _, h, _⟩ := x; f _ h
theorem Ints.fresh {news : Led} {a d ns} (x : Ints news a ns) (f : Fresh news d) : a ≠ d := let ⟨_, h, _⟩ := x; h.fresh f
theorem Grid.rowsAt {news : Led} {g as rows} (x : Grid news g as rows) {a} (ha : a ∈ as) : ∃ r ∈ rows, Ints news a r := by
  obtain ⟨i, hi, e⟩ := List.mem_iff_getElem.mp ha
  have hr : i < rows.length := x.len ▸ hi
  exact ⟨rows[i], List.getElem_mem hr, x.row i a _ (by simp [hi, e]) (by simp [hr])⟩
theorem Grid.fresh {news : Led} {g as rows d} (x : Grid news g as rows) (f : Fresh news d) : g ≠ d ∧ d ∉ as :=
  ⟨x.head.fresh f, fun hd => by obtain ⟨r, _, hr⟩ := x.rowsAt hd; exact hr.fresh f rfl⟩
/-- two contents at one place are one -/
theorem IsL.eq {h₀ h : Heap} {L : Addr} {news : Led} (N : News h₀ L h news) {a vs ws} (x : IsL news a vs) (y : IsL news a ws) : vs = ws := by
  obtain ⟨o, n, h1, _, d1⟩ := x
  obtain ⟨o', n', h2, _, d2⟩ := y
  have e := (N _ h1).1.symm.trans (N _ h2).1
  cases e
  rw [d1] at d2
  injection d2 with d2 _
  simpa using d2

section
variable {prog : Program} {w : World} {A : Around} {E : Value → Shared → Prop} {s : Shared} {env : Env} {h₀ : Heap} {x : Str} {body : List Stmt} {Q : Flow → Shared → Prop} {m : Str → Option Value} {news : Led}

/-- the ledger without the iterator -/
def off (I : Addr) (nw : Led) : Led := nw.filter fun p => p.1 != I
theorem mem_off {I : Addr} {nw : Led} {p : Addr × Obj} : p ∈ off I nw ↔ p ∈ nw ∧ p.1 ≠ I := by simp [off]
theorem off_sub {I : Addr} {nw : Led} : Sub (off I nw) nw := fun _ h => (mem_off.mp h).1
theorem sub_off {I : Addr} {news nw : Led} (h : ∀ p ∈ news, p.1 ≠ I) (s : Sub news nw) : Sub news (off I nw) := fun p hp => mem_off.mpr ⟨s p hp, h p hp⟩

/-- the end of a loop's turn: what the loop's own objects are stands as it stood, J holds of the ledger off the iterator -/
def TurnEnd (h₀ : Heap) (L : Addr) (I : Addr) (own : Led) (J : (Str → Option Value) → Led → Prop) (s₁ : Shared) (Q : Flow → Shared → Prop) (f : Flow) (s₂ : Shared) : Prop :=
  match f with
  | .ret v => Q (.ret v) s₂
  | .brk => Q .next s₂
  | _ => ∃ h' tk m' nw', s₂ = { s₁ with heap := h', toks := tk } ∧ Fr h₀ L h' m' ∧ News h₀ L h' nw' ∧ Sub own nw' ∧ J m' (off I nw')
theorem TurnEnd.next {h₀ : Heap} {L I : Addr} {own : Led} {J : (Str → Option Value) → Led → Prop} {s₁ : Shared} {Q : Flow → Shared → Prop} {h' : Heap} {tk : Nat} {m' : Str → Option Value} {nw' : Led}
    (F : Fr h₀ L h' m') (N : News h₀ L h' nw') (ho : Sub own nw') (hJ : J m' (off I nw')) : TurnEnd h₀ L I own J s₁ Q .next { s₁ with heap := h', toks := tk } :=
  ⟨h', tk, m', nw', rfl, F, N, ho, hJ⟩

theorem for_walks {I : Addr} {fp : List Addr} {n : Nat} {P : Nat → Value → Prop} {St : Nat → Heap → Prop} (W : Walks prog w A I fp [I] n P St) (hLf : env.locals ∉ fp) (hI : h₀.get? I = none) (hlive : I ∈ fp)
    (hSI : ∀ i h, St i h → ∃ o, h.get? I = some o)
    (hst : St 0 s.heap) (F : Fr h₀ env.locals s.heap m) (N : News h₀ env.locals s.heap news) (hoff : ∀ p ∈ news, p.1 ≠ I)
    (J : Nat → (Str → Option Value) → Led → Prop) (hJ : J 0 m news)
    (turn : ∀ i v m₁ news₁ own h tk, i < n → P i v → J i m₁ news₁ → (∀ p ∈ news₁, p.1 ≠ I) → (∀ p ∈ own, p.1 ∈ fp) → Fr h₀ env.locals h (fun y => if y = x then some v else m₁ y) → News h₀ env.locals h (own ++ news₁) →
      wpAny (model prog w) A (execs body env) (TurnEnd h₀ env.locals I own (J (i + 1)) { s with heap := h, toks := tk } Q) E { s with heap := h, toks := tk })
    (done : ∀ m₁ news₁ h tk, J n m₁ news₁ → (∀ p ∈ news₁, p.1 ≠ I) → Fr h₀ env.locals h m₁ → News h₀ env.locals h news₁ → Q .next { s with heap := h, toks := tk }) :
    LoopAtV prog w A h₀ env x body Q E (.ref I) s := by
  refine ⟨I, fp, [I], n, P, St, m, news, J, rfl, W, hLf, ?_, ?_, hst, F, N, hJ, ?_, ?_⟩
  · intro b hb; rw [List.mem_singleton.mp hb]; exact hI
  · intro p hp hm; exact hoff p hp (List.mem_singleton.mp hm)
  · rintro i v m₁ news₁ s₁ own ⟨h, tk, rfl⟩ hi hP hJ₁ hw hfp _ hall hst₁ F₁ N₁
    have hoff₁ : ∀ p ∈ news₁, p.1 ≠ I := fun p hp e => hw p hp (by simp [e])
    refine wpAny_mono (turn i v m₁ news₁ own h tk hi hP hJ₁ hoff₁ hfp F₁ N₁) (fun f s₂ p => ?_) fun _ _ e => e
    have fin : (∃ h' tk' m' nw', s₂ = { ({ s with heap := h, toks := tk } : Shared) with heap := h', toks := tk' } ∧ Fr h₀ env.locals h' m' ∧ News h₀ env.locals h' nw' ∧ Sub own nw' ∧ J (i + 1) m' (off I nw')) →
        LoopStepU h₀ env.locals [I] own (J (i + 1)) { s with heap := h, toks := tk } .next s₂ := by
      rintro ⟨h', tk', m', nw', rfl, F', N', ho, hJ'⟩
      exact ⟨rfl, h', tk', m', off I nw', rfl, F', fun p hp => N' p ((List.mem_append.mp hp).elim (ho p) (off_sub p)), fun p hp hm => (mem_off.mp hp).2 (List.mem_singleton.mp hm), hJ'⟩
    cases f with
    | ret v => exact .ret p
    | brk => exact .brk p
    | next => exact .next (fin p)
    | cont => exact .cont (fin p)
  · intro h' tk m' news' F' N' hw hJ'
    exact done m' news' h' tk hJ' (fun p hp e => hw p hp (by simp [e])) F' N'

/-- the names off xs hold what they held -/
def KeepBut (xs : List Str) (m₀ m : Str → Option Value) : Prop := ∀ y, y ∉ xs → m y = m₀ y
theorem KeepBut.refl {xs : List Str} {m : Str → Option Value} : KeepBut xs m m := fun _ _ => rfl
theorem KeepBut.eq {xs : List Str} {m₀ m : Str → Option Value} (k : KeepBut xs m₀ m) : m = fun y => if y ∈ xs then m y else m₀ y := by
  funext y
  by_cases h : y ∈ xs
  · rw [if_pos h]
  · rw [if_neg h]; exact k y h
theorem KeepBut.base {xs : List Str} {m₀ u : Str → Option Value} : KeepBut xs m₀ (fun y => if y ∈ xs then u y else m₀ y) := fun y h => by simp only [if_neg h]
theorem KeepBut.put {xs : List Str} {m₀ m : Str → Option Value} {x : Str} {v : Option Value} (k : KeepBut xs m₀ m) (hx : x ∈ xs) : KeepBut xs m₀ (fun y => if y = x then v else m y) := fun y h => by
  have : y ≠ x := fun e => h (e ▸ hx)
  simp only [if_neg this]; exact k y h
theorem KeepBut.more {x : Str} {xs : List Str} {m₀ m : Str → Option Value} (k : KeepBut xs m₀ m) : KeepBut (x :: xs) m₀ m := fun y h => k y fun q => h (List.mem_cons_of_mem _ q)

theorem keep_in {x : Str} {xs : List Str} {m m₁ : Str → Option Value} {v : Option Value} (hk : KeepBut (x :: xs) m m₁) :
    (fun y => if y = x then v else if y ∈ xs then m₁ y else m y) = fun y => if y = x then v else m₁ y := by
  funext y
  by_cases h1 : y = x
  · simp only [if_pos h1]
  · simp only [if_neg h1]
    by_cases h2 : y ∈ xs
    · simp only [if_pos h2]
    · simp only [if_neg h2]; exact (hk y (by simp [h1, h2])).symm

theorem for_range {r : Addr} {a b : Int} {t u v : Tok} (n : Nat) (xs : List Str) (J : Nat → (Str → Option Value) → Led → Prop) (hh : A.handled = none) (hr : IsRange s.heap r a b 1 t u v) (hsmall : Builtin.Range.small a b 1 = true) (hn : (b - a).toNat = n)
    (F : Fr h₀ env.locals s.heap m) (N : News h₀ env.locals s.heap news) (hJ : J 0 m news)
    (turn : ∀ I i t u news₁ own h tk, i < n → J i u news₁ → (∀ p ∈ news₁, p.1 ≠ I) → (∀ p ∈ own, p.1 = I) → Fr h₀ env.locals h (fun y => if y = x then some (.int (a + (i : Int)) t) else if y ∈ xs then u y else m y) → News h₀ env.locals h (own ++ news₁) →
      wpAny (model prog w) A (execs body env) (TurnEnd h₀ env.locals I own (fun m' nx => KeepBut (x :: xs) m m' ∧ J (i + 1) m' nx) { s with heap := h, toks := tk } Q) E { s with heap := h, toks := tk })
    (done : ∀ u news₁ h tk, J n u news₁ → Fr h₀ env.locals h (fun y => if y ∈ x :: xs then u y else m y) → News h₀ env.locals h news₁ → Q .next { s with heap := h, toks := tk }) :
    wpAny (model prog w) A (pyIter (.ref r)) (fun it s₂ => LoopAtV prog w A h₀ env x body Q E it s₂) E s := by
  subst hn
  refine wpAny_pyIter_range hr hsmall ?_
  refine for_walks (n := (b - a).toNat) (LCg.range_walks hh a _) ?_ (next_is_new F) (by simp) (fun i h st => ⟨_, st⟩) (by show IsRangeIter _ _ _ _ _; rw [rangeSize_nat]; simpa using Heap.get?_push_size _ rfl) (F.push _) (N.pushKeep _) (fun p hp e => absurd (Heap.lt_size (N p hp).1) (by rw [e]; exact Nat.lt_irrefl _)) (fun i m' nx => KeepBut (x :: xs) m m' ∧ J i m' nx) ⟨KeepBut.refl, hJ⟩ ?_ ?_
  · intro hm
    exact absurd F.ns.lt ((List.mem_singleton.mp hm) ▸ Nat.lt_irrefl _)
  · rintro i v m₁ news₁ own h tk hi ⟨t, rfl⟩ ⟨hk, hJ₁⟩ ho hI F₁ N₁
    exact turn _ i t m₁ news₁ own h tk hi hJ₁ ho (fun p hp => List.mem_singleton.mp (hI p hp)) ((keep_in hk).symm ▸ F₁) N₁
  · rintro m₁ news₁ h tk ⟨hk, hJ₁⟩ _ F₁ N₁
    exact done m₁ news₁ h tk hJ₁ (hk.eq ▸ F₁) N₁

theorem for_list {l : Addr} {vs : List Value} (xs : List Str) (J : Nat → (Str → Option Value) → Led → Prop) (hh : A.handled = none) (hl : LCg.SrcAt h₀ l vs.toArray news)
    (F : Fr h₀ env.locals s.heap m) (N : News h₀ env.locals s.heap news) (hJ : J 0 m news)
    (turn : ∀ I i v u news₁ own h tk, vs[i]? = some v → J i u news₁ → (∀ p ∈ news₁, p.1 ≠ I) → (∀ p ∈ own, p.1 = I ∨ p.1 = l) → Fr h₀ env.locals h (fun y => if y = x then some v else if y ∈ xs then u y else m y) → News h₀ env.locals h (own ++ news₁) →
      wpAny (model prog w) A (execs body env) (TurnEnd h₀ env.locals I own (fun m' nx => KeepBut (x :: xs) m m' ∧ J (i + 1) m' nx) { s with heap := h, toks := tk } Q) E { s with heap := h, toks := tk })
    (done : ∀ u news₁ h tk, J vs.length u news₁ → Fr h₀ env.locals h (fun y => if y ∈ x :: xs then u y else m y) → News h₀ env.locals h news₁ → Q .next { s with heap := h, toks := tk }) :
    wpAny (model prog w) A (pyIter (.ref l)) (fun it s₂ => LoopAtV prog w A h₀ env x body Q E it s₂) E s := by
  have hls := hl.list F.keep N
  have hlt : l < s.heap.objs.size := by obtain ⟨_, e, _⟩ := hls; exact Heap.lt_size e
  have hLl : env.locals ≠ l := by
    rintro rfl
    rcases hl with ⟨o, e, _⟩ | ⟨o, hm, _⟩
    · exact absurd (Heap.lt_size e) (Nat.not_lt.mpr F.above)
    · exact (N _ hm).2.1 rfl
  refine wpAny_pyIter_list hls ?_
  refine for_walks (Walks.list hh s.heap.objs.size l (Nat.ne_of_lt hlt) vs.toArray) ?_ (next_is_new F) (by simp) (fun i h st => by obtain ⟨o, e, _⟩ := st.1; exact ⟨o, e⟩) ⟨⟨_, Heap.get?_push_size _ rfl, rfl, rfl⟩, hls.push _⟩ (F.push _) (N.pushKeep _) (fun p hp e => absurd (Heap.lt_size (N p hp).1) (by rw [e]; exact Nat.lt_irrefl _)) (fun i m' nx => KeepBut (x :: xs) m m' ∧ J i m' nx) ⟨KeepBut.refl, hJ⟩ ?_ ?_
  · intro hm
    rcases List.mem_cons.mp hm with e | hm
    · exact absurd F.ns.lt (e ▸ Nat.lt_irrefl _)
    · exact hLl (List.mem_singleton.mp hm)
  · rintro i v m₁ news₁ own h tk hi hP ⟨hk, hJ₁⟩ ho hI F₁ N₁
    refine turn _ i v m₁ news₁ own h tk (by simpa using hP) hJ₁ ho (fun p hp => ?_) ((keep_in hk).symm ▸ F₁) N₁
    rcases List.mem_cons.mp (hI p hp) with e | e
    · exact .inl e
    · exact .inr (List.mem_singleton.mp e)
  · rintro m₁ news₁ h tk ⟨hk, hJ₁⟩ _ F₁ N₁
    exact done m₁ news₁ h tk (by simpa using hJ₁) (hk.eq ▸ F₁) N₁
end


section
variable {prog : Program} {w : World} {A : Around} {E : Value → Shared → Prop} {s : Shared} {h₀ : Heap} {L : Addr} {m : Str → Option Value} {news nw : Led}

theorem len_L {a : Addr} {vs : List Value} {Q : Value → Shared → Prop} (x : IsL news a vs) (N : News h₀ L s.heap nw) (S : Sub news nw) (hf : vs.length < 2 ^ 62)
    (h : ∀ t, Q (.int (vs.length : Nat) t) { s with toks := s.toks + 1 + 1 }) : wpAny (model prog w) A (call (.builtin "len") [.ref a]) Q E s := by
  refine Calls.call_len_list ((x.sub S).list N) (by simp; omega) ?_
  have e : vs.toArray.size = vs.length := by simp
  rw [e]; exact h _

theorem item_L {value slice : Expr} {a : Addr} {vs : List Value} {k : Int} {u : Tok} {v : Value} {Q : Value → Shared → Prop} (x : IsL news a vs) (N : News h₀ L s.heap nw) (S : Sub news nw) (h0 : 0 ≤ k) (h1 : k < 2 ^ 63) (hv : vs[k.toNat]? = some v) (h : Q v s)
    (hs : subscripted slice false (.ref a) (.int k u) = operate [.ref a, .int k u] (getItem (.ref a) (.int k u)) := by with_unfolding_all rfl) :
    wpAny (model prog w) A (subscriptTail value slice (.ref a) (.int k u)) Q E s :=
  tail_any ((x.sub S).list N).typeIs slot_list_getitem.lookup (wpAny_getItem_list ((x.sub S).list N) h0 h1 (by simpa using hv) h) hs

theorem item_I {value slice : Expr} {a : Addr} {ns : List Int} {k : Int} {u : Tok} {Q : Value → Shared → Prop} (x : Ints news a ns) (N : News h₀ L s.heap nw) (S : Sub news nw) (h0 : 0 ≤ k) (h1 : k < 2 ^ 63) (hl : k < ns.length) (h : ∀ t, Q (.int (ns.getD k.toNat 0) t) s)
    (hs : subscripted slice false (.ref a) (.int k u) = operate [.ref a, .int k u] (getItem (.ref a) (.int k u)) := by with_unfolding_all rfl) :
    wpAny (model prog w) A (subscriptTail value slice (.ref a) (.int k u)) Q E s := by
  obtain ⟨vs, y, hi⟩ := x
  obtain ⟨t, hx⟩ := hi.get k.toNat _ (ints_getD h0 hl)
  exact item_L y N S h0 h1 hx (h t) hs

/-- a row of a grid, by its number -/
theorem item_G {value slice : Expr} {g : Addr} {as : List Addr} {rows : List (List Int)} {k : Int} (j : Nat) {u : Tok} {Q : Value → Shared → Prop} (x : Grid news g as rows) (N : News h₀ L s.heap nw) (S : Sub news nw) (e : k = (j : Int)) (hk : j < rows.length) (hs4 : rows.length < 2 ^ 62)
    (h : ∀ a, as[j]? = some a → Ints news a (rows.getD j []) → Q (.ref a) s)
    (hs : subscripted slice false (.ref g) (.int k u) = operate [.ref g, .int k u] (getItem (.ref g) (.int k u)) := by with_unfolding_all rfl) :
    wpAny (model prog w) A (subscriptTail value slice (.ref g) (.int k u)) Q E s := by
  have hk' : j < as.length := by rw [x.len]; exact hk
  have ha : as[j]? = some as[j] := by simp [hk']
  have hr : rows[j]? = some (rows.getD j []) := by simp [hk]
  exact item_L x.head N S (by omega) (by omega) (by rw [e]; simp [ha]) (h _ ha (x.row j _ _ ha hr)) hs
/-- an int of a list of ints, by its number -/
theorem item_N {value slice : Expr} {a : Addr} {ns : List Int} {k : Int} (j : Nat) {u : Tok} {Q : Value → Shared → Prop} (x : Ints news a ns) (N : News h₀ L s.heap nw) (S : Sub news nw) (e : k = (j : Int)) (hk : j < ns.length) (hf : ns.length < 2 ^ 62) (h : ∀ t, Q (.int (ns.getD j 0) t) s)
    (hs : subscripted slice false (.ref a) (.int k u) = operate [.ref a, .int k u] (getItem (.ref a) (.int k u)) := by with_unfolding_all rfl) :
    wpAny (model prog w) A (subscriptTail value slice (.ref a) (.int k u)) Q E s := by
  subst e
  exact item_I x N S (by omega) (by omega) (by omega) (by simpa using h) hs

/-- a store into a list of the ledger -/
theorem set_L {a : Addr} {vs : List Value} {k : Int} (j : Nat) {u : Tok} {v : Value} {Q : Unit → Shared → Prop} (x : IsL news a vs) (F : Fr h₀ L s.heap m) (N : News h₀ L s.heap nw) (S : Sub news nw) (e : k = (j : Int)) (hk : j < vs.length) (hf : vs.length < 2 ^ 62)
    (h : ∀ h' nw', Fr h₀ L h' m → News h₀ L h' nw' → IsL nw' a (vs.set j v) → SubBut [a] nw nw' → (∀ p ∈ nw', p.1 = a ∨ p ∈ nw) → Q () { s with heap := h' }) :
    wpAny (model prog w) A (setItem (.ref a) (.int k u) v) Q E s := by
  subst e
  obtain ⟨o, n, hm, hc, hd⟩ := x
  have hmem := N _ (S _ hm)
  refine wpAny_setItem_list (items := vs.toArray) ⟨o, hmem.1, hc, n, hd⟩ (by omega) (by omega) (by simpa using hk) fun h' hl hs => ?_
  obtain ⟨o', e', hc', n', hd'⟩ := hl
  have hd'' : o'.data = .seq (vs.set j v).toArray n' := by rw [hd']; simp
  refine h h' ((a, o') :: off a nw) ⟨F.ns.sameBut hs (Ne.symm hmem.2.1), fun b ob q => (hs.2 b fun z => by rw [z, hmem.2.2] at q; cases q).trans (F.keep b ob q), F.above⟩ ?_ ⟨o', n', .head _, hc', hd''⟩ ?_ ?_
  · intro p hp
    rcases List.mem_cons.mp hp with rfl | hp
    · exact ⟨e', hmem.2⟩
    · obtain ⟨hp, hne⟩ := mem_off.mp hp
      exact ⟨(hs.2 _ hne).trans (N p hp).1, (N p hp).2⟩
  · intro p hp hn
    exact List.mem_cons_of_mem _ (mem_off.mpr ⟨hp, fun q => hn (by simp [q])⟩)
  · intro p hp
    rcases List.mem_cons.mp hp with rfl | hp
    · exact .inl rfl
    · exact .inr (mem_off.mp hp).1
end

section
variable {prog : Program} {w : World} {A : Around} {E : Value → Shared → Prop} {s : Shared} {h₀ : Heap} {L : Addr} {m : Str → Option Value} {news nw : Led}

theorem range_2 {a b : Int} {t u : Tok} {Q : Value → Shared → Prop} (F : Fr h₀ L s.heap m) (N : News h₀ L s.heap nw)
    (h : ∀ r h' tk v, IsRange h' r a b 1 t u v → Fr h₀ L h' m → News h₀ L h' nw → Q (.ref r) { s with heap := h', toks := tk }) : wpAny (model prog w) A (call (.type "range") [.int a t, .int b u]) Q E s :=
  call_range_2 (h _ _ _ _ (Heap.get?_push_size _ rfl) (F.push _) (N.pushKeep _))
theorem range_1 {b : Int} {u : Tok} {Q : Value → Shared → Prop} (F : Fr h₀ L s.heap m) (N : News h₀ L s.heap nw)
    (h : ∀ r h' tk t v, IsRange h' r 0 b 1 t u v → Fr h₀ L h' m → News h₀ L h' nw → Q (.ref r) { s with heap := h', toks := tk }) : wpAny (model prog w) A (call (.type "range") [.int b u]) Q E s :=
  call_range_1 (h _ _ _ _ _ (Heap.get?_push_size _ rfl) (F.push _) (N.pushKeep _))
end

section
variable {w : World} {prog : Program} {A : Around} {E : Value → Shared → Prop} {s : Shared} {h₀ : Heap} {L : Addr} {m : Str → Option Value} {env : Env} {x : Str} {pos : Pos} {v : Value} {Q : Value → Shared → Prop}
theorem nm_g (he : nsIn (hd.heap_39 w.params) mainGlobals x = some (some v)) (F : Fr h₀ L s.heap m) (X : (hd.heap_39 w.params).In h₀) (T : ∃ p loose mean mg mb, Top p loose mean mg mb h₀) (h : Q v s)
    (hg : env.globals = mainGlobals) (hk : env.scope.kind = .function) (hx : env.kindOf x = some .globalImplicit) (hd : (x == ("__debug__" : Str)) = false) :
    wpAny (model prog w) A (eval (.Name x pos) env) Q E s := by
  obtain ⟨p, lo, me, mg, mb, T⟩ := T
  exact Name_function_global hk hx (loadGlobal_global (env := env) (by rw [hg]; exact T.g.keeps F.keep) (mg_of X T.g he) h) hd
theorem nm_b (he : nsIn (hd.heap_39 w.params) mainGlobals x = some none) (hv : bootBuiltins x = some v) (hn : x ≠ "__name__") (F : Fr h₀ L s.heap m) (X : (hd.heap_39 w.params).In h₀) (T : ∃ p loose mean mg mb, Top p loose mean mg mb h₀) (h : Q v s)
    (hg : env.globals = mainGlobals) (hb : env.builtins = builtinsNs) (hk : env.scope.kind = .function) (hx : env.kindOf x = some .globalImplicit) (hd : (x == ("__debug__" : Str)) = false) :
    wpAny (model prog w) A (eval (.Name x pos) env) Q E s := by
  obtain ⟨p, lo, me, mg, mb, T⟩ := T
  exact Name_function_global hk hx (loadGlobal_builtin (env := env) (by rw [hg]; exact T.g.keeps F.keep) (mg_none_of X T.g he) (by rw [hb]; exact T.b.keeps F.keep) ((T.builtins x hn).trans hv) h) hd
end

section
variable {M : Model} {A : Around} {E : Value → Shared → Prop} {s : Shared} {h₀ : Heap} {L C c : Addr} {m m₂ : Str → Option Value} {env : Env} {x : Str} {pos : Pos} {v : Value} {Q : Value → Shared → Prop} {news nw : Led} {oC : Obj}
theorem nm_l (F : Fr h₀ env.locals s.heap m) (hk : env.scope.kind = .function) (hx : env.kindOf x = some .local) (hd : (x == ("__debug__" : Str)) = false) (hv : m x = some v) (h : Q v s) :
    wpAny M A (eval (.Name x pos) env) Q E s := wpAny_Name (wpAny_loadName_local hk hx F.ns hv h) hd
/-- a name of a comprehension's own block -/
theorem nm_k (N : News h₀ L s.heap nw) (hC : (env.locals, oC) ∈ nw) (hm : LCg.NsObj oC m₂) (hk : env.scope.kind = .function) (hx : env.kindOf x = some .local) (hd : (x == ("__debug__" : Str)) = false) (hv : m₂ x = some v) (h : Q v s) :
    wpAny M A (eval (.Name x pos) env) Q E s := wpAny_Name (wpAny_loadName_local hk hx (hm.ns (N.get hC)) hv h) hd
def CellIn (news : Led) (c : Addr) (v : Value) : Prop := ∃ o, (c, o) ∈ news ∧ o.data = .cell (some v)
theorem CellIn.sub {n n' : Led} {c v} (x : CellIn n c v) (s : Sub n n') : CellIn n' c v := let ⟨o, h, r⟩ := x; ⟨o, s _ h, r⟩
theorem nm_c (N : News h₀ L s.heap nw) (hk : env.scope.kind = .function) (hx : env.kindOf x = some .cell) (hc : env.cells.lookup x = some c) (hd : (x == ("__debug__" : Str)) = false) (hv : CellIn news c v) (S : Sub news nw) (h : Q v s) :
    wpAny M A (eval (.Name x pos) env) Q E s := by
  obtain ⟨o, hm, ho⟩ := hv
  exact wpAny_Name (wpAny_loadName_cell hk hx hc ⟨o, N.get (S _ hm), ho⟩ h) hd
theorem nm_f (N : News h₀ L s.heap nw) (hk : env.scope.kind = .function) (hx : env.kindOf x = some .free) (hc : env.cells.lookup x = some c) (hd : (x == ("__debug__" : Str)) = false) (hn : (x == ("__classdict__" : Str)) = false) (hv : CellIn news c v) (S : Sub news nw) (h : Q v s) :
    wpAny M A (eval (.Name x pos) env) Q E s := by
  obtain ⟨o, hm, ho⟩ := hv
  exact wpAny_Name (wpAny_loadName_free hk hx hc ⟨o, N.get (S _ hm), ho⟩ h hn) hd
end
section
variable {w : World} {prog : Program} {A : Around} {E : Value → Shared → Prop} {s : Shared} {h₀ : Heap} {L : Addr} {m : Str → Option Value} {env : Env} {pos : Pos} {Q : Value → Shared → Prop}
theorem n_pivot_row (F : Fr h₀ L s.heap m) (X : (hd.heap_39 w.params).In h₀) (T : ∃ p loose mean mg mb, Top p loose mean mg mb h₀) (hg : env.globals = mainGlobals) (hk : env.scope.kind = .function) (hx : env.kindOf "pivot_row" = some .globalImplicit) (h : Q (.ref 41) s) :
    wpAny (model prog w) A (eval (.Name "pivot_row" pos) env) Q E s := nm_g (by kernel_rfl) F X T h hg hk hx (by decide)
theorem n_bareiss_step (F : Fr h₀ L s.heap m) (X : (hd.heap_39 w.params).In h₀) (T : ∃ p loose mean mg mb, Top p loose mean mg mb h₀) (hg : env.globals = mainGlobals) (hk : env.scope.kind = .function) (hx : env.kindOf "bareiss_step" = some .globalImplicit) (h : Q (.ref 48) s) :
    wpAny (model prog w) A (eval (.Name "bareiss_step" pos) env) Q E s := nm_g (by kernel_rfl) F X T h hg hk hx (by decide)
theorem n_determinant (F : Fr h₀ L s.heap m) (X : (hd.heap_39 w.params).In h₀) (T : ∃ p loose mean mg mb, Top p loose mean mg mb h₀) (hg : env.globals = mainGlobals) (hk : env.scope.kind = .function) (hx : env.kindOf "determinant" = some .globalImplicit) (h : Q (.ref 53) s) :
    wpAny (model prog w) A (eval (.Name "determinant" pos) env) Q E s := nm_g (by kernel_rfl) F X T h hg hk hx (by decide)
theorem n_minor (F : Fr h₀ L s.heap m) (X : (hd.heap_39 w.params).In h₀) (T : ∃ p loose mean mg mb, Top p loose mean mg mb h₀) (hg : env.globals = mainGlobals) (hk : env.scope.kind = .function) (hx : env.kindOf "minor" = some .globalImplicit) (h : Q (.ref 58) s) :
    wpAny (model prog w) A (eval (.Name "minor" pos) env) Q E s := nm_g (by kernel_rfl) F X T h hg hk hx (by decide)
theorem n_adjugate (F : Fr h₀ L s.heap m) (X : (hd.heap_39 w.params).In h₀) (T : ∃ p loose mean mg mb, Top p loose mean mg mb h₀) (hg : env.globals = mainGlobals) (hk : env.scope.kind = .function) (hx : env.kindOf "adjugate" = some .globalImplicit) (h : Q (.ref 63) s) :
    wpAny (model prog w) A (eval (.Name "adjugate" pos) env) Q E s := nm_g (by kernel_rfl) F X T h hg hk hx (by decide)
theorem n_leading_minors (F : Fr h₀ L s.heap m) (X : (hd.heap_39 w.params).In h₀) (T : ∃ p loose mean mg mb, Top p loose mean mg mb h₀) (hg : env.globals = mainGlobals) (hk : env.scope.kind = .function) (hx : env.kindOf "leading_minors" = some .globalImplicit) (h : Q (.ref 68) s) :
    wpAny (model prog w) A (eval (.Name "leading_minors" pos) env) Q E s := nm_g (by kernel_rfl) F X T h hg hk hx (by decide)
theorem n_law_take (F : Fr h₀ L s.heap m) (X : (hd.heap_39 w.params).In h₀) (T : ∃ p loose mean mg mb, Top p loose mean mg mb h₀) (hg : env.globals = mainGlobals) (hk : env.scope.kind = .function) (hx : env.kindOf "_law_take" = some .globalImplicit) (h : Q (.ref 75) s) :
    wpAny (model prog w) A (eval (.Name "_law_take" pos) env) Q E s := nm_g (by kernel_rfl) F X T h hg hk hx (by decide)
theorem n_law_box (F : Fr h₀ L s.heap m) (X : (hd.heap_39 w.params).In h₀) (T : ∃ p loose mean mg mb, Top p loose mean mg mb h₀) (hg : env.globals = mainGlobals) (hk : env.scope.kind = .function) (hx : env.kindOf "_law_box" = some .globalImplicit) (h : Q (.ref 82) s) :
    wpAny (model prog w) A (eval (.Name "_law_box" pos) env) Q E s := nm_g (by kernel_rfl) F X T h hg hk hx (by decide)
theorem n_law_whole (F : Fr h₀ L s.heap m) (X : (hd.heap_39 w.params).In h₀) (T : ∃ p loose mean mg mb, Top p loose mean mg mb h₀) (hg : env.globals = mainGlobals) (hk : env.scope.kind = .function) (hx : env.kindOf "_law_whole" = some .globalImplicit) (h : Q (.ref 89) s) :
    wpAny (model prog w) A (eval (.Name "_law_whole" pos) env) Q E s := nm_g (by kernel_rfl) F X T h hg hk hx (by decide)
theorem n_law_grid (F : Fr h₀ L s.heap m) (X : (hd.heap_39 w.params).In h₀) (T : ∃ p loose mean mg mb, Top p loose mean mg mb h₀) (hg : env.globals = mainGlobals) (hk : env.scope.kind = .function) (hx : env.kindOf "_law_grid" = some .globalImplicit) (h : Q (.ref 94) s) :
    wpAny (model prog w) A (eval (.Name "_law_grid" pos) env) Q E s := nm_g (by kernel_rfl) F X T h hg hk hx (by decide)
theorem n_law_det (F : Fr h₀ L s.heap m) (X : (hd.heap_39 w.params).In h₀) (T : ∃ p loose mean mg mb, Top p loose mean mg mb h₀) (hg : env.globals = mainGlobals) (hk : env.scope.kind = .function) (hx : env.kindOf "_law_det" = some .globalImplicit) (h : Q (.ref 99) s) :
    wpAny (model prog w) A (eval (.Name "_law_det" pos) env) Q E s := nm_g (by kernel_rfl) F X T h hg hk hx (by decide)
theorem n_law_times (F : Fr h₀ L s.heap m) (X : (hd.heap_39 w.params).In h₀) (T : ∃ p loose mean mg mb, Top p loose mean mg mb h₀) (hg : env.globals = mainGlobals) (hk : env.scope.kind = .function) (hx : env.kindOf "_law_times" = some .globalImplicit) (h : Q (.ref 104) s) :
    wpAny (model prog w) A (eval (.Name "_law_times" pos) env) Q E s := nm_g (by kernel_rfl) F X T h hg hk hx (by decide)
theorem n_range (F : Fr h₀ L s.heap m) (X : (hd.heap_39 w.params).In h₀) (T : ∃ p loose mean mg mb, Top p loose mean mg mb h₀) (hg : env.globals = mainGlobals) (hb : env.builtins = builtinsNs) (hk : env.scope.kind = .function) (hx : env.kindOf "range" = some .globalImplicit) (h : Q (.type "range") s) :
    wpAny (model prog w) A (eval (.Name "range" pos) env) Q E s := nm_b (by kernel_rfl) boot_range (by decide) F X T h hg hb hk hx (by decide)
theorem n_len (F : Fr h₀ L s.heap m) (X : (hd.heap_39 w.params).In h₀) (T : ∃ p loose mean mg mb, Top p loose mean mg mb h₀) (hg : env.globals = mainGlobals) (hb : env.builtins = builtinsNs) (hk : env.scope.kind = .function) (hx : env.kindOf "len" = some .globalImplicit) (h : Q (.builtin "len") s) :
    wpAny (model prog w) A (eval (.Name "len" pos) env) Q E s := nm_b (by kernel_rfl) boot_len (by decide) F X T h hg hb hk hx (by decide)
theorem n_sum (F : Fr h₀ L s.heap m) (X : (hd.heap_39 w.params).In h₀) (T : ∃ p loose mean mg mb, Top p loose mean mg mb h₀) (hg : env.globals = mainGlobals) (hb : env.builtins = builtinsNs) (hk : env.scope.kind = .function) (hx : env.kindOf "sum" = some .globalImplicit) (h : Q (.builtin "sum") s) :
    wpAny (model prog w) A (eval (.Name "sum" pos) env) Q E s := nm_b (by kernel_rfl) boot_sum (by decide) F X T h hg hb hk hx (by decide)
theorem n_enumerate (F : Fr h₀ L s.heap m) (X : (hd.heap_39 w.params).In h₀) (T : ∃ p loose mean mg mb, Top p loose mean mg mb h₀) (hg : env.globals = mainGlobals) (hb : env.builtins = builtinsNs) (hk : env.scope.kind = .function) (hx : env.kindOf "enumerate" = some .globalImplicit) (h : Q (.type "enumerate") s) :
    wpAny (model prog w) A (eval (.Name "enumerate" pos) env) Q E s := nm_b (by kernel_rfl) boot_enumerate (by decide) F X T h hg hb hk hx (by decide)
theorem n_list (F : Fr h₀ L s.heap m) (X : (hd.heap_39 w.params).In h₀) (T : ∃ p loose mean mg mb, Top p loose mean mg mb h₀) (hg : env.globals = mainGlobals) (hb : env.builtins = builtinsNs) (hk : env.scope.kind = .function) (hx : env.kindOf "list" = some .globalImplicit) (h : Q (.type "list") s) :
    wpAny (model prog w) A (eval (.Name "list" pos) env) Q E s := nm_b (by kernel_rfl) boot_list (by decide) F X T h hg hb hk hx (by decide)
end

section
variable {M : Model} {A : Around} {E : Value → Shared → Prop} {s : Shared} {h₀ : Heap} {L : Addr} {m : Str → Option Value} {env : Env} {x : Str} {v : Value} {nw : Led}
theorem st_l {Q : Unit → Shared → Prop} (F : Fr h₀ L s.heap m) (N : News h₀ L s.heap nw) (hL : env.locals = L) (hx : env.kindOf x = some .local) (hp : (env.scope.kind == .class || (env.scope.kind == .module && env.locals != env.globals)) = false)
    (h : ∀ h' tk, Fr h₀ L h' (fun y => if y = x then some v else m y) → News h₀ L h' nw → Q () { s with heap := h', toks := tk }) : wpAny M A (storeName env x v) Q E s := by
  subst hL
  exact wpAny_storeName_local hx F.ns (fun h' hn hs => h h' _ (F.set hn hs) (N.set hs)) hp
theorem nm_l2 {pos : Pos} {Q : Value → Shared → Prop} (F : Fr h₀ L s.heap m) (hL : env.locals = L) (hk : env.scope.kind = .function) (hx : env.kindOf x = some .local) (hd : (x == ("__debug__" : Str)) = false) (hv : m x = some v) (h : Q v s) :
    wpAny M A (eval (.Name x pos) env) Q E s := by subst hL; exact nm_l F hk hx hd hv h
theorem new_l {vs : List Value} {Q : Value → Shared → Prop} (F : Fr h₀ L s.heap m) (N : News h₀ L s.heap nw) (hsz : vs.length ≤ sizeLine)
    (h : ∀ D h', Fr h₀ L h' m → News h₀ L h' ((D, ({ cls := .type "list", data := .seq vs.toArray } : Obj)) :: nw) → Fresh nw D → Q (.ref D) { s with heap := h' }) : wpAny M A (newList vs) Q E s :=
  newList_N F N (fun h' F' N' => h _ h' F' N' fun p hp e => absurd (Heap.lt_size (N p hp).1) (by rw [e]; exact Nat.lt_irrefl _)) hsz
theorem new_t {vs : List Value} {Q : Value → Shared → Prop} (F : Fr h₀ L s.heap m) (N : News h₀ L s.heap nw) (hsz : vs.length ≤ sizeLine)
    (h : ∀ D h', Fr h₀ L h' m → News h₀ L h' ((D, ({ cls := .type "tuple", data := .seq vs.toArray } : Obj)) :: nw) → Fresh nw D → Q (.ref D) { s with heap := h' }) : wpAny M A (newTuple vs) Q E s :=
  newTuple_N F N (fun h' F' N' => h _ h' F' N' fun p hp e => absurd (Heap.lt_size (N p hp).1) (by rw [e]; exact Nat.lt_irrefl _)) hsz
end
theorem k_now {w : World} {h₀ : Heap} {L : Addr} {h : Heap} {m : Str → Option Value} {P : Prop} (X : (hd.heap_39 w.params).In h₀) (F : Fr h₀ L h m) (p : P) : (hd.heap_39 w.params).In h ∧ P := ⟨X.keeps F.keep, p⟩
theorem for_of {prog : Program} {w : World} {A : Around} {s : Shared} {env : Env} {h₀ : Heap} {L : Addr} {m : Str → Option Value} {E : Value → Shared → Prop} {Q : Flow → Shared → Prop} {x : Str} {px pos : Pos} {iter : Expr} {body : List Stmt} (_F : Fr h₀ L s.heap m) (hx : env.kindOf x = some .local)
    (hp : (env.scope.kind == .class || (env.scope.kind == .module && env.locals != env.globals)) = false)
    (h : wpAny (model prog w) A (eval iter env) (fun xv s₁ => wpAny (model prog w) A (pyIter xv) (fun it s₂ => LoopAtV prog w A h₀ env x body Q E it s₂) E s₁) E s)
    (hs : ∀ x, foldedSetIterable iter env x = pure x) (hE : PassesOwn (model prog w) A env E) : wpAny (model prog w) A (exec (.For (.Name x px) iter body [] pos) env) Q E s := For_invV h₀ hx hp h hs hE
theorem if_yes {c : Prop} [Decidable c] {a b : Prop} (h : c) (x : a) : if c then a else b := by rw [if_pos h]; exact x
theorem if_not {c : Prop} [Decidable c] {a b : Prop} (h : ¬ c) (x : b) : if c then a else b := by rw [if_neg h]; exact x
theorem bne_no {a b : Int} (h : a = b) : ¬ ((a != b) = true) := by simp [h]
theorem beq_no {a b : Int} (h : a ≠ b) : ¬ ((a == b) = true) := by simp [h]
theorem nm_kS {M : Model} {A : Around} {E : Value → Shared → Prop} {s : Shared} {h₀ : Heap} {L : Addr} {m₂ : Str → Option Value} {env : Env} {x : Str} {pos : Pos} {v : Value} {Q : Value → Shared → Prop} {O nw : Led} {oC : Obj} (N : News h₀ L s.heap nw) (hC : (env.locals, oC) ∈ O) (S : Sub O nw) (hm : LCg.NsObj oC m₂) (hk : env.scope.kind = .function) (hx : env.kindOf x = some .local) (hd : (x == ("__debug__" : Str)) = false) (hv : m₂ x = some v) (h : Q v s) :
    wpAny M A (eval (.Name x pos) env) Q E s := nm_k N (S _ hC) hm hk hx hd hv h
section
variable {prog : Program} {w : World} {A : Around} {E : Value → Shared → Prop} {s : Shared} {a b : Int} {t u : Tok} {Q : Value → Shared → Prop}
theorem const_i {M : Model} {env : Env} {i : Int} {k : Nat} {pos : Pos} (h : ∀ t tk, Q (.int i t) { s with toks := tk }) : wpAny M A (eval (.Constant (.int i) k pos) env) Q E s := wpAny_Constant_int (h _ _)
theorem add_i (h : ∀ t tk, Q (.int (a + b) t) { s with toks := tk }) : wpAny (model prog w) A (binaryOp .Add (.int a t) (.int b u)) Q E s := add_int (h _ _)
theorem sub_i (h : ∀ t tk, Q (.int (a - b) t) { s with toks := tk }) : wpAny (model prog w) A (binaryOp .Sub (.int a t) (.int b u)) Q E s := sub_int (h _ _)
theorem mul_i (hm : IntMulOk a b) (h : ∀ t tk, Q (.int (a * b) t) { s with toks := tk }) : wpAny (model prog w) A (binaryOp .Mult (.int a t) (.int b u)) Q E s := mul_int (h _ _) hm
theorem mod_i (hb : b ≠ 0) (h : ∀ t tk, Q (.int (a.fmod b) t) { s with toks := tk }) : wpAny (model prog w) A (binaryOp .Mod (.int a t) (.int b u)) Q E s := mod_int' hb (h _ _)
theorem div_i (hb : b ≠ 0) (hp : Builtin.divisionGoesByPylong a b = false) (h : ∀ t tk, Q (.int (a.fdiv b) t) { s with toks := tk }) : wpAny (model prog w) A (binaryOp .FloorDiv (.int a t) (.int b u)) Q E s := floordiv_int hb (h _ _) (.inl hp)
theorem neg_i (h : ∀ t tk, Q (.int (-a) t) { s with toks := tk }) : wpAny (model prog w) A (unaryOp .USub (.int a t)) Q E s := neg_int (h _ _)
end

theorem IsL.off {nw : Led} {I a : Addr} {vs} (x : IsL nw a vs) (h : a ≠ I) : IsL (off I nw) a vs := let ⟨o, n, hm, r⟩ := x; ⟨o, n, mem_off.mpr ⟨hm, h⟩, r⟩
theorem Ints.off {nw : Led} {I a : Addr} {ns} (x : Ints nw a ns) (h : a ≠ I) : Ints (off I nw) a ns := let ⟨vs, y, r⟩ := x; ⟨vs, y.off h, r⟩
theorem Grid.off {nw : Led} {I g : Addr} {as rows} (x : Grid nw g as rows) (hg : g ≠ I) (ha : I ∉ as) : Grid (off I nw) g as rows :=
  ⟨x.head.off hg, x.len, fun i a r h1 h2 => (x.row i a r h1 h2).off fun e => ha (e ▸ List.mem_of_getElem? h1)⟩
/-- a row is turned in place -/
theorem Grid.setRow {nw nw' : Led} {g a : Addr} {as : List Addr} {rows : List (List Int)} {r : Nat} {new : List Int} (x : Grid nw g as rows) (nd : as.Nodup) (hg : g ∉ as) (hr : as[r]? = some a) (S : SubBut [a] nw nw') (y : Ints nw' a new) :
    Grid nw' g as (rows.set r new) := by
  have ha : a ∈ as := List.mem_of_getElem? hr
  refine ⟨x.head.but S (fun h => hg (by rw [List.mem_singleton.mp h]; exact ha)), by rw [List.length_set]; exact x.len, fun i b q h1 h2 => ?_⟩
  by_cases hi : r = i
  · subst hi
    have hl : r < rows.length := by
      have : r < as.length := (List.getElem?_eq_some_iff.mp hr).1
      rw [← x.len]; exact this
    rw [hr] at h1; cases h1
    rw [List.getElem?_set_self hl] at h2; cases h2
    exact y
  · rw [List.getElem?_set_ne hi] at h2
    refine (x.row i b q h1 h2).but S fun h => hi ?_
    have hb : b = a := List.mem_singleton.mp h
    obtain ⟨l1, e1⟩ := List.getElem?_eq_some_iff.mp hr
    obtain ⟨l2, e2⟩ := List.getElem?_eq_some_iff.mp h1
    exact (List.getElem_inj nd).mp (e1.trans (hb.symm.trans e2.symm))
theorem SubBut.mono {W W' : List Addr} {a b : Led} (x : SubBut W a b) (h : ∀ c ∈ W, c ∈ W') : SubBut W' a b := fun p hp hn => x p hp fun q => hn (h _ q)
theorem SubBut.left {W : List Addr} {a b c : Led} (x : Sub a b) (y : SubBut W b c) : SubBut W a c := fun p hp hn => y p (x p hp) hn
theorem SubBut.off {W : List Addr} {I : Addr} {a b : Led} (x : SubBut W a b) (h : ∀ p ∈ a, p.1 ≠ I) : SubBut W a (off I b) := fun p hp hn => mem_off.mpr ⟨x p hp hn, h p hp⟩
theorem SubBut.keeps {W : List Addr} {a b own : Led} (x : SubBut W a b) (s : Sub own a) (h : ∀ p ∈ own, p.1 ∉ W) : Sub own b := fun p hp => x p (s p hp) (h p hp)
theorem Ints.set {news : Led} {a : Addr} {ns : List Int} {vs : List Value} {j : Nat} {i : Int} {t : Tok} (h : IsL news a (vs.set j (.int i t))) (hi : IntsAre vs ns) : Ints news a (ns.set j i) := by
  refine ⟨_, h, ?_⟩
  clear h
  induction hi generalizing j with
  | nil => exact .nil
  | cons n t _ ih =>
    cases j with
    | zero => rw [List.set_cons_zero, List.set_cons_zero]; exact .cons _ _ (by assumption)
    | succ j => rw [List.set_cons_succ, List.set_cons_succ]; exact .cons _ _ ih
section
variable {prog : Program} {w : World} {A : Around} {E : Value → Shared → Prop} {s : Shared} {h₀ : Heap} {L : Addr} {m : Str → Option Value} {news nw : Led}
/-- an int is stored into a list of ints -/
theorem set_I {a : Addr} {ns : List Int} {k : Int} (j : Nat) {u t : Tok} {i : Int} {Q : Unit → Shared → Prop} (x : Ints news a ns) (F : Fr h₀ L s.heap m) (N : News h₀ L s.heap nw) (S : Sub news nw) (e : k = (j : Int)) (hk : j < ns.length) (hf : ns.length < 2 ^ 62)
    (h : ∀ h' nw', Fr h₀ L h' m → News h₀ L h' nw' → Ints nw' a (ns.set j i) → SubBut [a] nw nw' → (∀ p ∈ nw', p.1 = a ∨ p ∈ nw) → Q () { s with heap := h' }) :
    wpAny (model prog w) A (setItem (.ref a) (.int k u) (.int i t)) Q E s := by
  obtain ⟨vs, y, hi⟩ := x
  exact set_L j y F N S e (by rw [hi.length]; exact hk) (by rw [hi.length]; exact hf) fun h' nw' F' N' z b c => h h' nw' F' N' (Ints.set z hi) b c
end

def ent (rows : List (List Int)) (i j : Nat) : Int := (rows.getD i []).getD j 0
def Square (rows : List (List Int)) : Prop := ∀ i, i < rows.length → (rows.getD i []).length = rows.length
def Bits (b : Nat) (rows : List (List Int)) : Prop := ∀ i j, (ent rows i j).natAbs < 2 ^ b
theorem mul_ok {a b : Int} {m : Nat} (ha : a.natAbs < 2 ^ m) (hb : b.natAbs < 2 ^ m) (hm : m ≤ 60000000) : IntMulOk a b :=
  IntMulOk.of_le (intBits_le_iff.mpr ha) (intBits_le_iff.mpr hb) (by omega)
theorem div_ok {a b : Int} {m : Nat} (hb : b.natAbs < 2 ^ m) (hm : m ≤ 8000) : Builtin.divisionGoesByPylong a b = false := by
  refine PyProof.noPylong_of_log2 ?_
  by_cases h0 : b.natAbs = 0
  · rw [h0]; decide
  · exact Nat.lt_of_lt_of_le ((Nat.log2_lt h0).mpr hb) (by omega)
theorem getD_set {α : Type} (l : List α) (i j : Nat) (v d : α) : (l.set i v).getD j d = if i = j ∧ i < l.length then v else l.getD j d := by
  by_cases h : i = j
  · subst h
    by_cases hl : i < l.length
    · simp [hl]
    · simp [hl, List.getD, List.getElem?_eq_none (Nat.not_lt.mp hl), List.set_eq_of_length_le (Nat.not_lt.mp hl)]
  · simp [h, List.getD, List.getElem?_set_ne h]
theorem SubBut.step {W : List Addr} {a I : Addr} {news news₂ own nw' : Led} (h1 : SubBut W news news₂) (h2 : SubBut [a] (own ++ news₂) nw') (ha : a ∈ W) (ho : ∀ p ∈ news₂, p.1 ≠ I) : SubBut W news (Mine.off I nw') := fun p hp hn =>
  mem_off.mpr ⟨h2 p (List.mem_append_right _ (h1 p hp hn)) fun q => hn (by rw [List.mem_singleton.mp q]; exact ha), ho p (h1 p hp hn)⟩
theorem SubBut.own {a I : Addr} {W : List Addr} {news₂ own nw' : Led} (h2 : SubBut [a] (own ++ news₂) nw') (ho : ∀ p ∈ own, p.1 = I) (ha : a ∈ W) (hI : I ∉ W) : Sub own nw' := fun p hp =>
  h2 p (List.mem_append_left _ hp) fun q => hI (by rw [← ho p hp, List.mem_singleton.mp q]; exact ha)

/-- the ledger without some addresses -/
def offs (W : List Addr) (nw : Led) : Led := nw.filter fun p => decide (p.1 ∉ W)
theorem mem_offs {W : List Addr} {nw : Led} {p : Addr × Obj} : p ∈ offs W nw ↔ p ∈ nw ∧ p.1 ∉ W := by simp [offs]
theorem sub_offs {W : List Addr} {news nw : Led} (h : ∀ p ∈ news, p.1 ∉ W) (s : Sub news nw) : Sub news (offs W nw) := fun p hp => mem_offs.mpr ⟨s p hp, h p hp⟩

/-- an iterator with the binding of its items: one turn takes an item and binds the target -/
structure Feed (prog : Program) (w : World) (A : Around) (I : Addr) (target : Expr) (cenv : Env) (fp wr : List Addr) (n : Nat) (St Bd : Nat → Heap → Prop) : Prop where
  sub : ∀ b ∈ wr, b ∈ fp
  frame : ∀ i h h', St i h → (∀ b ∈ fp, ∀ o, h.get? b = some o → h'.get? b = some o) → St i h'
  item : ∀ i (s : Shared) (Q : Unit → Shared → Prop) (E : Value → Shared → Prop), i < n → St i s.heap →
    (∀ h' tk', St (i + 1) h' → Bd i h' → (∀ b o, b ∉ wr → s.heap.get? b = some o → h'.get? b = some o) → Q () { s with heap := h', toks := tk' }) →
    wpAny (model prog w) A (pyNext (.ref I)) (fun r s₁ => match r with
      | none => False
      | some v => wpAny (model prog w) A (letOwnedTupleGo target (.ref I) v) (fun _ s₂ => wpAny (model prog w) A (assign target cenv v) Q E s₂) E s₁) E s
  done : ∀ (s : Shared) (Q : Shared → Prop) (E : Value → Shared → Prop), St n s.heap →
    (∀ h' tk', (∃ m, h'.Ns cenv.locals m) → (∀ b o, b ∉ wr → s.heap.get? b = some o → h'.get? b = some o) → Q { s with heap := h', toks := tk' }) →
    wpAny (model prog w) A (pyNext (.ref I)) (fun r s₁ => match r with | none => Q s₁ | some _ => False) E s
  self : ∀ i (s : Shared) (Q : Value → Shared → Prop) (E : Value → Shared → Prop), St i s.heap → Q (.ref I) s → wpAny (model prog w) A (pyIter (.ref I)) Q E s
  live : ∀ i h, St i h → ∀ b ∈ wr, ∃ o, h.get? b = some o

def testsOf (ifs : List Expr) (env : Env) : Sem Bool := forIn ifs true fun c r => if r = true then do let ok ← isTrue c env (eval c env); pure (ForInStep.yield ok) else pure (ForInStep.yield r)

section
variable {prog : Program} {w : World} {A : Around} {E : Value → Shared → Prop} {s : Shared}
theorem tests_nil {env : Env} {Q : Bool → Shared → Prop} (h : Q true s) : wpAny (model prog w) A (testsOf [] env) Q E s := wpAny_tests_nil h
theorem tests_one {env : Env} {c : Expr} {Q : Bool → Shared → Prop} (h : wpAny (model prog w) A (isTrue c env (eval c env)) Q E s) : wpAny (model prog w) A (testsOf [c] env) Q E s := wpAny_tests_one h

theorem cp_loop {elt target iter : Expr} {ifs : List Expr} {scope : Scope} {pos : Pos} {it acc : Value} {env : Env} {R : Result → Shared → Prop} (I : Nat → Shared → Prop)
    (turn : ∀ n s, I n s → wpAny (model prog w) A (pyNext it) (fun r s₁ => match r with
      | none => R (.ok .next) s₁
      | some v => wpAny (model prog w) A (letOwnedTupleGo target it v) (fun _ s₀ => wpAny (model prog w) A (assign target env v) (fun _ s₂ =>
          wpAny (model prog w) A (testsOf ifs env) (fun ok s₃ => if ok = true then wpAny (model prog w) A (eval elt env) (fun x s₄ =>
            wpAny (model prog w) A (call (.builtin "list.append") [acc, x]) (fun _ s₅ => ∃ m, m < n ∧ I m s₅) (fun _ _ => False) s₄) (fun _ _ => False) s₃
            else ∃ m, m < n ∧ I m s₃) (fun _ _ => False) s₂) (fun _ _ => False) s₀) (fun _ _ => False) s₁) (fun _ _ => False) s)
    (n : Nat) (h : I n s) : codeAny (model prog w) A (.compLoop (.ListComp elt [⟨target, iter, ifs, 0⟩] scope pos) 0 it acc env) R s := by
  refine codeAny_loop rfl I (fun n s hI => ?_) n h
  show wpAny _ A ((compTurn (.ListComp elt [⟨target, iter, ifs, 0⟩] scope pos) 0 it acc env).onRaise (fun x => do noteFrame x env; theTreesLotGoes x)) _ _ s
  refine wpAny_noted ?_
  rw [compTurn_list]
  have no : ∀ {E' : Value → Shared → Prop} (e : Value) (s' : Shared), (fun _ _ => False : Value → Shared → Prop) e s' → E' e s' := fun _ _ h => h.elim
  refine wpAny_bind (wpAny_standAt (wpAny_bind (wpAny_mono (turn n s hI) (fun r s₁ h₁ => ?_) no)))
  cases r with
  | none => exact wpAny_pure h₁
  | some v =>
    refine wpAny_bind (wpAny_mono h₁ (fun _ s₀ h₀ => ?_) no)
    refine wpAny_bind (wpAny_mono h₀ (fun _ s₂ h₂ => ?_) no)
    refine wpAny_bind (wpAny_mono h₂ (fun ok s₃ h₃ => ?_) no)
    cases ok with
    | false => exact wpAny_pure ⟨rfl, h₃⟩
    | true => exact wpAny_bind (wpAny_bind (wpAny_mono h₃ (fun x s₄ h₄ => wpAny_bind (wpAny_mono h₄ (fun _ s₅ h₅ => wpAny_pure (wpAny_pure ⟨rfl, h₅⟩)) no)) no))

variable {h₀ : Heap} {L : Addr} {m : Str → Option Value} {news : Led}

/-- the end of an element (or of a test): the comprehension's own objects stand, J holds of the rest -/
def EltEnd (h₀ : Heap) (L : Addr) (m : Str → Option Value) (W : List Addr) (own : Led) (s₁ : Shared) (J : Led → Prop) (s₂ : Shared) : Prop :=
  ∃ h' tk' nw', s₂ = { s₁ with heap := h', toks := tk' } ∧ Fr h₀ L h' m ∧ News h₀ L h' nw' ∧ Sub own nw' ∧ J (offs W nw')
theorem EltEnd.intro {W : List Addr} {own : Led} {s₁ : Shared} {J : Led → Prop} {h' : Heap} {tk' : Nat} {nw' : Led} (F : Fr h₀ L h' m) (N : News h₀ L h' nw') (ho : Sub own nw') (hJ : J (offs W nw')) : EltEnd h₀ L m W own s₁ J { s₁ with heap := h', toks := tk' } :=
  ⟨h', tk', nw', rfl, F, N, ho, hJ⟩

/-- one turn of a comprehension, as the prover sees it -/
def CompTurn (prog : Program) (w : World) (A : Around) (h₀ : Heap) (L : Addr) (m : Str → Option Value) (ifs : List Expr) (elt : Expr) (cenv : Env) (W : List Addr) (own : Led) (J₁ : Value → Led → Prop) (J₀ : Led → Prop) (s : Shared) : Prop :=
  wpAny (model prog w) A (testsOf ifs cenv) (fun ok s' => if ok = true then wpAny (model prog w) A (eval elt cenv) (fun y s'' => EltEnd h₀ L m W own s (J₁ y) s'') (fun _ _ => False) s' else EltEnd h₀ L m W own s J₀ s') (fun _ _ => False) s

theorem comp_run {elt target iter : Expr} {ifs : List Expr} {scope : Scope} {pos : Pos} {cenv : Env} {R : Result → Shared → Prop} {I D : Addr} {fp wr : List Addr} {n : Nat} {St Bd : Nat → Heap → Prop} (FD : Feed prog w A I target cenv fp wr n St Bd)
    (hDf : D ∉ fp) (hLf : L ∉ fp) (hwr : ∀ b ∈ wr, h₀.get? b = none) (hsz : n ≤ sizeLine) (hst : St 0 s.heap) (F : Fr h₀ L s.heap m) (N : News h₀ L s.heap ((D, LCg.lst []) :: news)) (hoff : ∀ p ∈ news, p.1 ∉ D :: wr)
    (J : Nat → List Value → Led → Prop) (hJ : J 0 [] news)
    (turn : ∀ i ys news₁ O h tk, i < n → ys.length ≤ i → J i ys news₁ → (∀ p ∈ news₁, p.1 ∉ D :: wr) → (∀ p ∈ O, p.1 ∈ fp) → Bd i h → (∀ b ∈ fp, h₀.get? b = none → ∀ o, h.get? b = some o → (b, o) ∈ O) → (∀ b ∈ wr, ∃ o, (b, o) ∈ O) → Fr h₀ L h m → News h₀ L h (O ++ (D, LCg.lst ys) :: news₁) →
      CompTurn prog w A h₀ L m ifs elt cenv (D :: wr) (O ++ [(D, LCg.lst ys)]) (fun y => J (i + 1) (ys ++ [y])) (J (i + 1) ys) { s with heap := h, toks := tk })
    (hR : ∀ h tk ys news', J n ys news' → Fr h₀ L h m → News h₀ L h ((D, LCg.lst ys) :: news') → (∀ p ∈ news', p.1 ∉ D :: wr) → (∃ m, h.Ns cenv.locals m) → R (.ok .next) { s with heap := h, toks := tk }) :
    codeAny (model prog w) A (.compLoop (.ListComp elt [⟨target, iter, ifs, 0⟩] scope pos) 0 (.ref I) (.ref D) cenv) R s := by
  have hLw : L ∉ wr := fun h => hLf (FD.sub _ h)
  have hDw : D ∉ wr := fun h => hDf (FD.sub _ h)
  have hD₀ := (N (D, LCg.lst []) (.head _)).2
  have move : ∀ {h h' : Heap} {ys news₁}, Fr h₀ L h m → News h₀ L h ((D, LCg.lst ys) :: news₁) → (∀ p ∈ news₁, p.1 ∉ D :: wr) → (∀ b o, b ∉ wr → h.get? b = some o → h'.get? b = some o) → Fr h₀ L h' m ∧ News h₀ L h' ((D, LCg.lst ys) :: news₁) := by
    intro h h' ys news₁ F N ho hk
    refine ⟨⟨F.ns.at' fun o e => hk L o hLw e, fun b o e => hk b o (fun q => by rw [hwr b q] at e; cases e) (F.keep b o e), F.above⟩, fun p hp => ⟨hk _ _ ?_ (N p hp).1, (N p hp).2⟩⟩
    rcases List.mem_cons.mp hp with rfl | hp
    · exact hDw
    · exact fun q => ho p hp (List.mem_cons_of_mem _ q)
  refine cp_loop (fun k s' => ∃ h tk i ys news₁, s' = { s with heap := h, toks := tk } ∧ i ≤ n ∧ k = n - i ∧ ys.length ≤ i ∧ St i h ∧ Fr h₀ L h m ∧ News h₀ L h ((D, LCg.lst ys) :: news₁) ∧ (∀ p ∈ news₁, p.1 ∉ D :: wr) ∧ J i ys news₁) ?_ n
    ⟨s.heap, s.toks, 0, [], news, rfl, Nat.zero_le _, rfl, Nat.le_refl _, hst, F, N, hoff, hJ⟩
  rintro k s' ⟨h, tk, i, ys, news₁, rfl, hi, rfl, hys, hst, F, N, hoff, hJ⟩
  by_cases hlt : i < n
  · refine wpAny_mono (FD.item i _ (fun _ s₂ => wpAny (model prog w) A (testsOf ifs cenv) (fun ok s₃ => if ok = true then wpAny (model prog w) A (eval elt cenv) (fun x s₄ =>
            wpAny (model prog w) A (call (.builtin "list.append") [.ref D, x]) (fun _ s₅ => ∃ k', k' < n - i ∧ ∃ h tk i ys news₁, s₅ = { s with heap := h, toks := tk } ∧ i ≤ n ∧ k' = n - i ∧ ys.length ≤ i ∧ St i h ∧ Fr h₀ L h m ∧ News h₀ L h ((D, LCg.lst ys) :: news₁) ∧ (∀ p ∈ news₁, p.1 ∉ D :: wr) ∧ J i ys news₁) (fun _ _ => False) s₄) (fun _ _ => False) s₃
            else ∃ k', k' < n - i ∧ ∃ h tk i ys news₁, s₃ = { s with heap := h, toks := tk } ∧ i ≤ n ∧ k' = n - i ∧ ys.length ≤ i ∧ St i h ∧ Fr h₀ L h m ∧ News h₀ L h ((D, LCg.lst ys) :: news₁) ∧ (∀ p ∈ news₁, p.1 ∉ D :: wr) ∧ J i ys news₁) (fun _ _ => False) s₂) (fun _ _ => False) hlt hst fun h₁ tk₁ hst₁ hbd hk => ?_) (fun r s₁ h₁ => ?_) fun _ _ h => h
    · obtain ⟨F₁, N₁⟩ := move F N hoff hk
      have hO : News h₀ L h₁ (ownOf h₀ fp h₁) := news_ownOf hLf
      have keepSt : ∀ {h₂ : Heap} {nw : Led}, Fr h₀ L h₂ m → News h₀ L h₂ nw → Sub (ownOf h₀ fp h₁) nw → ∀ b ∈ fp, ∀ o, h₁.get? b = some o → h₂.get? b = some o := by
        intro h₂ nw F₂ N₂ S₂ b hb o e
        cases q : h₀.get? b with
        | some o' =>
          have := F₁.keep b o' q
          rw [e] at this; cases this
          exact F₂.keep b o q
        | none => exact (N₂ _ (S₂ _ (mem_ownOf hb q e))).1
      refine wpAny_mono (turn i ys news₁ (ownOf h₀ fp h₁) h₁ tk₁ hlt hys hJ hoff ownOf_sub hbd (fun b hb hn o e => mem_ownOf hb hn e) (fun b hb => let ⟨o, e⟩ := FD.live _ _ hst₁ b hb; ⟨o, mem_ownOf (FD.sub b hb) (hwr b hb) e⟩) F₁ (hO.append N₁)) (fun ok s₃ h₃ => ?_) fun _ _ h => h
      cases ok with
      | false =>
        obtain ⟨h', tk', nw', rfl, F', N', ho, hJ'⟩ := h₃
        refine ⟨n - (i + 1), by omega, h', tk', i + 1, ys, offs (D :: wr) nw', rfl, hlt, rfl, by omega, FD.frame _ _ _ hst₁ (keepSt F' N' fun p hp => ho p (List.mem_append_left _ hp)), F', fun p hp => ?_, fun p hp => (mem_offs.mp hp).2, hJ'⟩
        rcases List.mem_cons.mp hp with rfl | hp
        · exact N' _ (ho _ (List.mem_append_right _ (.head _)))
        · exact N' p (mem_offs.mp hp).1
      | true =>
        refine wpAny_mono h₃ (fun y s₄ h₄ => ?_) fun _ _ h => h
        obtain ⟨h', tk', nw', rfl, F', N', ho, hJ'⟩ := h₄
        have hD := N' _ (ho _ (List.mem_append_right _ (.head _)))
        refine append_at hD.1 (fun h₅ hs₅ ho₅ => ?_) (by simp; omega)
        refine ⟨n - (i + 1), by omega, h₅, tk', i + 1, ys ++ [y], offs (D :: wr) nw', rfl, hlt, rfl, by simp; omega, FD.frame _ _ _ hst₁ fun b hb o e => (hs₅.2 b fun q => hDf (q ▸ hb)).trans (keepSt F' N' (fun p hp => ho p (List.mem_append_left _ hp)) b hb o e),
          F'.change hs₅ hD.2.1 hD.2.2, fun p hp => ?_, fun p hp => (mem_offs.mp hp).2, hJ'⟩
        rcases List.mem_cons.mp hp with rfl | hp
        · refine ⟨ho₅.trans ?_, hD.2⟩
          rw [← LCg.lst_snoc]
        · obtain ⟨h1, h2⟩ := mem_offs.mp hp
          exact ⟨(hs₅.2 p.1 fun q => h2 (by rw [q]; exact .head _)).trans (N' p h1).1, (N' p h1).2⟩
    · cases r with
      | none => exact h₁.elim
      | some v => exact h₁
  · have e : i = n := by omega
    subst e
    refine wpAny_mono (FD.done _ (fun s₁ => R (.ok .next) s₁) (fun _ _ => False) hst fun h₁ tk₁ hns hk => ?_) (fun r s₁ h₁ => ?_) fun _ _ h => h
    · obtain ⟨F₁, N₁⟩ := move F N hoff hk
      exact hR h₁ tk₁ ys news₁ hJ F₁ N₁ hoff hns
    · cases r with
      | none => exact h₁
      | some v => exact h₁.elim
end

/-- all of W stands in the ledger -/
def Lives (W : List Addr) (own : Led) : Prop := (∀ b ∈ W, ∃ o, (b, o) ∈ own) ∧ ∀ p, own.getLast? = some p → p.1 ∈ W
theorem Lives.off {W : List Addr} {own nw : Led} {D : Addr} (h : Lives W own) (s : Sub own nw) (f : Fresh nw D) : D ∉ W := fun hD => let ⟨_, ho⟩ := h.1 D hD; f _ (s _ ho) rfl
theorem Lives.last {W : List Addr} {O : Led} {D : Addr} {o : Obj} (h : Lives W (O ++ [(D, o)])) : D ∈ W := h.2 (D, o) (by simp)
theorem Lives.own {W : List Addr} {O : Led} {D : Addr} {o : Obj} (h : Lives W (O ++ [(D, o)])) (hO : ∀ p ∈ O, p.1 ∈ W) : ∀ p ∈ O ++ [(D, o)], p.1 ∈ W := fun p hp => (List.mem_append.mp hp).elim (hO p) fun q => by rw [List.mem_singleton.mp q]; exact h.last
theorem IsL.offs {nw : Led} {W : List Addr} {a : Addr} {vs} (x : IsL nw a vs) (h : a ∉ W) : IsL (offs W nw) a vs := let ⟨o, n, hm, r⟩ := x; ⟨o, n, mem_offs.mpr ⟨hm, h⟩, r⟩
theorem IsP.offs {nw : Led} {W : List Addr} {a : Addr} {vs} (x : IsP nw a vs) (h : a ∉ W) : IsP (Mine.offs W nw) a vs := let ⟨n, hm⟩ := x; ⟨n, mem_offs.mpr ⟨hm, h⟩⟩
theorem Ints.offs {nw : Led} {W : List Addr} {a : Addr} {ns} (x : Ints nw a ns) (h : a ∉ W) : Ints (Mine.offs W nw) a ns := let ⟨vs, y, r⟩ := x; ⟨vs, y.offs h, r⟩

theorem eqN {a b : Nat} (h : a = b) : a = b := h
section
variable {prog : Program} {w : World} {A : Around} {E : Value → Shared → Prop} {s : Shared} {h₀ : Heap} {L : Addr} {m : Str → Option Value} {news : Led} {env : Env} {scope : Scope} {cl : List (Str × Addr)}

/-- what is left of a list comprehension when its iterator stands -/
def CompAt (M : Model) (A : Around) (E : Value → Shared → Prop) (env : Env) (e : Expr) (scope : Scope) (cl : List (Str × Addr)) (use : Option (Value → Sem Unit)) (Q : Value → Shared → Prop) (it : Value) (s₂ : Shared) : Prop :=
  wpAny M A (newList []) (fun acc s₃ => wpAny M A (newFunctionEnv scope env.globals cl [] env.qual none .none (some env)) (fun cenv s₄ =>
    codeAny M A (.compStart e 0 it acc { cenv with scope := relabel scope env }) (compPost M A E use Q acc cenv.locals) s₄) E s₃) E s₂

theorem comp_expr {M : Model} {elt target iter : Expr} {ifs : List Expr} {pos : Pos} {Q : Value → Shared → Prop} (hclos : closureFor scope env = pure cl) (hkind : scope.kind = .function)
    (hnames : ∀ y ∈ scope.names, y.2 = .local → scope.names.lookup y.1 = some .local) (hs : ∀ x, foldedSetIterable iter env x = pure x)
    (h : wpAny M A (eval iter env) (fun xv s₁ => wpAny M A (pyIter xv) (fun it s₂ => CompAt M A E env (.ListComp elt [⟨target, iter, ifs, 0⟩] scope pos) scope cl none Q it s₂) E s₁) E s) :
    wpAny M A (eval (.ListComp elt [⟨target, iter, ifs, 0⟩] scope pos) env) Q E s := by
  rw [eval_ListComp]
  exact wpAny_comprehension_free (use := none) rfl hs hclos hkind hnames h

theorem comp_asg {elt target iter : Expr} {ifs : List Expr} {pos spos py : Pos} {y : Str} {Q : Flow → Shared → Prop}
    (hsw : swapsWith (.ListComp elt [⟨target, iter, ifs, 0⟩] scope pos) (some (.Name y py)) spos.line env = pure true)
    (hclos : closureFor scope env = pure cl) (hkind : scope.kind = .function)
    (hnames : ∀ y ∈ scope.names, y.2 = .local → scope.names.lookup y.1 = some .local) (hs : ∀ x, foldedSetIterable iter env x = pure x)
    (h : wpAny (model prog w) A (eval iter env) (fun xv s₁ => wpAny (model prog w) A (pyIter xv) (fun it s₂ => CompAt (model prog w) A E env (.ListComp elt [⟨target, iter, ifs, 0⟩] scope pos) scope cl (some (assign (.Name y py) env)) (fun _ s' => Q .next s') it s₂) E s₁) E s) :
    wpAny (model prog w) A (exec (.Assign [.Name y py] (.ListComp elt [⟨target, iter, ifs, 0⟩] scope pos) spos) env) Q E s := by
  rw [exec_Assign_Name_used _ _ _ _ hsw]
  refine wpAny_bind (wpAny_standAt (wpAny_bind ?_))
  show wpAny _ A (do let _ ← comprehension (.ListComp elt [⟨target, iter, ifs, 0⟩] scope pos) scope env _ (newList []) false (eval iter env) (some (assign (.Name y py) env))) _ _ s
  exact wpAny_bind (wpAny_mono (wpAny_comprehension_free (use := some (assign (.Name y py) env)) (Q := fun _ s' => Q .next s') rfl hs hclos hkind hnames h) (fun _ s' hq => wpAny_pure (wpAny_pure hq)) fun _ _ e => e)

/-- how the made list is used: its value, or the store into a name -/
def UsePost (M : Model) (A : Around) (E : Value → Shared → Prop) (use : Option (Value → Sem Unit)) (Q : Value → Shared → Prop) (h₀ : Heap) (L : Addr) (m : Str → Option Value) (J : List Value → Led → Prop) (s : Shared) : Prop :=
  ∀ C D h tk ys news', J ys news' → Fr h₀ L h m → News h₀ L h ((D, LCg.lst ys) :: news') → Fresh news' D → (∃ m', h.Ns C m') → C ≠ L → h₀.get? C = none → C ≠ D → (∀ p ∈ news', p.1 ≠ C) →
    compPost M A E use Q (.ref D) C (.ok .next) { s with heap := h, toks := tk }

theorem UsePost.expr {M : Model} {Q : Value → Shared → Prop} {J : List Value → Led → Prop}
    (done : ∀ D h tk ys news', J ys news' → Fr h₀ L h m → News h₀ L h ((D, LCg.lst ys) :: news') → Fresh news' D → Q (.ref D) { s with heap := h, toks := tk }) : UsePost M A E none Q h₀ L m J s := by
  rintro C D h tk ys news' hJ F N hf ⟨m', hn⟩ hCL hC₀ hCD ho
  refine ⟨m', hn, fun h' hs' => done D h' tk ys news' hJ (F.change hs' hCL hC₀) (fun p hp => ⟨(hs'.2 _ ?_).trans (N p hp).1, (N p hp).2⟩) hf⟩
  rcases List.mem_cons.mp hp with rfl | hp
  · exact Ne.symm hCD
  · exact ho p hp

theorem UsePost.asg {M : Model} {y : Str} {py : Pos} {Q : Flow → Shared → Prop} {J : List Value → Led → Prop} (hL : env.locals = L) (hx : env.kindOf y = some .local) (hp : (env.scope.kind == .class || (env.scope.kind == .module && env.locals != env.globals)) = false)
    (done : ∀ D h tk ys news', J ys news' → Fr h₀ L h (fun z => if z = y then some (.ref D) else m z) → News h₀ L h ((D, LCg.lst ys) :: news') → Fresh news' D → Q .next { s with heap := h, toks := tk }) :
    UsePost M A E (some (assign (.Name y py) env)) (fun _ s' => Q .next s') h₀ L m J s := by
  rintro C D h tk ys news' hJ F N hf ⟨m', hn⟩ hCL hC₀ hCD ho
  subst hL
  show wpAny M A (assign (.Name y py) env (.ref D)) _ _ _
  refine wpAny_assign_Name (wpAny_storeName_local hx F.ns (fun h₂ hn₂ hs₂ => ?_) hp)
  have F₂ := F.set hn₂ hs₂
  have N₂ := N.set hs₂
  refine ⟨m', hn.sameBut hs₂ hCL, fun h' hs' => done D h' _ ys news' hJ (F₂.change hs' hCL hC₀) (fun p hp => ⟨(hs'.2 _ ?_).trans (N₂ p hp).1, (N₂ p hp).2⟩) hf⟩
  rcases List.mem_cons.mp hp with rfl | hp
  · exact Ne.symm hCD
  · exact ho p hp

theorem env_cells {M : Model} {globals : Addr} {qual : Str} {Q : Env → Shared → Prop}
    (hQ : Q (newEnv scope s.heap.objs.size globals (cellsFrom (s.heap.objs.size + 1) scope.names cl) qual none .none (some env) builtinsNs) { s with heap := pushCells (s.heap.push { cls := .type "dict", data := .dict #[] }) scope.names }) :
    wpAny M A (newFunctionEnv scope globals cl [] qual none .none (some env)) Q E s := by
  simp only [newFunctionEnv, Option.isSome_some, if_true]
  refine wpAny_bind (wpAny_alloc ?_)
  refine wpAny_bind (wpAny_layCells _ (fun name kind cells => by cases hkc : kind == NameKind.cell <;> simp [hkc]) _ _ _ _ ?_)
  rw [show ({ s with heap := s.heap.push { cls := .type "dict", data := .dict #[] } } : Shared).heap.objs.size = s.heap.objs.size + 1 from Heap.size_push ..]
  exact wpAny_bind (wpAny_pure (wpAny_pure hQ))

theorem block_core {elt target iter : Expr} {ifs : List Expr} {pos : Pos} {use : Option (Value → Sem Unit)} {Q : Value → Shared → Prop} {I C D : Addr} {cl' : List (Str × Addr)} {fp wr : List Addr} {n : Nat} {St Bd : Nat → Heap → Prop}
    (FD : Feed prog w A I target (compEnvC scope cl' C env) fp wr n St Bd) (hC : C ∈ wr) (hDf : D ∉ fp) (hLf : L ∉ fp) (hwr : ∀ b ∈ wr, h₀.get? b = none) (hsz : n ≤ sizeLine) (hst : St 0 s.heap) (F : Fr h₀ L s.heap m)
    (N : News h₀ L s.heap ((D, LCg.lst []) :: news)) (hoff : ∀ p ∈ news, p.1 ∉ D :: wr) (J : Nat → List Value → Led → Prop) (hJ : J 0 [] news)
    (turn : ∀ i ys news₁ O h tk, i < n → ys.length ≤ i → J i ys news₁ → (∀ p ∈ news₁, p.1 ∉ D :: wr) → (∀ p ∈ O, p.1 ∈ fp) → Bd i h → (∀ b ∈ fp, h₀.get? b = none → ∀ o, h.get? b = some o → (b, o) ∈ O) → (∀ b ∈ wr, ∃ o, (b, o) ∈ O) → Fr h₀ L h m → News h₀ L h (O ++ (D, LCg.lst ys) :: news₁) →
      CompTurn prog w A h₀ L m ifs elt (compEnvC scope cl' C env) (D :: wr) (O ++ [(D, LCg.lst ys)]) (fun y => J (i + 1) (ys ++ [y])) (J (i + 1) ys) { s with heap := h, toks := tk })
    (U : UsePost (model prog w) A E use Q h₀ L m (J n) s) :
    codeAny (model prog w) A (.compStart (.ListComp elt [⟨target, iter, ifs, 0⟩] scope pos) 0 (.ref I) (.ref D) (compEnvC scope cl' C env)) (compPost (model prog w) A E use Q (.ref D) C) s := by
  have loop : codeAny (model prog w) A (.compLoop (.ListComp elt [⟨target, iter, ifs, 0⟩] scope pos) 0 (.ref I) (.ref D) (compEnvC scope cl' C env)) (compPost (model prog w) A E use Q (.ref D) C) s := by
    refine comp_run FD hDf hLf hwr hsz hst F N hoff J hJ turn fun h tk ys news' hJ' F' N' ho hn => ?_
    refine U C D h tk ys news' hJ' F' N' (fun p hp e => ho p hp (by rw [e]; exact .head _)) hn (fun e => hLf (e ▸ FD.sub _ hC)) (hwr _ hC) (fun e => hDf (e ▸ FD.sub _ hC)) fun p hp e => ho p hp (by rw [e]; exact List.mem_cons_of_mem _ hC)
  exact codeAny_compStart_list loop (FD.self 0 _ _ _ hst loop)

abbrev cellObj : Obj := { cls := .type "cell", data := .cell none }

/-- the block of a comprehension whose names are its own alone -/
theorem block_l {elt target iter : Expr} {ifs : List Expr} {pos : Pos} {use : Option (Value → Sem Unit)} {Q : Value → Shared → Prop} {I : Addr} {fp wr : List Addr} {n : Nat} {St : Nat → Heap → Prop} {Bd : Addr → Nat → Heap → Prop}
    (FD : ∀ C, C ∉ fp → Feed prog w A I target (compEnvC scope cl C env) (C :: fp) (C :: wr) n (fun i h => St i h ∧ ∃ m, h.Ns C m) (Bd C)) (hpc : ∀ h, pushCells h scope.names = h) (hcf : ∀ k, cellsFrom k scope.names cl = cl)
    (hLf : L ∉ fp) (hfp : ∀ b ∈ fp, b < s.heap.objs.size) (hwr : ∀ b ∈ wr, h₀.get? b = none) (hsz : n ≤ sizeLine) (hStk : ∀ h', (∀ b o, s.heap.get? b = some o → h'.get? b = some o) → St 0 h') (F : Fr h₀ L s.heap m)
    (N : News h₀ L s.heap news) (hoff : ∀ p ∈ news, p.1 ∉ wr) (J : Nat → List Value → Led → Prop) (hJ : J 0 [] news)
    (turn : ∀ C D i ys news₁ O h tk, i < n → ys.length ≤ i → J i ys news₁ → (∀ p ∈ news₁, p.1 ∉ D :: C :: wr) → (∀ p ∈ O, p.1 ∈ C :: fp) → Bd C i h → (∀ b ∈ C :: fp, h₀.get? b = none → ∀ o, h.get? b = some o → (b, o) ∈ O) → (∀ b ∈ C :: wr, ∃ o, (b, o) ∈ O) → h₀.get? C = none → Fr h₀ L h m → News h₀ L h (O ++ (D, LCg.lst ys) :: news₁) →
      CompTurn prog w A h₀ L m ifs elt (compEnvC scope cl C env) (D :: C :: wr) (O ++ [(D, LCg.lst ys)]) (fun y => J (i + 1) (ys ++ [y])) (J (i + 1) ys) { s with heap := h, toks := tk })
    (U : ∀ g, UsePost (model prog w) A E use Q h₀ L m (J n) { s with heap := g }) :
    CompAt (model prog w) A E env (.ListComp elt [⟨target, iter, ifs, 0⟩] scope pos) scope cl use Q (.ref I) s := by
  unfold CompAt
  refine wpAny_newObj_type (env_cells ?_)
  dsimp only [newEnv]
  rw [hcf, hpc]
  generalize hH : s.heap.push { cls := .type "list", data := .seq ([] : List Value).toArray } = H
  have hHs : H.objs.size = s.heap.objs.size + 1 := by rw [← hH, Heap.size_push]
  have up : ∀ b o, s.heap.get? b = some o → (H.push { cls := .type "dict", data := .dict #[] }).get? b = some o := fun b o e => Heap.get?_push_of_some _ (hH ▸ Heap.get?_push_of_some _ e)
  have hCf : H.objs.size ∉ fp := fun h => by have := ltN (hfp _ h); omega
  have hDf : s.heap.objs.size ∉ fp := fun h => Nat.lt_irrefl _ (hfp _ h)
  have hLs := ltN F.ns.lt
  have new₀ : ∀ a : Nat, s.heap.objs.size ≤ a → h₀.get? a = none := fun a ha => Heap.get?_none_of_le (Nat.le_trans (Nat.le_trans F.above (Nat.le_of_lt hLs)) ha)
  refine block_core (FD _ hCf) (.head _) ?_ ?_ ?_ hsz ?_ (F.keeps up) ?_ ?_ J hJ ?_ (U _)
  · intro h
    rcases List.mem_cons.mp h with e | h
    · have := eqN e; omega
    · exact hDf h
  · intro h
    rcases List.mem_cons.mp h with e | h
    · have := eqN e; omega
    · exact hLf h
  · intro b hb
    rcases List.mem_cons.mp hb with rfl | hb
    · exact new₀ _ (by omega)
    · exact hwr b hb
  · exact ⟨hStk _ up, _, Heap.Ns.new H (.type "dict")⟩
  · intro p hp
    rcases List.mem_cons.mp hp with rfl | hp
    · exact ⟨Heap.get?_push_of_some _ (hH ▸ Heap.get?_push_size _ rfl), fun e => by have := eqN e; omega, new₀ _ (Nat.le_refl _)⟩
    · exact ⟨up _ _ (N p hp).1, (N p hp).2⟩
  · intro p hp h
    have hlt := ltN (Heap.lt_size (N p hp).1)
    rcases List.mem_cons.mp h with e | h
    · have := eqN e; omega
    · rcases List.mem_cons.mp h with e | h
      · have := eqN e; omega
      · exact hoff p hp h
  · intro i ys news₁ O h tk h1 h2 h3 h4 h5 h6 h7 h8 F' N'
    exact turn _ _ i ys news₁ O h tk h1 h2 h3 h4 h5 h6 h7 h8 (new₀ _ (by omega)) F' N'

/-- the block of a comprehension whose one name is captured -/
theorem block_c {elt target iter : Expr} {ifs : List Expr} {pos : Pos} {use : Option (Value → Sem Unit)} {Q : Value → Shared → Prop} {I : Addr} {fp wr : List Addr} {n : Nat} {St : Nat → Heap → Prop} {Bd : Addr → Addr → Nat → Heap → Prop} {x : Str}
    (FD : ∀ C c, C ∉ fp → c ∉ fp → c ≠ C → Feed prog w A I target (compEnvC scope ((x, c) :: cl) C env) (c :: C :: fp) (c :: C :: wr) n (fun i h => St i h ∧ (∃ m, h.Ns C m) ∧ ∃ v, h.IsCell c v) (Bd C c))
    (hpc : ∀ h, pushCells h scope.names = h.push cellObj) (hcf : ∀ k, cellsFrom k scope.names cl = (x, k) :: cl)
    (hLf : L ∉ fp) (hfp : ∀ b ∈ fp, b < s.heap.objs.size) (hwr : ∀ b ∈ wr, h₀.get? b = none) (hsz : n ≤ sizeLine) (hStk : ∀ h', (∀ b o, s.heap.get? b = some o → h'.get? b = some o) → St 0 h') (F : Fr h₀ L s.heap m)
    (N : News h₀ L s.heap news) (hoff : ∀ p ∈ news, p.1 ∉ wr) (J : Nat → List Value → Led → Prop) (hJ : J 0 [] news)
    (turn : ∀ C c D i ys news₁ O h tk, i < n → ys.length ≤ i → J i ys news₁ → (∀ p ∈ news₁, p.1 ∉ D :: c :: C :: wr) → (∀ p ∈ O, p.1 ∈ c :: C :: fp) → Bd C c i h → (∀ b ∈ c :: C :: fp, h₀.get? b = none → ∀ o, h.get? b = some o → (b, o) ∈ O) → (∀ b ∈ c :: C :: wr, ∃ o, (b, o) ∈ O) → h₀.get? c = none → h₀.get? C = none → Fr h₀ L h m → News h₀ L h (O ++ (D, LCg.lst ys) :: news₁) →
      CompTurn prog w A h₀ L m ifs elt (compEnvC scope ((x, c) :: cl) C env) (D :: c :: C :: wr) (O ++ [(D, LCg.lst ys)]) (fun y => J (i + 1) (ys ++ [y])) (J (i + 1) ys) { s with heap := h, toks := tk })
    (U : ∀ g, UsePost (model prog w) A E use Q h₀ L m (J n) { s with heap := g }) :
    CompAt (model prog w) A E env (.ListComp elt [⟨target, iter, ifs, 0⟩] scope pos) scope cl use Q (.ref I) s := by
  unfold CompAt
  refine wpAny_newObj_type (env_cells ?_)
  dsimp only [newEnv]
  rw [hcf, hpc]
  generalize hH : s.heap.push { cls := .type "list", data := .seq ([] : List Value).toArray } = H
  have hHs : H.objs.size = s.heap.objs.size + 1 := by rw [← hH, Heap.size_push]
  generalize hH₂ : H.push { cls := .type "dict", data := .dict #[] } = H₂
  have hHs₂ : H₂.objs.size = s.heap.objs.size + 2 := by rw [← hH₂, Heap.size_push]; omega
  have hcs : H.objs.size + 1 = H₂.objs.size := by omega
  rw [hcs]
  have up : ∀ b o, s.heap.get? b = some o → (H₂.push cellObj).get? b = some o := fun b o e => Heap.get?_push_of_some _ (hH₂ ▸ Heap.get?_push_of_some _ (hH ▸ Heap.get?_push_of_some _ e))
  have hCf : H.objs.size ∉ fp := fun h => by have := ltN (hfp _ h); omega
  have hcf' : H₂.objs.size ∉ fp := fun h => by have := ltN (hfp _ h); omega
  have hDf : s.heap.objs.size ∉ fp := fun h => Nat.lt_irrefl _ (hfp _ h)
  have hLs := ltN F.ns.lt
  have new₀ : ∀ a : Nat, s.heap.objs.size ≤ a → h₀.get? a = none := fun a ha => Heap.get?_none_of_le (Nat.le_trans (Nat.le_trans F.above (Nat.le_of_lt hLs)) ha)
  refine block_core (FD _ _ hCf hcf' (neN (by omega))) (.tail _ (.head _)) ?_ ?_ ?_ hsz ?_ (F.keeps up) ?_ ?_ J hJ ?_ (U _)
  · intro h
    rcases List.mem_cons.mp h with e | h
    · have := eqN e; omega
    · rcases List.mem_cons.mp h with e | h
      · have := eqN e; omega
      · exact hDf h
  · intro h
    rcases List.mem_cons.mp h with e | h
    · have := eqN e; omega
    · rcases List.mem_cons.mp h with e | h
      · have := eqN e; omega
      · exact hLf h
  · intro b hb
    rcases List.mem_cons.mp hb with rfl | hb
    · exact new₀ _ (by omega)
    · rcases List.mem_cons.mp hb with rfl | hb
      · exact new₀ _ (by omega)
      · exact hwr b hb
  · exact ⟨hStk _ up, ⟨_, (hH₂ ▸ Heap.Ns.new H (.type "dict") : H₂.Ns H.objs.size _).push _⟩, _, _, Heap.get?_push_size _ rfl, rfl⟩
  · intro p hp
    rcases List.mem_cons.mp hp with rfl | hp
    · exact ⟨Heap.get?_push_of_some _ (hH₂ ▸ Heap.get?_push_of_some _ (hH ▸ Heap.get?_push_size _ rfl)), fun e => by have := eqN e; omega, new₀ _ (Nat.le_refl _)⟩
    · exact ⟨up _ _ (N p hp).1, (N p hp).2⟩
  · intro p hp h
    have hlt := ltN (Heap.lt_size (N p hp).1)
    rcases List.mem_cons.mp h with e | h
    · have := eqN e; omega
    · rcases List.mem_cons.mp h with e | h
      · have := eqN e; omega
      · rcases List.mem_cons.mp h with e | h
        · have := eqN e; omega
        · exact hoff p hp h
  · intro i ys news₁ O h tk h1 h2 h3 h4 h5 h6 h7 h8 F' N'
    exact turn _ _ _ i ys news₁ O h tk h1 h2 h3 h4 h5 h6 h7 h8 (new₀ _ (by omega)) (new₀ _ (by omega)) F' N'
end

section
variable {prog : Program} {w : World} {A : Around} {I : Addr} {fp wr : List Addr} {n : Nat} {St : Nat → Heap → Prop} {P : Nat → Value → Prop}

theorem feed_local {x : Str} {px : Pos} {cenv : Env} (W : Walks prog w A I fp wr n P St) (hlv : ∀ i h, St i h → ∀ b ∈ wr, ∃ o, h.get? b = some o) (hC : cenv.locals ∉ fp) (hx : cenv.kindOf x = some .local) (hp : (cenv.scope.kind == .class || (cenv.scope.kind == .module && cenv.locals != cenv.globals)) = false) :
    Feed prog w A I (.Name x px) cenv (cenv.locals :: fp) (cenv.locals :: wr) n (fun i h => St i h ∧ ∃ m, h.Ns cenv.locals m) (fun i h => ∃ m v, h.Ns cenv.locals m ∧ m x = some v ∧ P i v) where
  sub := fun b hb => by
    rcases List.mem_cons.mp hb with rfl | hb
    · exact .head _
    · exact .tail _ (W.sub b hb)
  frame := fun i h h' st hk => ⟨W.frame i h h' st.1 fun b hb o e => hk b (.tail _ hb) o e, let ⟨m, hn⟩ := st.2; ⟨m, hn.at' fun o e => hk _ (.head _) o e⟩⟩
  item := fun i s Q E hi st hQ => by
    obtain ⟨m, hn⟩ := st.2
    refine W.item i s _ E hi st.1 fun v h₁ tk₁ hP st₁ hk₁ => ?_
    refine wpAny_pure (wpAny_assign_Name (wpAny_storeName_local hx (hn.at' fun o e => hk₁ _ o (fun q => hC (W.sub _ q)) e) (fun h₂ hn₂ hs₂ => ?_) hp))
    refine hQ h₂ _ ⟨W.frame _ _ _ st₁ fun b hb o e => (hs₂.2 b fun q => hC (q ▸ hb)).trans e, _, hn₂⟩ ⟨_, v, hn₂, by simp, hP⟩ fun b o hb e => ?_
    exact (hs₂.2 b fun q => hb (by rw [q]; exact .head _)).trans (hk₁ b o (fun q => hb (.tail _ q)) e)
  done := fun s Q E st hQ => by
    obtain ⟨m, hn⟩ := st.2
    exact W.done s _ E st.1 fun h₁ tk₁ hk₁ => hQ h₁ tk₁ ⟨m, hn.at' fun o e => hk₁ _ o (fun q => hC (W.sub _ q)) e⟩ fun b o hb e => hk₁ b o (fun q => hb (.tail _ q)) e
  self := fun i s Q E st hQ => W.self i s Q E st.1 hQ
  live := fun i h st b hb => by
    rcases List.mem_cons.mp hb with rfl | hb
    · obtain ⟨m, o, _, _, e, _⟩ := st.2; exact ⟨o, e⟩
    · exact hlv i h st.1 b hb

theorem feed_cell {x : Str} {px : Pos} {cenv : Env} {c : Addr} (W : Walks prog w A I fp wr n P St) (hlv : ∀ i h, St i h → ∀ b ∈ wr, ∃ o, h.get? b = some o) (hC : cenv.locals ∉ fp) (hcf : c ∉ fp) (hne : c ≠ cenv.locals) (hk : cenv.scope.kind = .function) (hx : cenv.kindOf x = some .cell) (hc : cenv.cells.lookup x = some c) :
    Feed prog w A I (.Name x px) cenv (c :: cenv.locals :: fp) (c :: cenv.locals :: wr) n (fun i h => St i h ∧ (∃ m, h.Ns cenv.locals m) ∧ ∃ v, h.IsCell c v) (fun i h => ∃ v, h.IsCell c (some v) ∧ P i v) where
  sub := fun b hb => by
    rcases List.mem_cons.mp hb with rfl | hb
    · exact .head _
    · rcases List.mem_cons.mp hb with rfl | hb
      · exact .tail _ (.head _)
      · exact .tail _ (.tail _ (W.sub b hb))
  frame := fun i h h' st hk => ⟨W.frame i h h' st.1 fun b hb o e => hk b (.tail _ (.tail _ hb)) o e, (let ⟨m, hn⟩ := st.2.1; ⟨m, hn.at' fun o e => hk _ (.tail _ (.head _)) o e⟩), let ⟨v, o, e, d⟩ := st.2.2; ⟨v, o, hk _ (.head _) o e, d⟩⟩
  item := fun i s Q E hi st hQ => by
    obtain ⟨m, hn⟩ := st.2.1
    obtain ⟨v₀, o₀, e₀, d₀⟩ := st.2.2
    refine W.item i s _ E hi st.1 fun v h₁ tk₁ hP st₁ hk₁ => ?_
    refine wpAny_pure (wpAny_assign_Name (wpAny_storeName_cell hk hx hc ⟨o₀, hk₁ _ o₀ (fun q => hcf (W.sub _ q)) e₀, d₀⟩ fun h₂ hc₂ hs₂ => ?_))
    refine hQ h₂ _ ⟨W.frame _ _ _ st₁ fun b hb o e => (hs₂.2 b fun q => hcf (q ▸ hb)).trans e, ⟨m, (hn.at' fun o e => hk₁ _ o (fun q => hC (W.sub _ q)) e).sameBut hs₂ (Ne.symm hne)⟩, _, hc₂⟩ ⟨v, hc₂, hP⟩ fun b o hb e => ?_
    exact (hs₂.2 b fun q => hb (by rw [q]; exact .head _)).trans (hk₁ b o (fun q => hb (.tail _ (.tail _ q))) e)
  done := fun s Q E st hQ => by
    obtain ⟨m, hn⟩ := st.2.1
    exact W.done s _ E st.1 fun h₁ tk₁ hk₁ => hQ h₁ tk₁ ⟨m, hn.at' fun o e => hk₁ _ o (fun q => hC (W.sub _ q)) e⟩ fun b o hb e => hk₁ b o (fun q => hb (.tail _ (.tail _ q))) e
  self := fun i s Q E st hQ => W.self i s Q E st.1 hQ
  live := fun i h st b hb => by
    rcases List.mem_cons.mp hb with rfl | hb
    · obtain ⟨v, o, e, _⟩ := st.2.2; exact ⟨o, e⟩
    · rcases List.mem_cons.mp hb with rfl | hb
      · obtain ⟨m, o, _, _, e, _⟩ := st.2.1; exact ⟨o, e⟩
      · exact hlv i h st.1 b hb

theorem feed_pair {a b : Str} {pa pb tp : Pos} {kk : Nat} {cenv : Env} {Pt : Nat → Array Value → Prop} {Mid : Nat → Addr → Heap → Prop} (W : WalksT prog w A I fp wr n Pt St Mid) (hlv : ∀ i h, St i h → ∀ b ∈ wr, ∃ o, h.get? b = some o)
    (hPt : ∀ i vals, Pt i vals → ∃ x y, vals = #[x, y]) (hh : A.handled = none) (hC : cenv.locals ∉ fp) (ha : cenv.kindOf a = some .local) (hb : cenv.kindOf b = some .local)
    (hp : (cenv.scope.kind == .class || (cenv.scope.kind == .module && cenv.locals != cenv.globals)) = false) (hab : a ≠ b) :
    Feed prog w A I (.Tuple [.Name a pa, .Name b pb] kk tp) cenv (cenv.locals :: fp) (cenv.locals :: wr) n (fun i h => St i h ∧ ∃ m, h.Ns cenv.locals m) (fun i h => ∃ m x y, h.Ns cenv.locals m ∧ m a = some x ∧ m b = some y ∧ Pt i #[x, y]) where
  sub := fun b hb => by
    rcases List.mem_cons.mp hb with rfl | hb
    · exact .head _
    · exact .tail _ (W.sub b hb)
  frame := fun i h h' st hk => ⟨W.frame i h h' st.1 fun b hb o e => hk b (.tail _ hb) o e, let ⟨m, hn⟩ := st.2; ⟨m, hn.at' fun o e => hk _ (.head _) o e⟩⟩
  item := fun i s Q E hi st hQ => by
    obtain ⟨m, hn⟩ := st.2
    refine W.item i s _ E hi st.1 fun T vals h₁ tk₁ hP hT hTup hmid hk₁ => ?_
    have hn₁ := hn.at' fun o e => hk₁ _ o (fun q => hC (W.sub _ q)) e
    refine W.go _ _ _ i T _ _ E hmid fun h₂ st₂ hk₂ => ?_
    obtain ⟨x, y, rfl⟩ := hPt i vals hP
    have hTw := W.apart _ _ _ hmid
    obtain ⟨oT, eT, cT, dT⟩ := hTup
    refine kcp_assign (m := m) hh ⟨oT, hk₂ _ oT hTw eT, cT, dT⟩ ha hb hp (hn₁.at' fun o e => hk₂ _ o (fun q => hC (W.sub _ q)) e) fun h₃ tk₃ hn₃ hk₃ => ?_
    refine hQ h₃ tk₃ ⟨W.frame _ _ _ st₂ fun b hb o e => hk₃ b o (fun q => hC (q ▸ hb)) e, _, hn₃⟩ ⟨_, x, y, hn₃, by simp [hab], by simp, hP⟩ fun b o hb e => ?_
    exact hk₃ b o (fun q => hb (by rw [q]; exact .head _)) (hk₂ b o (fun q => hb (.tail _ q)) (hk₁ b o (fun q => hb (.tail _ q)) e))
  done := fun s Q E st hQ => by
    obtain ⟨m, hn⟩ := st.2
    exact W.done s _ E st.1 fun h₁ tk₁ hk₁ => hQ h₁ tk₁ ⟨m, hn.at' fun o e => hk₁ _ o (fun q => hC (W.sub _ q)) e⟩ fun b o hb e => hk₁ b o (fun q => hb (.tail _ q)) e
  self := fun i s Q E st hQ => W.self i s Q E st.1 hQ
  live := fun i h st b hb => by
    rcases List.mem_cons.mp hb with rfl | hb
    · obtain ⟨m, o, _, _, e, _⟩ := st.2; exact ⟨o, e⟩
    · exact hlv i h st.1 b hb
end

section
variable {prog : Program} {w : World} {A : Around} {E : Value → Shared → Prop} {s : Shared} {h₀ : Heap} {L : Addr} {m : Str → Option Value} {news : Led} {env : Env} {scope : Scope} {cl : List (Str × Addr)}
  {elt iter : Expr} {ifs : List Expr} {pos px : Pos} {use : Option (Value → Sem Unit)} {Q : Value → Shared → Prop} {x : Str}

theorem lives_of {W : List Addr} {O : Led} {D : Addr} {o : Obj} (h : ∀ b ∈ W, ∃ o, (b, o) ∈ O) : Lives (D :: W) (O ++ [(D, o)]) := by
  refine ⟨fun b hb => ?_, fun p hp => ?_⟩
  · rcases List.mem_cons.mp hb with rfl | hb
    · exact ⟨o, List.mem_append_right _ (.head _)⟩
    · obtain ⟨x, hx⟩ := h b hb; exact ⟨x, List.mem_append_left _ hx⟩
  · rw [List.getLast?_append] at hp
    simp at hp
    rw [← hp]; exact .head _
theorem local_in (hx : scope.names.lookup x = some .local) (cl' : List (Str × Addr)) (C : Addr) : (compEnvC scope cl' C env).kindOf x = some .local := lookup_relabel_local hx
theorem kind_in (hk : scope.kind = .function) (cl' : List (Str × Addr)) (C : Addr) : ((compEnvC scope cl' C env).scope.kind == .class || ((compEnvC scope cl' C env).scope.kind == .module && (compEnvC scope cl' C env).locals != (compEnvC scope cl' C env).globals)) = false := by
  show (scope.kind == .class || (scope.kind == .module && _)) = false
  rw [hk]; rfl

theorem comp_range_l {r : Addr} {a b : Int} {t u v : Tok} (n : Nat) (J : Nat → List Value → Led → Prop) (hh : A.handled = none) (hr : IsRange s.heap r a b 1 t u v) (hsmall : Builtin.Range.small a b 1 = true) (hn : (b - a).toNat = n) (hsz : n ≤ sizeLine)
    (hpc : ∀ h, pushCells h scope.names = h) (hcf : ∀ k, cellsFrom k scope.names cl = cl) (hk : scope.kind = .function) (hx : scope.names.lookup x = some .local) (F : Fr h₀ L s.heap m) (N : News h₀ L s.heap news) (hJ : J 0 [] news)
    (turn : ∀ i t C oC m₂ D W O ys news₁ h tk, i < n → ys.length ≤ i → J i ys news₁ → (∀ p ∈ news₁, p.1 ∉ W) → (∀ p ∈ O, p.1 ∈ W) → Lives W (O ++ [(D, LCg.lst ys)]) → (C, oC) ∈ O → LCg.NsObj oC m₂ → m₂ x = some (.int (a + (i : Int)) t) → Fr h₀ L h m → News h₀ L h (O ++ (D, LCg.lst ys) :: news₁) →
      CompTurn prog w A h₀ L m ifs elt (compEnvC scope cl C env) W (O ++ [(D, LCg.lst ys)]) (fun y => J (i + 1) (ys ++ [y])) (J (i + 1) ys) { s with heap := h, toks := tk })
    (U : ∀ g, UsePost (model prog w) A E use Q h₀ L m (J n) { s with heap := g }) :
    wpAny (model prog w) A (pyIter (.ref r)) (fun it s₂ => CompAt (model prog w) A E env (.ListComp elt [⟨.Name x px, iter, ifs, 0⟩] scope pos) scope cl use Q it s₂) E s := by
  subst hn
  refine wpAny_pyIter_range hr hsmall ?_
  refine block_l (fun C hC => feed_local (cenv := compEnvC scope cl C env) (LCg.range_walks hh a (b - a).toNat) (fun i h st b hb => by rw [List.mem_singleton.mp hb]; exact ⟨_, st⟩) hC (local_in hx _ _) (kind_in hk _ _)) hpc hcf (fun h => ?_) (fun b hb => ?_) (fun b hb => ?_) hsz
    (fun h' up => up _ _ (by show (s.heap.push _).get? _ = _; rw [rangeSize_nat]; simpa using Heap.get?_push_size _ rfl)) (F.push _) (N.pushKeep _) (fun p hp h => ?_) J hJ ?_ (fun g => U g)
  · exact absurd F.ns.lt ((List.mem_singleton.mp h) ▸ Nat.lt_irrefl _)
  · rw [List.mem_singleton.mp hb]
    show s.heap.objs.size < (s.heap.push _).objs.size
    rw [Heap.size_push]; exact Nat.lt_succ_self _
  · rw [List.mem_singleton.mp hb]; exact next_is_new F
  · exact absurd (Heap.lt_size (N p hp).1) (by rw [List.mem_singleton.mp h]; exact Nat.lt_irrefl _)
  · rintro C D i ys news₁ O h tk hi hys hJ₁ ho hO ⟨m₂, v, hn, hv, t, rfl⟩ hall hlive hC₀ F' N'
    obtain ⟨oC, eC, hm⟩ := LCg.ns_obj hn
    exact turn i t C oC m₂ D _ O ys news₁ h tk hi hys hJ₁ ho (fun p hp => .tail _ (hO p hp)) (lives_of hlive) (hall C (.head _) hC₀ _ eC) hm hv F' N'

theorem comp_range_c {r : Addr} {a b : Int} {t u v : Tok} (n : Nat) (J : Nat → List Value → Led → Prop) (hh : A.handled = none) (hr : IsRange s.heap r a b 1 t u v) (hsmall : Builtin.Range.small a b 1 = true) (hn : (b - a).toNat = n) (hsz : n ≤ sizeLine)
    (hpc : ∀ h, pushCells h scope.names = h.push cellObj) (hcf : ∀ k, cellsFrom k scope.names cl = (x, k) :: cl) (hk : scope.kind = .function) (hx : ∀ C c, (compEnvC scope ((x, c) :: cl) C env).kindOf x = some .cell) (F : Fr h₀ L s.heap m) (N : News h₀ L s.heap news) (hJ : J 0 [] news)
    (turn : ∀ i t C c D W O ys news₁ h tk, i < n → ys.length ≤ i → J i ys news₁ → (∀ p ∈ news₁, p.1 ∉ W) → (∀ p ∈ O, p.1 ∈ W) → Lives W (O ++ [(D, LCg.lst ys)]) → CellIn O c (.int (a + (i : Int)) t) → Fr h₀ L h m → News h₀ L h (O ++ (D, LCg.lst ys) :: news₁) →
      CompTurn prog w A h₀ L m ifs elt (compEnvC scope ((x, c) :: cl) C env) W (O ++ [(D, LCg.lst ys)]) (fun y => J (i + 1) (ys ++ [y])) (J (i + 1) ys) { s with heap := h, toks := tk })
    (U : ∀ g, UsePost (model prog w) A E use Q h₀ L m (J n) { s with heap := g }) :
    wpAny (model prog w) A (pyIter (.ref r)) (fun it s₂ => CompAt (model prog w) A E env (.ListComp elt [⟨.Name x px, iter, ifs, 0⟩] scope pos) scope cl use Q it s₂) E s := by
  subst hn
  refine wpAny_pyIter_range hr hsmall ?_
  refine block_c (x := x) (fun C c hC hc hne => feed_cell (cenv := compEnvC scope ((x, c) :: cl) C env) (LCg.range_walks hh a (b - a).toNat) (fun i h st b hb => by rw [List.mem_singleton.mp hb]; exact ⟨_, st⟩) hC hc hne hk (hx C c) (by simp [compEnvC])) hpc hcf (fun h => ?_) (fun b hb => ?_) (fun b hb => ?_) hsz
    (fun h' up => up _ _ (by show (s.heap.push _).get? _ = _; rw [rangeSize_nat]; simpa using Heap.get?_push_size _ rfl)) (F.push _) (N.pushKeep _) (fun p hp h => ?_) J hJ ?_ (fun g => U g)
  · exact absurd F.ns.lt ((List.mem_singleton.mp h) ▸ Nat.lt_irrefl _)
  · rw [List.mem_singleton.mp hb]
    show s.heap.objs.size < (s.heap.push _).objs.size
    rw [Heap.size_push]; exact Nat.lt_succ_self _
  · rw [List.mem_singleton.mp hb]; exact next_is_new F
  · exact absurd (Heap.lt_size (N p hp).1) (by rw [List.mem_singleton.mp h]; exact Nat.lt_irrefl _)
  · rintro C c D i ys news₁ O h tk hi hys hJ₁ ho hO ⟨v, ⟨o, e, d⟩, t, rfl⟩ hall hlive hc₀ hC₀ F' N'
    exact turn i t C c D _ O ys news₁ h tk hi hys hJ₁ ho (fun p hp => .tail _ (hO p hp)) (lives_of hlive) ⟨o, hall c (.head _) hc₀ _ e, d⟩ F' N'

theorem src_live {l : Addr} {vs : List Value} (hl : LCg.SrcAt h₀ l vs.toArray news) (F : Fr h₀ L s.heap m) (N : News h₀ L s.heap news) : L ≠ l := by
  rintro rfl
  rcases hl with ⟨o, e, _⟩ | ⟨o, hm, _⟩
  · exact absurd (Heap.lt_size e) (Nat.not_lt.mpr F.above)
  · exact (N _ hm).2.1 rfl

theorem comp_list_l {l : Addr} {vs : List Value} (J : Nat → List Value → Led → Prop) (hh : A.handled = none) (hl : LCg.SrcAt h₀ l vs.toArray news) (hsz : vs.length ≤ sizeLine)
    (hpc : ∀ h, pushCells h scope.names = h) (hcf : ∀ k, cellsFrom k scope.names cl = cl) (hk : scope.kind = .function) (hx : scope.names.lookup x = some .local) (F : Fr h₀ L s.heap m) (N : News h₀ L s.heap news) (hJ : J 0 [] news)
    (turn : ∀ i v C oC m₂ D W O ys news₁ h tk, vs[i]? = some v → ys.length ≤ i → J i ys news₁ → (∀ p ∈ news₁, p.1 ∉ W) → (∀ p ∈ O, p.1 ∈ W ∨ p.1 = l) → Lives W (O ++ [(D, LCg.lst ys)]) → (C, oC) ∈ O → LCg.NsObj oC m₂ → m₂ x = some v → Fr h₀ L h m → News h₀ L h (O ++ (D, LCg.lst ys) :: news₁) →
      CompTurn prog w A h₀ L m ifs elt (compEnvC scope cl C env) W (O ++ [(D, LCg.lst ys)]) (fun y => J (i + 1) (ys ++ [y])) (J (i + 1) ys) { s with heap := h, toks := tk })
    (U : ∀ g, UsePost (model prog w) A E use Q h₀ L m (J vs.length) { s with heap := g }) :
    wpAny (model prog w) A (pyIter (.ref l)) (fun it s₂ => CompAt (model prog w) A E env (.ListComp elt [⟨.Name x px, iter, ifs, 0⟩] scope pos) scope cl use Q it s₂) E s := by
  have hls := hl.list F.keep N
  have hlt : l < s.heap.objs.size := by obtain ⟨_, e, _⟩ := hls; exact Heap.lt_size e
  have hLl := src_live hl F N
  refine wpAny_pyIter_list hls ?_
  have hsize : vs.toArray.size = vs.length := by simp
  refine block_l (n := vs.toArray.size) (fun C hC => feed_local (cenv := compEnvC scope cl C env) (Walks.list hh s.heap.objs.size l (Nat.ne_of_lt hlt) vs.toArray) (fun i h st b hb => by rw [List.mem_singleton.mp hb]; obtain ⟨o, e, _⟩ := st.1; exact ⟨o, e⟩) hC (local_in hx _ _) (kind_in hk _ _)) hpc hcf (fun h => ?_) (fun b hb => ?_) (fun b hb => ?_) (by rw [hsize]; exact hsz)
    (fun h' up => ⟨⟨_, up _ _ (Heap.get?_push_size _ rfl), rfl, rfl⟩, (hls.push _).at fun o e => up _ o e⟩) (F.push _) (N.pushKeep _) (fun p hp h => ?_) J hJ ?_ (fun g => by rw [hsize]; exact U g)
  · rcases List.mem_cons.mp h with e | h
    · exact absurd F.ns.lt (e ▸ Nat.lt_irrefl _)
    · exact hLl (List.mem_singleton.mp h)
  · show b < (s.heap.push _).objs.size
    rw [Heap.size_push]
    rcases List.mem_cons.mp hb with rfl | hb
    · exact Nat.lt_succ_self _
    · rw [List.mem_singleton.mp hb]; exact Nat.lt_succ_of_lt hlt
  · rw [List.mem_singleton.mp hb]; exact next_is_new F
  · exact absurd (Heap.lt_size (N p hp).1) (by rw [List.mem_singleton.mp h]; exact Nat.lt_irrefl _)
  · rintro C D i ys news₁ O h tk hi hys hJ₁ ho hO ⟨m₂, v, hn, hv, hP⟩ hall hlive hC₀ F' N'
    obtain ⟨oC, eC, hm⟩ := LCg.ns_obj hn
    refine turn i v C oC m₂ D _ O ys news₁ h tk (by simpa using hP) hys hJ₁ ho (fun p hp => ?_) (lives_of hlive) (hall C (.head _) hC₀ _ eC) hm hv F' N'
    rcases List.mem_cons.mp (hO p hp) with e | hq
    · exact .inl (by rw [e]; exact .tail _ (.head _))
    · rcases List.mem_cons.mp hq with e | hq
      · exact .inl (by rw [e]; exact .tail _ (.tail _ (.head _)))
      · exact .inr (List.mem_singleton.mp hq)

theorem comp_list_c {l : Addr} {vs : List Value} (J : Nat → List Value → Led → Prop) (hh : A.handled = none) (hl : LCg.SrcAt h₀ l vs.toArray news) (hsz : vs.length ≤ sizeLine)
    (hpc : ∀ h, pushCells h scope.names = h.push cellObj) (hcf : ∀ k, cellsFrom k scope.names cl = (x, k) :: cl) (hk : scope.kind = .function) (hx : ∀ C c, (compEnvC scope ((x, c) :: cl) C env).kindOf x = some .cell) (F : Fr h₀ L s.heap m) (N : News h₀ L s.heap news) (hJ : J 0 [] news)
    (turn : ∀ i v C c D W O ys news₁ h tk, vs[i]? = some v → ys.length ≤ i → J i ys news₁ → (∀ p ∈ news₁, p.1 ∉ W) → (∀ p ∈ O, p.1 ∈ W ∨ p.1 = l) → Lives W (O ++ [(D, LCg.lst ys)]) → CellIn O c v → Fr h₀ L h m → News h₀ L h (O ++ (D, LCg.lst ys) :: news₁) →
      CompTurn prog w A h₀ L m ifs elt (compEnvC scope ((x, c) :: cl) C env) W (O ++ [(D, LCg.lst ys)]) (fun y => J (i + 1) (ys ++ [y])) (J (i + 1) ys) { s with heap := h, toks := tk })
    (U : ∀ g, UsePost (model prog w) A E use Q h₀ L m (J vs.length) { s with heap := g }) :
    wpAny (model prog w) A (pyIter (.ref l)) (fun it s₂ => CompAt (model prog w) A E env (.ListComp elt [⟨.Name x px, iter, ifs, 0⟩] scope pos) scope cl use Q it s₂) E s := by
  have hls := hl.list F.keep N
  have hlt : l < s.heap.objs.size := by obtain ⟨_, e, _⟩ := hls; exact Heap.lt_size e
  have hLl := src_live hl F N
  refine wpAny_pyIter_list hls ?_
  have hsize : vs.toArray.size = vs.length := by simp
  refine block_c (x := x) (n := vs.toArray.size) (fun C c hC hc hne => feed_cell (cenv := compEnvC scope ((x, c) :: cl) C env) (Walks.list hh s.heap.objs.size l (Nat.ne_of_lt hlt) vs.toArray) (fun i h st b hb => by rw [List.mem_singleton.mp hb]; obtain ⟨o, e, _⟩ := st.1; exact ⟨o, e⟩) hC hc hne hk (hx C c) (by simp [compEnvC])) hpc hcf (fun h => ?_) (fun b hb => ?_) (fun b hb => ?_) (by rw [hsize]; exact hsz)
    (fun h' up => ⟨⟨_, up _ _ (Heap.get?_push_size _ rfl), rfl, rfl⟩, (hls.push _).at fun o e => up _ o e⟩) (F.push _) (N.pushKeep _) (fun p hp h => ?_) J hJ ?_ (fun g => by rw [hsize]; exact U g)
  · rcases List.mem_cons.mp h with e | h
    · exact absurd F.ns.lt (e ▸ Nat.lt_irrefl _)
    · exact hLl (List.mem_singleton.mp h)
  · show b < (s.heap.push _).objs.size
    rw [Heap.size_push]
    rcases List.mem_cons.mp hb with rfl | hb
    · exact Nat.lt_succ_self _
    · rw [List.mem_singleton.mp hb]; exact Nat.lt_succ_of_lt hlt
  · rw [List.mem_singleton.mp hb]; exact next_is_new F
  · exact absurd (Heap.lt_size (N p hp).1) (by rw [List.mem_singleton.mp h]; exact Nat.lt_irrefl _)
  · rintro C c D i ys news₁ O h tk hi hys hJ₁ ho hO ⟨v, ⟨o, e, d⟩, hP⟩ hall hlive hc₀ hC₀ F' N'
    refine turn i v C c D _ O ys news₁ h tk (by simpa using hP) hys hJ₁ ho (fun p hp => ?_) (lives_of hlive) ⟨o, hall c (.head _) hc₀ _ e, d⟩ F' N'
    rcases List.mem_cons.mp (hO p hp) with e | hq
    · exact .inl (by rw [e]; exact .tail _ (.head _))
    · rcases List.mem_cons.mp hq with e | hq
      · exact .inl (by rw [e]; exact .tail _ (.tail _ (.head _)))
      · rcases List.mem_cons.mp hq with e | hq
        · exact .inl (by rw [e]; exact .tail _ (.tail _ (.tail _ (.head _))))
        · exact .inr (List.mem_singleton.mp hq)

/-- an enumerate over a list stands, off the ledger -/
structure EnumAt (h₀ : Heap) (L : Addr) (h : Heap) (nw : Led) (e it l : Addr) : Prop where
  enum : IsEnum h e it 0 .none
  iter : h.IsListIter it l 0
  ne : e ≠ it
  el : l ≠ e
  il : l ≠ it
  Le : L ≠ e
  Li : L ≠ it
  e₀ : h₀.get? e = none
  i₀ : h₀.get? it = none
  eo : ∀ p ∈ nw, p.1 ≠ e
  io : ∀ p ∈ nw, p.1 ≠ it

theorem enum_call {l : Addr} {vs : List Value} {Q : Value → Shared → Prop} (hl : LCg.SrcAt h₀ l vs.toArray news) (F : Fr h₀ L s.heap m) (N : News h₀ L s.heap news)
    (h : ∀ h' e it, EnumAt h₀ L h' news e it l → Fr h₀ L h' m → News h₀ L h' news → Q (.ref e) { s with heap := h' }) : wpAny (model prog w) A (call (.type "enumerate") [.ref l]) Q E s := by
  have hls := hl.list F.keep N
  have hlt : l < s.heap.objs.size := by obtain ⟨_, e, _⟩ := hls; exact Heap.lt_size e
  have hL := ltN F.ns.lt
  have new₀ : ∀ a : Nat, s.heap.objs.size ≤ a → h₀.get? a = none := fun a ha => Heap.get?_none_of_le (Nat.le_trans (Nat.le_trans F.above (Nat.le_of_lt hL)) ha)
  refine call_enumerate_list hls fun h' he hi hz hk => h h' _ _ ⟨he, hi, neN (by omega), neN (by have := ltN hlt; omega), neN (by have := ltN hlt; omega), neN (by omega), neN (by omega), new₀ _ (by omega), new₀ _ (Nat.le_refl _), fun p hp e => ?_, fun p hp e => ?_⟩ (F.keeps hk) (N.grown hk)
  · have h1 := ltN (Heap.lt_size (N p hp).1); have := eqN e; omega
  · have h1 := ltN (Heap.lt_size (N p hp).1); have := eqN e; omega

theorem comp_enum {e it l : Addr} {vs : List Value} {b : Str} {pb tp : Pos} {kk : Nat} (J : Nat → List Value → Led → Prop) (hh : A.handled = none) (hl : LCg.SrcAt h₀ l vs.toArray news) (hsz : vs.length ≤ sizeLine) (H : EnumAt h₀ L s.heap news e it l)
    (hpc : ∀ h, pushCells h scope.names = h) (hcf : ∀ k, cellsFrom k scope.names cl = cl) (hk : scope.kind = .function) (hx : scope.names.lookup x = some .local) (hb : scope.names.lookup b = some .local) (hab : x ≠ b) (F : Fr h₀ L s.heap m) (N : News h₀ L s.heap news) (hJ : J 0 [] news)
    (turn : ∀ (i : Nat) t v C oC m₂ D W O ys news₁ h tk, vs[i]? = some v → ys.length ≤ i → J i ys news₁ → (∀ p ∈ news₁, p.1 ∉ W) → (∀ p ∈ O, p.1 ∈ W ∨ p.1 = l) → Lives W (O ++ [(D, LCg.lst ys)]) → (C, oC) ∈ O → LCg.NsObj oC m₂ → m₂ x = some (.int (i : Int) t) → m₂ b = some v → Fr h₀ L h m → News h₀ L h (O ++ (D, LCg.lst ys) :: news₁) →
      CompTurn prog w A h₀ L m ifs elt (compEnvC scope cl C env) W (O ++ [(D, LCg.lst ys)]) (fun y => J (i + 1) (ys ++ [y])) (J (i + 1) ys) { s with heap := h, toks := tk })
    (U : ∀ g, UsePost (model prog w) A E use Q h₀ L m (J vs.length) { s with heap := g }) :
    wpAny (model prog w) A (pyIter (.ref e)) (fun it s₂ => CompAt (model prog w) A E env (.ListComp elt [⟨.Tuple [.Name x px, .Name b pb] kk tp, iter, ifs, 0⟩] scope pos) scope cl use Q it s₂) E s := by
  have hls := hl.list F.keep N
  have hlt : l < s.heap.objs.size := by obtain ⟨_, e, _⟩ := hls; exact Heap.lt_size e
  have helt := Heap.lt_size H.enum
  have hilt : it < s.heap.objs.size := by obtain ⟨_, e, _⟩ := H.iter; exact Heap.lt_size e
  have hLl := src_live hl F N
  refine wpAny_pyIter_enum H.enum ?_
  have hsize : vs.toArray.size = vs.length := by simp
  refine block_l (n := vs.toArray.size) (fun C hC => feed_pair (cenv := compEnvC scope cl C env) (WalksT.enumerate hh e it l H.ne H.el H.il vs.toArray) (fun i h st b hb => ?_) (fun i vals hP => ?_) hh hC (local_in hx _ _) (local_in hb _ _) (kind_in hk _ _) hab) hpc hcf (fun h => ?_) (fun b hb => ?_) (fun b hb => ?_) (by rw [hsize]; exact hsz)
    (fun h' up => ⟨⟨_, up _ _ H.enum⟩, H.iter.at fun o e => up _ o e, hls.at fun o e => up _ o e⟩) F N (fun p hp h => ?_) J hJ ?_ (fun g => by rw [hsize]; exact U g)
  · rcases List.mem_cons.mp hb with rfl | hb
    · obtain ⟨⟨old, h1⟩, _, _⟩ := st; exact ⟨_, h1⟩
    · rw [List.mem_singleton.mp hb]; obtain ⟨_, ⟨o, h1, _⟩, _⟩ := st; exact ⟨o, h1⟩
  · obtain ⟨t, x, _, rfl⟩ := hP
    exact ⟨_, _, rfl⟩
  · rcases List.mem_cons.mp h with q | h
    · exact H.Le q
    · rcases List.mem_cons.mp h with q | h
      · exact H.Li q
      · exact hLl (List.mem_singleton.mp h)
  · rcases List.mem_cons.mp hb with rfl | hb
    · exact helt
    · rcases List.mem_cons.mp hb with rfl | hb
      · exact hilt
      · rw [List.mem_singleton.mp hb]; exact hlt
  · rcases List.mem_cons.mp hb with rfl | hb
    · exact H.e₀
    · rw [List.mem_singleton.mp hb]; exact H.i₀
  · rcases List.mem_cons.mp h with q | h
    · exact H.eo p hp q
    · exact H.io p hp (List.mem_singleton.mp h)
  · rintro C D i ys news₁ O h tk hi hys hJ₁ ho hO ⟨m₂, xv, yv, hn, hxv, hyv, t, z, hz, hP⟩ hall hlive hC₀ F' N'
    obtain ⟨oC, eC, hm⟩ := LCg.ns_obj hn
    have e1 : xv = .int (i : Int) t ∧ yv = z := by simpa using hP
    refine turn i t z C oC m₂ D _ O ys news₁ h tk (by simpa using hz) hys hJ₁ ho (fun p hp => ?_) (lives_of hlive) (hall C (.head _) hC₀ _ eC) hm (e1.1 ▸ hxv) (e1.2 ▸ hyv) F' N'
    rcases List.mem_cons.mp (hO p hp) with e | hq
    · exact .inl (by rw [e]; exact .tail _ (.head _))
    · rcases List.mem_cons.mp hq with e | hq
      · exact .inl (by rw [e]; exact .tail _ (.tail _ (.head _)))
      · rcases List.mem_cons.mp hq with e | hq
        · exact .inl (by rw [e]; exact .tail _ (.tail _ (.tail _ (.head _))))
        · exact .inr (List.mem_singleton.mp hq)
end

section
variable {prog : Program} {w : World} {A : Around} {E : Value → Shared → Prop} {s : Shared} {h₀ : Heap} {L : Addr} {m : Str → Option Value} {news nw : Led}

theorem fresh_of {nw : Led} {D : Addr} (h : ∀ p ∈ nw, p.1 < D) : Fresh nw D := fun p hp e => absurd (h p hp) (by rw [e]; exact Nat.lt_irrefl _)
theorem Fresh.sub {a b : Led} {D : Addr} (h : Fresh b D) (s : Sub a b) : Fresh a D := fun p hp => h p (s p hp)
theorem front {D : Addr} {o : Obj} (hm : (D, o) ∈ nw) (N : News h₀ L s.heap nw) : News h₀ L s.heap ((D, o) :: off D nw) := fun p hp => (List.mem_cons.mp hp).elim (fun e => e ▸ N _ hm) fun h => N p (mem_off.mp h).1
theorem front_but {D : Addr} {o : Obj} : SubBut [D] nw ((D, o) :: off D nw) := fun _ hp hn => List.mem_cons_of_mem _ (mem_off.mpr ⟨hp, fun e => hn (by simp [e])⟩)
theorem front_or {D : Addr} {o : Obj} : ∀ p ∈ (D, o) :: off D nw, p.1 = D ∨ p ∈ nw := fun p hp => (List.mem_cons.mp hp).elim (fun e => .inl (by rw [e])) fun h => .inr (mem_off.mp h).1
theorem front_upd {D : Addr} {o o' : Obj} : Upd D o o' ((D, o) :: off D nw) ((D, o') :: off D nw) := .head fun _ hp => (mem_off.mp hp).2

theorem copy_L {a : Addr} {vs : List Value} {Q : Value → Shared → Prop} (x : IsL news a vs) (F : Fr h₀ L s.heap m) (N : News h₀ L s.heap nw) (S : Sub news nw) (hz : vs.length ≤ sizeLine)
    (h : ∀ D h' nw', Fr h₀ L h' m → News h₀ L h' nw' → Sub nw nw' → IsP nw' D vs → Fresh nw D → Q (.ref D) { s with heap := h' }) : wpAny (model prog w) A (call (.type "list") [.ref a]) Q E s :=
  list_copyK F N ((x.sub S).list N) (fun D c h' F' N' hl => h D h' _ F' N' Sub.cons ⟨c, .head _⟩ (fresh_of hl)) (by simpa using hz)

theorem slice_L {hp : Heap} {gens : Array GenState} {drawn : Drawn} {toks : Nat} {os : OsState} {value slice : Expr} {l : Addr} {vs : List Value} {vl vu : Value} {lo hi : Option Int} {Q : Value → Shared → Prop} (x : IsL news l vs) (F : Fr h₀ L hp m) (N : News h₀ L hp nw) (S : Sub news nw) (hz : vs.length ≤ sizeLine) (pl : IsPart vl lo) (pu : IsPart vu hi)
    (h : ∀ D h' nw', Fr h₀ L h' m → News h₀ L h' nw' → Sub nw nw' → IsP nw' D (slicePick vs.toArray lo hi none).toList → Fresh nw D → Q (.ref D) ⟨h', gens, drawn, toks, os⟩)
    (hs : subscripted slice false (.ref l) (.ref hp.objs.size) = operate [.ref hp.objs.size, .ref l] (getItem (.ref l) (.ref hp.objs.size))) (hg : ∀ r, letTemporaryGo value (.ref l) r = pure ()) :
    wpAny (model prog w) A (subscriptTail value slice (.ref l) (.ref hp.objs.size)) Q E ⟨hp.push { cls := .type "slice", data := .fields #[vl, vu, .none] }, gens, drawn, toks, os⟩ := by
  refine slice_list (s := ⟨hp, gens, drawn, toks, os⟩) F N ((x.sub S).list (h := hp) N) pl pu (fun h' F' N' => ?_) hs hg (by simpa using hz)
  refine h _ h' _ F' N' Sub.cons ⟨0, ?_⟩ (fun p hp' e => ?_)
  · rw [Array.toArray_toList]; exact .head _
  · exact absurd (Heap.lt_size (N p hp').1) (Nat.not_lt.mpr (by rw [e]; exact Nat.le_succ _))

theorem sum_I {a : Addr} {ns : List Int} {Q : Value → Shared → Prop} (x : Ints news a ns) (hh : A.handled = none) (F : Fr h₀ L s.heap m) (N : News h₀ L s.heap nw) (S : Sub news nw)
    (h : ∀ h' tk t, Fr h₀ L h' m → News h₀ L h' nw → Q (.int ns.sum t) { s with heap := h', toks := tk }) : wpAny (model prog w) A (call (.builtin "sum") [.ref a]) Q E s := by
  obtain ⟨vs, y, hi⟩ := x
  exact LSm.sum_ints F N hh ((y.sub S).list N) hi h

theorem cat_I {a b : Addr} {ns ms : List Int} {Q : Value → Shared → Prop} (x : Ints news a ns) (y : Ints news b ms) (F : Fr h₀ L s.heap m) (N : News h₀ L s.heap nw) (S : Sub news nw) (hz : ns.length + ms.length ≤ sizeLine)
    (h : ∀ D h' nw', Fr h₀ L h' m → News h₀ L h' nw' → Sub nw nw' → Ints nw' D (ns ++ ms) → Fresh nw D → Q (.ref D) { s with heap := h' }) : wpAny (model prog w) A (binaryOp .Add (.ref a) (.ref b)) Q E s := by
  obtain ⟨vs, x, hi⟩ := x
  obtain ⟨ws, y, hj⟩ := y
  exact kmk_add_ints F N ((x.sub S).list N) ((y.sub S).list N) hi hj (fun D us h' F' N' hl hk => h D h' _ F' N' Sub.cons ⟨us, IsP.l ⟨0, .head _⟩, hk⟩ (fresh_of hl)) hz

theorem method_P {a : Addr} {vs : List Value} {name : Str} {id : String} {pl : Sem Bool} {Q : Value × List Value → Shared → Prop} (slot : Slot "list" name id) (hty : typeOf (.builtin id) = pure (.type "method_descriptor")) (x : IsP news a vs) (N : News h₀ L s.heap nw) (S : Sub news nw) (h : Q (.builtin id, [.ref a]) s) :
    wpAny (model prog w) A (getMethod (.ref a) name pl) Q E s := by
  obtain ⟨n, hm⟩ := x
  exact getMethod_list_of slot hty (⟨_, (N _ (S _ hm)).1, rfl, n, rfl⟩ : s.heap.IsList a vs.toArray) ⟨_, (N _ (S _ hm)).1, rfl⟩ h

theorem append_P {a : Addr} {vs : List Value} {v : Value} {Q : Value → Shared → Prop} (x : IsP news a vs) (F : Fr h₀ L s.heap m) (N : News h₀ L s.heap nw) (S : Sub news nw) (hz : vs.length ≤ sizeLine)
    (h : ∀ h' nw', Fr h₀ L h' m → News h₀ L h' nw' → IsP nw' a (vs ++ [v]) → SubBut [a] nw nw' → (∀ p ∈ nw', p.1 = a ∨ p ∈ nw) → Q .none { s with heap := h' }) : wpAny (model prog w) A (call (.builtin "list.append") [.ref a, v]) Q E s := by
  obtain ⟨n, hm⟩ := x
  refine append_K F (front (S _ hm) N) front_upd (fun h' F' N' => h h' _ F' N' ⟨n + 1, ?_⟩ front_but front_or) (by simpa using hz)
  rw [List.push_toArray]; exact .head _

theorem pop0_P {a : Addr} {vs : List Value} {v : Value} {u : Tok} {Q : Value → Shared → Prop} (x : IsP news a (v :: vs)) (F : Fr h₀ L s.heap m) (N : News h₀ L s.heap nw) (S : Sub news nw) (hz : vs.length < sizeLine)
    (h : ∀ h' nw', Fr h₀ L h' m → News h₀ L h' nw' → IsP nw' a vs → SubBut [a] nw nw' → (∀ p ∈ nw', p.1 = a ∨ p ∈ nw) → Q v { s with heap := h' }) : wpAny (model prog w) A (call (.builtin "list.pop") [.ref a, .int 0 u]) Q E s := by
  obtain ⟨n, hm⟩ := x
  refine kl_popAt (k := 0) (p := []) (y := v) (q := vs) F (front (S _ hm) N) (by decide) ?_ rfl front_upd (by simp; omega) fun h' F' N' => h h' _ F' N' ⟨n + 1, .head _⟩ front_but front_or
  simp [seqIndex?]

/-- the data that a grid is -/
def gridData (rows : List (List Int)) : PyData := .list (rows.map fun r => .list (r.map .int))
theorem Ints.reads {h : Heap} {a : Addr} {ns : List Int} (x : Ints news a ns) (N : News h₀ L h news) : Reads h (.ref a) (.list (ns.map .int)) [a] := by
  obtain ⟨vs, y, hi⟩ := x
  exact reads_of_ints (y.list N) hi
theorem Grid.reads {h : Heap} {g : Addr} {as : List Addr} {rows : List (List Int)} (x : Grid news g as rows) (N : News h₀ L h news) : ∃ bs, Reads h (.ref g) (gridData rows) bs := by
  have all : ∀ (as : List Addr) (rows : List (List Int)), as.length = rows.length → (∀ (i : Nat) (a : Addr) (r : List Int), as[i]? = some a → rows[i]? = some r → Ints news a r) → ∃ bs, ReadsAll h (as.map Value.ref) (rows.map fun r => PyData.list (r.map .int)) bs := by
    intro as
    induction as with
    | nil => intro rows hl _; cases rows with
      | nil => exact ⟨_, .nil⟩
      | cons _ _ => simp at hl
    | cons a as ih => intro rows hl hr; cases rows with
      | nil => simp at hl
      | cons r rows =>
        obtain ⟨bs, hb⟩ := ih rows (by simpa using hl) fun i b q h1 h2 => hr (i + 1) b q (by simpa using h1) (by simpa using h2)
        exact ⟨_, .cons ((hr 0 a r rfl rfl).reads N) hb⟩
  obtain ⟨bs, hb⟩ := all as rows x.len x.row
  obtain ⟨o, n, hm, hc, hd⟩ := x.head
  exact ⟨_, reads_list_at (N _ hm).1 hc hd (by simpa using hb)⟩
theorem grid_canLay : ∀ rows : List (List Int), PyData.canLayAll0 (rows.map fun r => PyData.list (r.map .int)) = true
  | [] => by simp [PyData.canLayAll0]
  | r :: rows => by simp [PyData.canLayAll0, PyData.canLay0, ke_canLayAll0, grid_canLay rows]
theorem grid_depth : ∀ rows : List (List Int), PyData.depthAll (rows.map fun r => PyData.list (r.map .int)) ≤ 1
  | [] => by simp [PyData.depthAll]
  | r :: rows => by simp [PyData.depthAll, PyData.depth, ke_depthAll, grid_depth rows]
theorem grid_shaped (rows : List (List Int)) : SeqAt.shaped (gridData rows) = true := by
  unfold SeqAt.shaped gridData
  have h1 := grid_canLay rows
  have h2 := grid_depth rows
  simp only [PyData.canLay0, PyData.depth, h1, Bool.true_and]
  exact decide_eq_true (by omega)
theorem grid_eqvAll : ∀ a b : List (List Int), PyData.eqvAll (a.map fun r => PyData.list (r.map .int)) (b.map fun r => PyData.list (r.map .int)) = decide (a = b)
  | [], [] => by simp [PyData.eqvAll]
  | [], _ :: _ => by simp [PyData.eqvAll]
  | _ :: _, [] => by simp [PyData.eqvAll]
  | x :: a, y :: b => by
    simp only [List.map_cons, PyData.eqvAll, PyData.eqv, ked_eqvAll, grid_eqvAll a b]
    by_cases h : x = y <;> by_cases h' : a = b <;> simp [h, h']
theorem grid_eqv (a b : List (List Int)) : (gridData a).eqv (gridData b) = decide (a = b) := by
  unfold gridData
  simp only [PyData.eqv]
  exact grid_eqvAll a b

theorem eq_G {g g' : Addr} {as as' : List Addr} {a b : List (List Int)} {Q : Value → Shared → Prop} (x : Grid news g as a) (y : Grid news g' as' b) (N : News h₀ L s.heap nw) (S : Sub news nw) (hu : A.units + 64 < cLine) (h : Q (.bool (decide (a = b))) s) :
    wpAny (model prog w) A (compareOp .Eq (.ref g) (.ref g')) Q E s := by
  obtain ⟨bs, r1⟩ := (x.sub S).reads N
  obtain ⟨cs, r2⟩ := (y.sub S).reads N
  refine eq_dataH r1 r2 (grid_shaped a) (grid_shaped b) hu ?_
  rw [grid_eqv]; exact h
theorem ne_G {g g' : Addr} {as as' : List Addr} {a b : List (List Int)} {Q : Value → Shared → Prop} (x : Grid news g as a) (y : Grid news g' as' b) (N : News h₀ L s.heap nw) (S : Sub news nw) (hu : A.units + 64 < cLine) (h : Q (.bool (!decide (a = b))) s) :
    wpAny (model prog w) A (compareOp .NotEq (.ref g) (.ref g')) Q E s := by
  obtain ⟨bs, r1⟩ := (x.sub S).reads N
  obtain ⟨cs, r2⟩ := (y.sub S).reads N
  refine ne_dataH r1 r2 (grid_shaped a) (grid_shaped b) hu ?_
  rw [grid_eqv]; exact h
theorem ne_I {g g' : Addr} {a b : List Int} {Q : Value → Shared → Prop} (x : Ints news g a) (y : Ints news g' b) (N : News h₀ L s.heap nw) (S : Sub news nw) (hu : A.units + 64 < cLine) (h : Q (.bool (!decide (a = b))) s) :
    wpAny (model prog w) A (compareOp .NotEq (.ref g) (.ref g')) Q E s := by
  obtain ⟨vs, x, hi⟩ := x
  obtain ⟨ws, y, hj⟩ := y
  exact ke_ne_ints ((x.sub S).list N) ((y.sub S).list N) hi hj hu h

/-- an empty list is an empty grid -/
theorem IsL.nilG {a : Addr} (x : IsL news a []) : Grid news a [] [] := ⟨x, rfl, fun i b r h1 => by simp at h1⟩
end

/-- a grid made anew, all its objects off the elder ledger -/
structure NewGrid (old nw : Led) (D : Addr) (rows : List (List Int)) (as : List Addr) : Prop where
  grid : Grid nw D as rows
  nodup : as.Nodup
  off : D ∉ as
  fresh : Fresh old D
  freshes : ∀ a ∈ as, Fresh old a

/-- rows made by a comprehension, so far -/
def Rows (old : Led) (f : Nat → List Int) (i : Nat) (ys : List Value) (news₁ : Led) : Prop :=
  Sub old news₁ ∧ ∃ as : List Addr, ys = as.map Value.ref ∧ as.length = i ∧ as.Nodup ∧ (∀ a ∈ as, Fresh old a) ∧ ∀ (k : Nat) (a : Addr), as[k]? = some a → Ints news₁ a (f k)
theorem Rows.zero {old : Led} {f : Nat → List Int} : Rows old f 0 [] old := ⟨Sub.refl, [], rfl, rfl, List.nodup_nil, fun _ h => (nomatch h), fun k a h => by simp at h⟩
theorem Rows.step {old : Led} {f : Nat → List Int} {i : Nat} {ys : List Value} {news₁ news₂ nw : Led} {a : Addr} (x : Rows old f i ys news₁) (s : Sub news₁ news₂) (s' : Sub news₁ nw) (fa : Fresh nw a) (ia : Ints news₂ a (f i)) :
    Rows old f (i + 1) (ys ++ [.ref a]) news₂ := by
  obtain ⟨so, as, rfl, hl, nd, fr, hr⟩ := x
  have fa' : Fresh news₁ a := fa.sub s'
  refine ⟨so.trans s, as ++ [a], by simp, by simp [hl], ?_, ?_, ?_⟩
  · refine List.nodup_append.mpr ⟨nd, List.pairwise_singleton _ _, fun b hb c hc e => ?_⟩
    rw [List.mem_singleton.mp hc] at e
    obtain ⟨k, hk, ek⟩ := List.mem_iff_getElem.mp hb
    exact (hr k b (by simp [hk, ek])).fresh fa' e
  · intro b hb
    rcases List.mem_append.mp hb with hb | hb
    · exact fr b hb
    · rw [List.mem_singleton.mp hb]; exact fa'.sub so
  · intro k b hk
    by_cases h : k < as.length
    · rw [List.getElem?_append_left h] at hk
      exact (hr k b hk).sub s
    · rw [List.getElem?_append_right (Nat.not_lt.mp h)] at hk
      obtain ⟨h1, h2⟩ := List.getElem?_eq_some_iff.mp hk
      have : k = i := by simp at h1; omega
      subst this
      have e : b = a := by simpa using h2.symm
      rw [e]; exact ia
theorem Rows.done {old : Led} {f : Nat → List Int} {n : Nat} {ys : List Value} {news₁ : Led} {D : Addr} (x : Rows old f n ys news₁) (fD : Fresh news₁ D) :
    ∃ as, NewGrid old ((D, LCg.lst ys) :: news₁) D ((List.range n).map f) as := by
  obtain ⟨so, as, rfl, hl, nd, fr, hr⟩ := x
  refine ⟨as, ⟨IsP.l ⟨_, .head _⟩, by simp [hl], fun i a r h1 h2 => ?_⟩, nd, fun h => ?_, fD.sub so, fr⟩
  · have : (f i) = r := by
      obtain ⟨h3, h4⟩ := List.getElem?_eq_some_iff.mp h2
      simpa using h4
    rw [← this]
    exact (hr i a h1).sub Sub.cons
  · obtain ⟨k, hk, ek⟩ := List.mem_iff_getElem.mp h
    exact (hr k D (by simp [hk, ek])).fresh fD rfl
/-- ints made by a comprehension, so far -/
def Nums (old : Led) (f : Nat → Int) (i : Nat) (ys : List Value) (news₁ : Led) : Prop := Sub old news₁ ∧ IntsAre ys ((List.range i).map f)
theorem Nums.zero {old : Led} {f : Nat → Int} : Nums old f 0 [] old := ⟨Sub.refl, .nil⟩
theorem Nums.step {old : Led} {f : Nat → Int} {i : Nat} {ys : List Value} {news₁ news₂ : Led} {t : Tok} {z : Int} (x : Nums old f i ys news₁) (s : Sub news₁ news₂) (e : z = f i) : Nums old f (i + 1) (ys ++ [.int z t]) news₂ := by
  subst e
  refine ⟨x.1.trans s, ?_⟩
  rw [List.range_succ, List.map_append]
  exact IntsAre.append x.2 (.cons _ _ .nil)
theorem Nums.done {old : Led} {f : Nat → Int} {n : Nat} {ys : List Value} {news₁ : Led} {D : Addr} (x : Nums old f n ys news₁) : Ints ((D, LCg.lst ys) :: news₁) D ((List.range n).map f) := ⟨ys, IsP.l ⟨_, .head _⟩, x.2⟩

/-- no address stands twice -/
def Inj (as : List Addr) : Prop := ∀ (i j : Nat) (a : Addr), as[i]? = some a → as[j]? = some a → i = j
theorem inj_of {as : List Addr} (h : as.Nodup) : Inj as := fun i j a h1 h2 => by
  obtain ⟨l1, e1⟩ := List.getElem?_eq_some_iff.mp h1
  obtain ⟨l2, e2⟩ := List.getElem?_eq_some_iff.mp h2
  exact (List.getElem_inj h).mp (e1.trans e2.symm)
theorem Inj.nodup {as : List Addr} (h : Inj as) : as.Nodup := List.pairwise_iff_getElem.mpr fun i j hi hj hij e => by
  have := h i j as[i] (by simp [hi]) (by rw [e]; simp [hj])
  omega
theorem swap_get {α : Type} {as : List α} {i j : Nat} {ai aj : α} (hi : as[i]? = some ai) (hj : as[j]? = some aj) (k : Nat) : ((as.set j ai).set i aj)[k]? = as[if k = i then j else if k = j then i else k]? := by
  have l1 := (List.getElem?_eq_some_iff.mp hi).1
  have l2 := (List.getElem?_eq_some_iff.mp hj).1
  by_cases e : k = i
  · subst e; rw [if_pos rfl, List.getElem?_set_self (by simpa using l1), hj]
  · rw [if_neg e, List.getElem?_set_ne (Ne.symm e)]
    by_cases e2 : k = j
    · subst e2; rw [if_pos rfl, List.getElem?_set_self l2, hi]
    · rw [if_neg e2, List.getElem?_set_ne (Ne.symm e2)]
theorem Inj.swap {as : List Addr} {i j : Nat} {ai aj : Addr} (h : Inj as) (hi : as[i]? = some ai) (hj : as[j]? = some aj) : Inj ((as.set j ai).set i aj) := fun k l a h1 h2 => by
  rw [swap_get hi hj] at h1 h2
  have := h _ _ a h1 h2
  repeat' split at this
  all_goals omega
theorem mem_swap {as : List Addr} {i j : Nat} {ai aj : Addr} (hi : as[i]? = some ai) (hj : as[j]? = some aj) {a : Addr} (h : a ∈ (as.set j ai).set i aj) : a ∈ as := by
  obtain ⟨k, hk, e⟩ := List.mem_iff_getElem.mp h
  have : ((as.set j ai).set i aj)[k]? = some a := by rw [List.getElem?_eq_getElem hk, e]
  rw [swap_get hi hj] at this
  exact List.mem_of_getElem? this
theorem Grid.swap {nw nw' : Led} {g : Addr} {as : List Addr} {rows : List (List Int)} {i j : Nat} {ai aj : Addr} (x : Grid nw g as rows) (S : SubBut [g] nw nw') (hg : g ∉ as) (hi : as[i]? = some ai) (hj : as[j]? = some aj)
    (y : IsL nw' g (((as.map Value.ref).set j (.ref ai)).set i (.ref aj))) : Grid nw' g ((as.set j ai).set i aj) ((rows.set j (rows.getD i [])).set i (rows.getD j [])) := by
  have l1 : i < rows.length := by rw [← x.len]; exact (List.getElem?_eq_some_iff.mp hi).1
  have l2 : j < rows.length := by rw [← x.len]; exact (List.getElem?_eq_some_iff.mp hj).1
  refine ⟨by rw [List.map_set, List.map_set]; exact y, by simp [x.len], fun k a r h1 h2 => ?_⟩
  rw [swap_get hi hj] at h1
  rw [swap_get (show rows[i]? = some (rows.getD i []) by simp [l1]) (show rows[j]? = some (rows.getD j []) by simp [l2])] at h2
  exact (x.row _ a r h1 h2).but S fun h => hg (by rw [← List.mem_singleton.mp h]; exact List.mem_of_getElem? h1)

theorem if_mid {M : Model} {A : Around} {E : Value → Shared → Prop} {s : Shared} {c : Prop} [Decidable c] {b₁ b₂ : List Stmt} {env : Env} {Q : Flow → Shared → Prop} (Mid : Flow → Shared → Prop)
    (h1 : c → wpAny M A (execs b₁ env) Mid E s) (h2 : ¬ c → wpAny M A (execs b₂ env) Mid E s) (h : ∀ f s', Mid f s' → Q f s') : if c then wpAny M A (execs b₁ env) Q E s else wpAny M A (execs b₂ env) Q E s := by
  by_cases hc : c
  · rw [if_pos hc]; exact wpAny_mono (h1 hc) h fun _ _ e => e
  · rw [if_neg hc]; exact wpAny_mono (h2 hc) h fun _ _ e => e

section
variable {prog : Program} {w : World} {A : Around} {E : Value → Shared → Prop} {s : Shared} {h₀ : Heap} {L : Addr} {m : Str → Option Value} {news nw : Led} {env : Env} {x : Str} {v : Value}

/-- the store into a captured name -/
theorem st_c {M : Model} {c : Addr} {o : Obj} {v₀ : Option Value} {Q : Unit → Shared → Prop} (F : Fr h₀ L s.heap m) (N : News h₀ L s.heap nw) (hm : (c, o) ∈ nw) (hd : o.data = .cell v₀) (hk : env.scope.kind = .function) (hx : env.kindOf x = some .cell) (hc : env.cells.lookup x = some c)
    (h : ∀ h' nw', Fr h₀ L h' m → News h₀ L h' nw' → CellIn nw' c v → SubBut [c] nw nw' → (∀ p ∈ nw', p.1 = c ∨ p ∈ nw) → Q () { s with heap := h' }) : wpAny M A (storeName env x v) Q E s := by
  have hmem := N _ hm
  refine wpAny_storeName_cell hk hx hc ⟨o, hmem.1, hd⟩ fun h' hv hs => ?_
  obtain ⟨o', e', hd'⟩ := hv
  refine h h' ((c, o') :: off c nw) ⟨F.ns.sameBut hs (Ne.symm hmem.2.1), fun b ob q => (hs.2 b fun z => by rw [z, hmem.2.2] at q; cases q).trans (F.keep b ob q), F.above⟩ ?_ ⟨o', .head _, hd'⟩ ?_ ?_
  · intro p hp
    rcases List.mem_cons.mp hp with rfl | hp
    · exact ⟨e', hmem.2⟩
    · obtain ⟨hp, hne⟩ := mem_off.mp hp
      exact ⟨(hs.2 _ hne).trans (N p hp).1, (N p hp).2⟩
  · intro p hp hn
    exact List.mem_cons_of_mem _ (mem_off.mpr ⟨hp, fun q => hn (by simp [q])⟩)
  · intro p hp
    rcases List.mem_cons.mp hp with rfl | hp
    · exact .inl rfl
    · exact .inr (mem_off.mp hp).1
end

theorem IsP.sub {n n' : Led} {a : Addr} {vs} (x : IsP n a vs) (s : Sub n n') : IsP n' a vs := let ⟨k, h⟩ := x; ⟨k, s _ h⟩
theorem IsP.but {n n' : Led} {a : Addr} {vs} {W : List Addr} (x : IsP n a vs) (s : SubBut W n n') (ha : a ∉ W) : IsP n' a vs := let ⟨k, h⟩ := x; ⟨k, s _ h ha⟩
theorem IsL.nin {nw : Led} {W : List Addr} {a : Addr} {vs} (x : IsL nw a vs) (h : ∀ p ∈ nw, p.1 ∉ W) : a ∉ W := let ⟨_, _, hm, _⟩ := x; h _ hm
theorem CellIn.but {n n' : Led} {c v} {W : List Addr} (x : CellIn n c v) (s : SubBut W n n') (h : c ∉ W) : CellIn n' c v := let ⟨o, hm, r⟩ := x; ⟨o, s _ hm h, r⟩
theorem CellIn.fresh {n : Led} {c v d} (x : CellIn n c v) (f : Fresh n d) : c ≠ d := let ⟨_, hm, _⟩ := x; f _ hm

/-- the law's box: the ints that are left, and the seed -/
def Box (nw : Led) (b q : Addr) : Prop := b ≠ q ∧ ∃ vs ns st t, IsL nw b [.ref q, .int st t] ∧ IsP nw q vs ∧ IntsAre vs ns ∧ vs.length ≤ 64 ∧ 0 ≤ st ∧ st < 2147483647
theorem Box.sub {n n' : Led} {b q : Addr} (x : Box n b q) (s : Sub n n') : Box n' b q := let ⟨h, vs, ns, st, t, h1, h2, r⟩ := x; ⟨h, vs, ns, st, t, h1.sub s, h2.sub s, r⟩
theorem Box.but {n n' : Led} {b q : Addr} {W : List Addr} (x : Box n b q) (s : SubBut W n n') (hb : b ∉ W) (hq : q ∉ W) : Box n' b q := let ⟨h, vs, ns, st, t, h1, h2, r⟩ := x; ⟨h, vs, ns, st, t, h1.but s hb, h2.but s hq, r⟩
theorem Box.fresh {nw : Led} {b q d : Addr} (x : Box nw b q) (f : Fresh nw d) : b ≠ d ∧ q ≠ d := let ⟨_, _, _, _, _, h1, h2, _⟩ := x; ⟨h1.fresh f, h2.l.fresh f⟩
theorem Box.nin {nw : Led} {b q : Addr} {W : List Addr} (x : Box nw b q) (h : ∀ p ∈ nw, p.1 ∉ W) : b ∉ W ∧ q ∉ W := let ⟨_, _, _, _, _, h1, h2, _⟩ := x; ⟨h1.nin h, h2.l.nin h⟩
theorem Box.offs {nw : Led} {b q : Addr} {W : List Addr} (x : Box nw b q) (h : b ∉ W ∧ q ∉ W) : Box (Mine.offs W nw) b q := let ⟨e, vs, ns, st, t, h1, h2, r⟩ := x; ⟨e, vs, ns, st, t, h1.offs h.1, h2.offs h.2, r⟩
theorem SubBut.offs {V W : List Addr} {a b : Led} (x : SubBut V a b) (h : ∀ p ∈ a, p.1 ∉ W) : SubBut V a (Mine.offs W b) := fun p hp hn => mem_offs.mpr ⟨x p hp hn, h p hp⟩
theorem Grid.offs {nw : Led} {W : List Addr} {g : Addr} {as rows} (x : Grid nw g as rows) (hg : g ∉ W) (ha : ∀ a ∈ as, a ∉ W) : Grid (Mine.offs W nw) g as rows :=
  ⟨x.head.offs hg, x.len, fun i a r h1 h2 => (x.row i a r h1 h2).offs (ha a (List.mem_of_getElem? h1))⟩
theorem two_nin {a b c : Addr} : c ∉ [a, b] ↔ c ≠ a ∧ c ≠ b := by simp
/-- the turn's own objects are none of the box -/
theorem own_box {W : List Addr} {O own : Led} {b q : Addr} (h : ∀ p ∈ own, p.1 ∈ W) (n : b ∉ W ∧ q ∉ W) : ∀ p ∈ own, p.1 ∉ [b, q] := fun p hp => two_nin.mpr ⟨fun e => n.1 (e ▸ h p hp), fun e => n.2 (e ▸ h p hp)⟩

/-- ints made by a comprehension while the objects at V change -/
def NumsB (V : List Addr) (old : Led) (P : Int → Prop) (i : Nat) (ys : List Value) (news₁ : Led) : Prop := SubBut V old news₁ ∧ ∃ ns, IntsAre ys ns ∧ ns.length = i ∧ ∀ z ∈ ns, P z
theorem NumsB.zero {V : List Addr} {old : Led} {P : Int → Prop} : NumsB V old P 0 [] old := ⟨Sub.refl.but, [], .nil, rfl, fun _ h => (nomatch h)⟩
theorem NumsB.step {V : List Addr} {old : Led} {P : Int → Prop} {i : Nat} {ys : List Value} {news₁ news₂ : Led} {t : Tok} {z : Int} (x : NumsB V old P i ys news₁) (s : SubBut V news₁ news₂) (e : P z) : NumsB V old P (i + 1) (ys ++ [.int z t]) news₂ := by
  obtain ⟨s₁, ns, h1, h2, h3⟩ := x
  refine ⟨s₁.trans s, ns ++ [z], IntsAre.append h1 (.cons _ _ .nil), by simp [h2], fun y hy => ?_⟩
  rcases List.mem_append.mp hy with h | h
  · exact h3 y h
  · rw [List.mem_singleton.mp h]; exact e

/-- rows made by a comprehension while the objects at V change -/
def RowsB (V : List Addr) (old : Led) (P : List Int → Prop) (i : Nat) (ys : List Value) (news₁ : Led) : Prop :=
  SubBut V old news₁ ∧ ∃ (as : List Addr) (rows : List (List Int)), ys = as.map Value.ref ∧ as.length = i ∧ rows.length = i ∧ (∀ a ∈ as, Fresh old a) ∧ (∀ (k : Nat) (a : Addr) (r : List Int), as[k]? = some a → rows[k]? = some r → Ints news₁ a r) ∧ ∀ r ∈ rows, P r
theorem RowsB.zero {V : List Addr} {old : Led} {P : List Int → Prop} : RowsB V old P 0 [] old := ⟨Sub.refl.but, [], [], rfl, rfl, rfl, fun _ h => (nomatch h), fun k a r h => by simp at h, fun _ h => (nomatch h)⟩
theorem RowsB.step {V : List Addr} {old : Led} {P : List Int → Prop} {i : Nat} {ys : List Value} {news₁ news₂ : Led} {a : Addr} {r : List Int} (x : RowsB V old P i ys news₁) (s : SubBut V news₁ news₂) (fa : Fresh old a) (hV : ∀ c ∈ V, ∃ o, (c, o) ∈ old) (ia : Ints news₂ a r) (hP : P r) :
    RowsB V old P (i + 1) (ys ++ [.ref a]) news₂ := by
  obtain ⟨so, as, rows, rfl, hl, hr, fr, hi, hp⟩ := x
  refine ⟨so.trans s, as ++ [a], rows ++ [r], by simp, by simp [hl], by simp [hr], ?_, ?_, ?_⟩
  · intro b hb
    rcases List.mem_append.mp hb with h | h
    · exact fr b h
    · rw [List.mem_singleton.mp h]; exact fa
  · intro k b r' hk hk'
    rw [List.getElem?_append] at hk hk'
    by_cases hlt : k < i
    · rw [if_pos (by omega)] at hk hk'
      have hb := List.mem_of_getElem? hk
      exact (hi k b r' hk hk').but s fun hv => let ⟨o, ho⟩ := hV b hv; fr b hb _ ho rfl
    · rw [if_neg (by omega)] at hk hk'
      have : k = i := by
        have := (List.getElem?_eq_some_iff.mp hk).1
        simp at this; omega
      subst this
      rw [hl] at hk; rw [hr] at hk'
      simp at hk hk'
      subst hk; subst hk'
      exact ia
  · intro r' hr'
    rcases List.mem_append.mp hr' with h | h
    · exact hp r' h
    · rw [List.mem_singleton.mp h]; exact hP
theorem RowsB.done {V : List Addr} {old : Led} {P : List Int → Prop} {n : Nat} {ys : List Value} {news₁ : Led} {D : Addr} (x : RowsB V old P n ys news₁) :
    ∃ (as : List Addr) (rows : List (List Int)), Grid ((D, LCg.lst ys) :: news₁) D as rows ∧ rows.length = n ∧ (∀ a ∈ as, Fresh old a) ∧ ∀ r ∈ rows, P r := by
  obtain ⟨so, as, rows, rfl, hl, hr, fr, hi, hp⟩ := x
  exact ⟨as, rows, ⟨IsP.l ⟨_, .head _⟩, by rw [hl, hr], fun i a r h1 h2 => (hi i a r h1 h2).sub Sub.cons⟩, hr, fr, hp⟩

theorem own_bx {W : List Addr} {own : Led} {b q : Addr} (h : ∀ p ∈ own, p.1 ∈ W) (n : b ∉ W ∧ q ∉ W) : ∀ p ∈ own, p.1 ∉ [b, q] := fun p hp => two_nin.mpr ⟨fun e => n.1 (e ▸ h p hp), fun e => n.2 (e ▸ h p hp)⟩
theorem fresh_but {V : List Addr} {old nw : Led} {D : Addr} (s : SubBut V old nw) (f : Fresh nw D) (h : D ∉ V) : Fresh old D := fun p hp e => if h' : p.1 ∈ V then h (e ▸ h') else f p (s p hp h') e
theorem Box.mem {nw : Led} {b q : Addr} (x : Box nw b q) : ∀ c ∈ [b, q], ∃ o, (c, o) ∈ nw := fun c hc => by
  obtain ⟨_, _, _, _, _, ⟨o, _, m1, _⟩, ⟨_, m2⟩, _⟩ := x
  rcases List.mem_cons.mp hc with rfl | hc
  · exact ⟨_, m1⟩
  · rw [List.mem_singleton.mp hc]; exact ⟨_, m2⟩
theorem Box.dnin {nw : Led} {b q d : Addr} (x : Box nw b q) (f : Fresh nw d) : d ∉ [b, q] := two_nin.mpr ⟨Ne.symm (x.fresh f).1, Ne.symm (x.fresh f).2⟩
section
variable {w : World} {A : Around} {E : Value → Shared → Prop} {s : Shared} {h₀ : Heap} {L : Addr} {m : Str → Option Value} {env : Env}
theorem UsePost.asgS {M : Model} {y : Str} {py : Pos} {Q : Shared → Prop} {J : List Value → Led → Prop} (hL : env.locals = L) (hx : env.kindOf y = some .local) (hp : (env.scope.kind == .class || (env.scope.kind == .module && env.locals != env.globals)) = false)
    (done : ∀ D h tk ys news', J ys news' → Fr h₀ L h (fun z => if z = y then some (.ref D) else m z) → News h₀ L h ((D, LCg.lst ys) :: news') → Fresh news' D → Q { s with heap := h, toks := tk }) :
    UsePost M A E (some (assign (.Name y py) env)) (fun _ s' => Q s') h₀ L m J s := UsePost.asg (Q := fun _ s' => Q s') hL hx hp done
end
theorem RowsB.done' {V : List Addr} {old : Led} {P : List Int → Prop} {n : Nat} {ys : List Value} {news₁ : Led} {D : Addr} (x : RowsB V old P n ys news₁) (f : Fresh news₁ D) :
    ∃ (as : List Addr) (rows : List (List Int)), Grid ((D, LCg.lst ys) :: news₁) D as rows ∧ rows.length = n ∧ (∀ a ∈ as, Fresh old a) ∧ (∀ r ∈ rows, P r) ∧ D ∉ as := by
  obtain ⟨so, as, rows, rfl, hl, hr, fr, hi, hp⟩ := x
  refine ⟨as, rows, ⟨IsP.l ⟨_, .head _⟩, by rw [hl, hr], fun i a r h1 h2 => (hi i a r h1 h2).sub Sub.cons⟩, hr, fr, hp, fun h => ?_⟩
  obtain ⟨k, hk, e⟩ := List.mem_iff_getElem.mp h
  have hk' : k < rows.length := by omega
  exact (hi k D rows[k] (by simp [hk, e]) (by simp [hk'])).fresh f rfl
theorem Grid.put {nw nw' : Led} {g d : Addr} {as : List Addr} {rows : List (List Int)} {i : Nat} {new : List Int} (x : Grid nw g as rows) (S : SubBut [g] nw nw') (hg : g ∉ as) (y : IsL nw' g ((as.map Value.ref).set i (.ref d))) (z : Ints nw' d new) :
    Grid nw' g (as.set i d) (rows.set i new) := by
  refine ⟨by rw [List.map_set]; exact y, by simp [x.len], fun k a r h1 h2 => ?_⟩
  by_cases h : i = k
  · subst h
    have l1 : i < as.length := by simpa using (List.getElem?_eq_some_iff.mp h1).1
    have l2 : i < rows.length := by simpa using (List.getElem?_eq_some_iff.mp h2).1
    rw [List.getElem?_set_self l1] at h1
    rw [List.getElem?_set_self l2] at h2
    cases h1; cases h2; exact z
  · rw [List.getElem?_set_ne h] at h1 h2
    exact (x.row k a r h1 h2).but S fun q => hg (by rw [← List.mem_singleton.mp q]; exact List.mem_of_getElem? h1)
theorem ints_at {vs : List Value} {ns : List Int} (hi : IntsAre vs ns) {i : Nat} {v : Value} (h : vs[i]? = some v) : ∃ z t, v = .int z t ∧ ns[i]? = some z := by
  have hl : i < ns.length := by rw [← hi.length]; exact (List.getElem?_eq_some_iff.mp h).1
  obtain ⟨t, ht⟩ := hi.get i ns[i] (by simp [hl])
  exact ⟨ns[i], t, Option.some.inj (h.symm.trans ht), by simp [hl]⟩

/-- the end of a turn over an enumerate -/
def TurnEndW (h₀ : Heap) (L : Addr) (W : List Addr) (own : Led) (J : (Str → Option Value) → Led → Prop) (s₁ : Shared) (Q : Flow → Shared → Prop) (f : Flow) (s₂ : Shared) : Prop :=
  match f with
  | .ret v => Q (.ret v) s₂
  | .brk => Q .next s₂
  | _ => ∃ h' tk m' nw', s₂ = { s₁ with heap := h', toks := tk } ∧ Fr h₀ L h' m' ∧ News h₀ L h' nw' ∧ Sub own nw' ∧ J m' (offs W nw')
theorem TurnEndW.next {h₀ : Heap} {L : Addr} {W : List Addr} {own : Led} {J : (Str → Option Value) → Led → Prop} {s₁ : Shared} {Q : Flow → Shared → Prop} {h' : Heap} {tk : Nat} {m' : Str → Option Value} {nw' : Led}
    (F : Fr h₀ L h' m') (N : News h₀ L h' nw') (ho : Sub own nw') (hJ : J m' (offs W nw')) : TurnEndW h₀ L W own J s₁ Q .next { s₁ with heap := h', toks := tk } :=
  ⟨h', tk, m', nw', rfl, F, N, ho, hJ⟩

section
variable {prog : Program} {w : World} {A : Around} {E : Value → Shared → Prop} {s : Shared} {env : Env} {h₀ : Heap} {xi xc : Str} {pk pv pt : Pos} {x1 : Nat} {body : List Stmt} {Q : Flow → Shared → Prop} {m : Str → Option Value} {news : Led}

theorem for_enumC {e it l c : Addr} {vs : List Value} (xs : List Str) (J : Nat → (Str → Option Value) → Led → Prop) (hh : A.handled = none) (hl : LCg.SrcAt h₀ l vs.toArray news) (H : EnumAt h₀ env.locals s.heap news e it l)
    (hE : PassesOwn (model prog w) A env E) (hk : env.scope.kind = .function) (hxi : env.kindOf xi = some .cell) (hci : env.cells.lookup xi = some c) (hxc : env.kindOf xc = some .local)
    (hp : (env.scope.kind == .class || (env.scope.kind == .module && env.locals != env.globals)) = false)
    (F : Fr h₀ env.locals s.heap m) (N : News h₀ env.locals s.heap news) (hJ : J 0 m news) (hJc : ∀ i u nx, J i u nx → ∃ o v, (c, o) ∈ nx ∧ o.data = .cell v)
    (turn : ∀ (i : Nat) t v u news₁ news₂ own h tk, vs[i]? = some v → J i u news₁ → SubBut [c] news₁ news₂ → (∀ p ∈ news₂, p.1 = c ∨ p ∈ news₁) → CellIn news₂ c (.int i t) → (∀ p ∈ news₂, p.1 ∉ [e, it]) → (∀ p ∈ own, p.1 ∈ [e, it, l]) → c ∉ [e, it, l] →
      Fr h₀ env.locals h (fun y => if y = xc then some v else if y ∈ xs then u y else m y) → News h₀ env.locals h (own ++ news₂) →
      wpAny (model prog w) A (execs body env) (TurnEndW h₀ env.locals [e, it] own (fun m' nx => KeepBut (xc :: xs) m m' ∧ J (i + 1) m' nx) { s with heap := h, toks := tk } Q) E { s with heap := h, toks := tk })
    (done : ∀ u news₁ h tk, J vs.length u news₁ → Fr h₀ env.locals h (fun y => if y ∈ xc :: xs then u y else m y) → News h₀ env.locals h news₁ → Q .next { s with heap := h, toks := tk }) :
    codeAny (model prog w) A (.forLoop (.Tuple [.Name xi pk, .Name xc pv] x1 pt) (.ref e) body [] env) (fun r s' => match r with | .ok f => Q f s' | .error e => cameBackBy (model prog w) A env E e s') s := by
  have hls := hl.list F.keep N
  have W := WalksT.enumerate (prog := prog) (w := w) hh e it l H.ne H.el H.il vs.toArray
  have hsize : vs.toArray.size = vs.length := by simp
  have hLl := src_live hl F N
  have hLf : env.locals ∉ [e, it, l] := by
    intro h
    rcases List.mem_cons.mp h with q | h
    · exact H.Le q
    · rcases List.mem_cons.mp h with q | h
      · exact H.Li q
      · exact hLl (List.mem_singleton.mp h)
  have hwr : ∀ b ∈ [e, it], h₀.get? b = none := by
    intro b hb
    rcases List.mem_cons.mp hb with rfl | hb
    · exact H.e₀
    · rw [List.mem_singleton.mp hb]; exact H.i₀
  have hLw : env.locals ∉ [e, it] := fun h => hLf (W.sub _ h)
  have old : ∀ b o, h₀.get? b = some o → b ∉ [e, it] := fun b o q hb => by rw [hwr b hb] at q; cases q
  refine codeAny_forLoop_any
    (fun k s' => ∃ h' tk m' news' , ∃ i : Nat, s' = { s with heap := h', toks := tk } ∧ ((∃ old, IsEnum h' e it i old) ∧ h'.IsListIter it l i ∧ h'.IsList l vs.toArray) ∧ Fr h₀ env.locals h' m' ∧ News h₀ env.locals h' news' ∧ (∀ p ∈ news', p.1 ∉ [e, it]) ∧ (KeepBut (xc :: xs) m m' ∧ J i m' news') ∧ i ≤ vs.length ∧ k = vs.length + 1 - i) ?_ (vs.length + 1)
    ⟨s.heap, s.toks, m, news, 0, rfl, ⟨⟨_, H.enum⟩, H.iter, hls⟩, F, N, fun p hp hq => ?_, ⟨KeepBut.refl, hJ⟩, Nat.zero_le _, rfl⟩
  rotate_left
  · rcases List.mem_cons.mp hq with q | hq
    · exact H.eo p hp q
    · exact H.io p hp (List.mem_singleton.mp hq)
  rintro k s' ⟨G, tk, m', news', i, rfl, hst', F', N', hoff, ⟨hkb, hJ'⟩, hi, rfl⟩
  have next : ∀ h₁ : Heap, (∀ b o, b ∉ [e, it] → G.get? b = some o → h₁.get? b = some o) → Fr h₀ env.locals h₁ m' ∧ News h₀ env.locals h₁ news' := fun h₁ hk₁ =>
    ⟨⟨F'.ns.at' fun o q => hk₁ _ o hLw q, fun b o q => hk₁ b o (old b o q) (F'.keep b o q), F'.above⟩, fun p hp => ⟨hk₁ _ _ (hoff p hp) (N' p hp).1, (N' p hp).2⟩⟩
  by_cases hlt : i < vs.length
  · refine W.item i _ _ _ (by rw [hsize]; exact hlt) hst' fun T vals h₁ tk₁ hPt hTs hT hMid hk₁ => ?_
    obtain ⟨t, v, hv, rfl⟩ := hPt
    refine W.go _ x1 pt i T _ _ _ hMid fun h₂ hst₂ hk₂ => ?_
    have ht₂ : h₂.IsTuple T #[.int (i : Int) t, v] := hT.at fun o q => hk₂ T o (W.apart i T h₁ hMid) q
    refine wpAny_assign_Tuple hh ht₂ rfl rfl fun h₃ hx₃ => ?_
    replace hx₃ : Heap.ExtBut h₂.objs.size h₂ h₃ := hx₃
    have up₃ : ∀ b o, h₂.get? b = some o → h₃.get? b = some o := fun b o x => hx₃ b o (Nat.ne_of_lt (Heap.lt_size x)) x
    obtain ⟨F₃, N₃⟩ := next h₃ fun b o hb x => up₃ b o (hk₂ b o hb (hk₁ b o hb x))
    have hst₃ := W.frame (i + 1) h₂ h₃ hst₂ fun b hb o q => up₃ b o q
    obtain ⟨oc, vc, hmc, hdc⟩ := hJc _ _ _ hJ'
    have hcm := N₃ _ hmc
    have hcf : c ∉ [e, it, l] := by
      intro h
      rcases List.mem_cons.mp h with q | h
      · exact hoff _ hmc (by rw [q]; exact .head _)
      · rcases List.mem_cons.mp h with q | h
        · exact hoff _ hmc (by rw [q]; exact .tail _ (.head _))
        · obtain ⟨ol, hol, _, nl, hdl⟩ := hst₃.2.2
          have e1 := hcm.1
          rw [List.mem_singleton.mp h, hol] at e1
          cases e1
          rw [hdl] at hdc
          cases hdc
    show wpAny _ A (do holding [v] (assign (.Name xi pk) env (.int (i : Int) t)); do holding [] (assign (.Name xc pv) env v); pure ()) _ _ _
    refine wpAny_bind (wpAny_holding (wpAny_assign_Name (wpAny_storeName_cell hk hxi hci ⟨oc, hcm.1, hdc⟩ fun h₄ hv₄ hs₄ => ?_)))
    replace hs₄ : Heap.SameBut c h₃ h₄ := hs₄
    obtain ⟨oc', ec', dc'⟩ := hv₄
    have F₄ : Fr h₀ env.locals h₄ m' := ⟨F₃.ns.sameBut hs₄ (Ne.symm hcm.2.1), fun b ob q => (hs₄.2 b fun z => by rw [z, hcm.2.2] at q; cases q).trans (F₃.keep b ob q), F₃.above⟩
    have N₄ : News h₀ env.locals h₄ ((c, oc') :: off c news') := fun p hp => by
      rcases List.mem_cons.mp hp with rfl | hp
      · exact ⟨ec', hcm.2⟩
      · obtain ⟨hp, hne⟩ := mem_off.mp hp
        exact ⟨(hs₄.2 _ hne).trans (N₃ p hp).1, (N₃ p hp).2⟩
    have S₄ : SubBut [c] news' ((c, oc') :: off c news') := fun p hp hn => List.mem_cons_of_mem _ (mem_off.mpr ⟨hp, fun q => hn (by simp [q])⟩)
    have O₄ : ∀ p ∈ ((c, oc') :: off c news'), p.1 = c ∨ p ∈ news' := fun p hp => by
      rcases List.mem_cons.mp hp with rfl | hp
      · exact .inl rfl
      · exact .inr (mem_off.mp hp).1
    have C₄ : CellIn ((c, oc') :: off c news') c (.int (i : Int) t) := ⟨oc', .head _, dc'⟩
    have hst₄ := W.frame (i + 1) h₃ h₄ hst₃ fun b hb o q => (hs₄.2 b fun z => hcf (z ▸ hb)).trans q
    generalize ((c, oc') :: off c news') = nw₄ at N₄ S₄ O₄ C₄
    refine wpAny_bind (wpAny_holding (wpAny_assign_Name (wpAny_storeName_local hxc F₄.ns (fun h₅ hn₅ hs₅ => wpAny_pure ?_) hp)))
    replace hs₅ : Heap.SameBut env.locals h₄ h₅ := hs₅
    have F₅ := F₄.set hn₅ hs₅
    have N₅ : News h₀ env.locals h₅ nw₄ := N₄.set hs₅
    have hst₅ := W.frame (i + 1) h₄ h₅ hst₄ fun b hb o q => hs₅.extBut b o (fun z => hLf (z ▸ hb)) q
    have off₄ : ∀ p ∈ nw₄, p.1 ∉ [e, it] := fun p hp hq => by
      rcases O₄ p hp with q | q
      · exact hcf (W.sub _ (q ▸ hq))
      · exact hoff p q hq
    refine wpAny_mono (wpAny_passesOwn hE (turn i t v m' news' nw₄ (ownOf h₀ [e, it, l] h₅) h₅ _ (by simpa using hv) hJ' S₄ O₄ C₄ off₄ ownOf_sub hcf (keep_in hkb ▸ F₅) ((news_ownOf hLf).append N₅))) (fun f s₃ h₆ => ?_) fun _ _ q => q
    have go : (∃ h' tk m'' nw', s₃ = { s with heap := h', toks := tk } ∧ Fr h₀ env.locals h' m'' ∧ News h₀ env.locals h' nw' ∧ Sub (ownOf h₀ [e, it, l] h₅) nw' ∧ KeepBut (xc :: xs) m m'' ∧ J (i + 1) m'' (offs [e, it] nw')) →
        ∃ k, k < vs.length + 1 - i ∧ ∃ h' tk m' news' , ∃ i : Nat, s₃ = { s with heap := h', toks := tk } ∧ ((∃ old, IsEnum h' e it i old) ∧ h'.IsListIter it l i ∧ h'.IsList l vs.toArray) ∧ Fr h₀ env.locals h' m' ∧ News h₀ env.locals h' news' ∧ (∀ p ∈ news', p.1 ∉ [e, it]) ∧ (KeepBut (xc :: xs) m m' ∧ J i m' news') ∧ i ≤ vs.length ∧ k = vs.length + 1 - i := by
      rintro ⟨g₆, tk₆, m₂, nw₆, rfl, F₆, N₆, ho₆, hk₆, hJ₆⟩
      refine ⟨vs.length + 1 - (i + 1), by omega, g₆, tk₆, m₂, offs [e, it] nw₆, i + 1, rfl, ?_, F₆, fun p hp => N₆ p (mem_offs.mp hp).1, fun p hp => (mem_offs.mp hp).2, ⟨hk₆, hJ₆⟩, hlt, rfl⟩
      refine W.frame _ _ _ hst₅ fun b hb o q => ?_
      cases hn : h₀.get? b with
      | some o₀ =>
        have : o₀ = o := by have z := F₅.keep b o₀ hn; rw [q] at z; exact (Option.some.inj z).symm
        exact this ▸ F₆.keep b o₀ hn
      | none => exact (N₆ _ (ho₆ _ (mem_ownOf hb hn q))).1
    cases f with
    | ret v => exact h₆
    | brk => exact h₆
    | cont => exact go h₆
    | next => exact go h₆
  · have hin : i = vs.length := by omega
    subst hin
    refine W.done _ _ _ (by rw [hsize]; exact hst') fun h₁ tk₁ hk₁ => wpAny_execs_nil ?_
    obtain ⟨F₁, N₁⟩ := next h₁ hk₁
    exact done m' news' h₁ tk₁ hJ' (hkb.eq ▸ F₁) N₁
end

def sumTo (n : Nat) (f : Nat → Int) : Int := ((List.range n).map f).sum
theorem sumTo_zero {f : Nat → Int} : sumTo 0 f = 0 := rfl
theorem sumTo_succ {n : Nat} {f : Nat → Int} : sumTo (n + 1) f = sumTo n f + f n := by simp [sumTo, List.range_succ]
theorem sumTo_congr {n : Nat} {f g : Nat → Int} (h : ∀ i, i < n → f i = g i) : sumTo n f = sumTo n g := by
  induction n with
  | zero => rfl
  | succ n ih => rw [sumTo_succ, sumTo_succ, ih fun i hi => h i (by omega), h n (by omega)]
/-- the place of the c-th of the rest, where j is left out -/
def skp (j c : Nat) : Nat := if c < j then c else c + 1
def det : Nat → (Nat → Nat → Int) → Int
  | 0, _ => 1
  | n + 1, a => sumTo (n + 1) fun j => (1 - 2 * ((j : Int) % 2)) * a 0 j * det n (fun r c => a (r + 1) (skp j c))
theorem det_congr {n : Nat} {a b : Nat → Nat → Int} (h : ∀ i j, i < n → j < n → a i j = b i j) : det n a = det n b := by
  induction n generalizing a b with
  | zero => rfl
  | succ n ih =>
    unfold det
    refine sumTo_congr fun j hj => ?_
    rw [h 0 j (by omega) hj, ih fun r c hr hc => h (r + 1) (skp j c) (by omega) (by unfold skp; split <;> omega)]
theorem det0 (a : Nat → Nat → Int) : det 0 a = 1 := rfl
theorem det1 (a : Nat → Nat → Int) : det 1 a = a 0 0 := by simp [det, sumTo_succ, sumTo_zero]
theorem det2 (a : Nat → Nat → Int) : det 2 a = a 0 0 * a 1 1 - a 0 1 * a 1 0 := by
  rw [det]
  simp only [sumTo_succ, sumTo_zero, det1, skp]
  simp
  grind
def d3 (a b c d e f g h i : Int) : Int := a*(e*i - f*h) - b*(d*i - f*g) + c*(d*h - e*g)
def d4 (a b c d e f g h i j k l m n o p : Int) : Int := a * d3 f g h j k l n o p - b * d3 e g h i k l m o p + c * d3 e f h i j l m n p - d * d3 e f g i j k m n o
theorem det3 (a : Nat → Nat → Int) : det 3 a = d3 (a 0 0) (a 0 1) (a 0 2) (a 1 0) (a 1 1) (a 1 2) (a 2 0) (a 2 1) (a 2 2) := by
  rw [det]
  simp only [sumTo_succ, sumTo_zero, det2, skp, d3]
  simp
  grind
theorem det4 (a : Nat → Nat → Int) : det 4 a = d4 (a 0 0) (a 0 1) (a 0 2) (a 0 3) (a 1 0) (a 1 1) (a 1 2) (a 1 3) (a 2 0) (a 2 1) (a 2 2) (a 2 3) (a 3 0) (a 3 1) (a 3 2) (a 3 3) := by
  rw [det]
  simp only [sumTo_succ, sumTo_zero, det3, skp, d4]
  simp
  grind

theorem five {n : Nat} (h : n ≤ 4) : n = 0 ∨ n = 1 ∨ n = 2 ∨ n = 3 ∨ n = 4 := by omega

theorem det_turned {n : Nat} (h : n ≤ 4) (a : Nat → Nat → Int) : det n (fun i j => a j i) = det n a := by
  rcases five h with rfl | rfl | rfl | rfl | rfl
  · rfl
  · rw [det1, det1]
  · rw [det2, det2]; grind
  · rw [det3, det3]; unfold d3; grind
  · rw [det4, det4]; unfold d4 d3; grind

/-- minors of two rows -/
def mn (a b c d : Int) : Int := a * d - b * c
def pr (a b c d e f a' b' c' d' e' f' : Int) : Int := a*f' - b*e' + c*d' + d*c' - e*b' + f*a'
theorem d4_pairs (a b c d e f g h i j k l m n o p : Int) : d4 a b c d e f g h i j k l m n o p =
   pr (mn a b e f) (mn a c e g) (mn a d e h) (mn b c f g) (mn b d f h) (mn c d g h) (mn i j m n) (mn i k m o) (mn i l m p) (mn j k n o) (mn j l n p) (mn k l o p) := by
  unfold d4 d3 pr mn; grind
theorem cauchy2 (a0 a1 a2 a3 b0 b1 b2 b3 c0 c1 c2 c3 d0 d1 d2 d3 : Int) :
   mn (a0*c0+a1*c1+a2*c2+a3*c3) (a0*d0+a1*d1+a2*d2+a3*d3) (b0*c0+b1*c1+b2*c2+b3*c3) (b0*d0+b1*d1+b2*d2+b3*d3) =
     mn a0 a1 b0 b1 * mn c0 d0 c1 d1 + mn a0 a2 b0 b2 * mn c0 d0 c2 d2 + mn a0 a3 b0 b3 * mn c0 d0 c3 d3 + mn a1 a2 b1 b2 * mn c1 d1 c2 d2 + mn a1 a3 b1 b3 * mn c1 d1 c3 d3 + mn a2 a3 b2 b3 * mn c2 d2 c3 d3 := by
  unfold mn; grind
set_option maxHeartbeats 4000000 in
theorem pr_lin (x0 x1 x2 x3 x4 x5 y0 y1 y2 y3 y4 y5 u00 u01 u02 u03 u04 u05 u10 u11 u12 u13 u14 u15 u20 u21 u22 u23 u24 u25 u30 u31 u32 u33 u34 u35 u40 u41 u42 u43 u44 u45 u50 u51 u52 u53 u54 u55 : Int) : pr (x0*u00 + x1*u10 + x2*u20 + x3*u30 + x4*u40 + x5*u50) (x0*u01 + x1*u11 + x2*u21 + x3*u31 + x4*u41 + x5*u51) (x0*u02 + x1*u12 + x2*u22 + x3*u32 + x4*u42 + x5*u52) (x0*u03 + x1*u13 + x2*u23 + x3*u33 + x4*u43 + x5*u53) (x0*u04 + x1*u14 + x2*u24 + x3*u34 + x4*u44 + x5*u54) (x0*u05 + x1*u15 + x2*u25 + x3*u35 + x4*u45 + x5*u55) (y0*u00 + y1*u10 + y2*u20 + y3*u30 + y4*u40 + y5*u50) (y0*u01 + y1*u11 + y2*u21 + y3*u31 + y4*u41 + y5*u51) (y0*u02 + y1*u12 + y2*u22 + y3*u32 + y4*u42 + y5*u52) (y0*u03 + y1*u13 + y2*u23 + y3*u33 + y4*u43 + y5*u53) (y0*u04 + y1*u14 + y2*u24 + y3*u34 + y4*u44 + y5*u54) (y0*u05 + y1*u15 + y2*u25 + y3*u35 + y4*u45 + y5*u55) = x0*y0*pr u00 u01 u02 u03 u04 u05 u00 u01 u02 u03 u04 u05 + x0*y1*pr u00 u01 u02 u03 u04 u05 u10 u11 u12 u13 u14 u15 + x0*y2*pr u00 u01 u02 u03 u04 u05 u20 u21 u22 u23 u24 u25 + x0*y3*pr u00 u01 u02 u03 u04 u05 u30 u31 u32 u33 u34 u35 + x0*y4*pr u00 u01 u02 u03 u04 u05 u40 u41 u42 u43 u44 u45 + x0*y5*pr u00 u01 u02 u03 u04 u05 u50 u51 u52 u53 u54 u55 + x1*y0*pr u10 u11 u12 u13 u14 u15 u00 u01 u02 u03 u04 u05 + x1*y1*pr u10 u11 u12 u13 u14 u15 u10 u11 u12 u13 u14 u15 + x1*y2*pr u10 u11 u12 u13 u14 u15 u20 u21 u22 u23 u24 u25 + x1*y3*pr u10 u11 u12 u13 u14 u15 u30 u31 u32 u33 u34 u35 + x1*y4*pr u10 u11 u12 u13 u14 u15 u40 u41 u42 u43 u44 u45 + x1*y5*pr u10 u11 u12 u13 u14 u15 u50 u51 u52 u53 u54 u55 + x2*y0*pr u20 u21 u22 u23 u24 u25 u00 u01 u02 u03 u04 u05 + x2*y1*pr u20 u21 u22 u23 u24 u25 u10 u11 u12 u13 u14 u15 + x2*y2*pr u20 u21 u22 u23 u24 u25 u20 u21 u22 u23 u24 u25 + x2*y3*pr u20 u21 u22 u23 u24 u25 u30 u31 u32 u33 u34 u35 + x2*y4*pr u20 u21 u22 u23 u24 u25 u40 u41 u42 u43 u44 u45 + x2*y5*pr u20 u21 u22 u23 u24 u25 u50 u51 u52 u53 u54 u55 + x3*y0*pr u30 u31 u32 u33 u34 u35 u00 u01 u02 u03 u04 u05 + x3*y1*pr u30 u31 u32 u33 u34 u35 u10 u11 u12 u13 u14 u15 + x3*y2*pr u30 u31 u32 u33 u34 u35 u20 u21 u22 u23 u24 u25 + x3*y3*pr u30 u31 u32 u33 u34 u35 u30 u31 u32 u33 u34 u35 + x3*y4*pr u30 u31 u32 u33 u34 u35 u40 u41 u42 u43 u44 u45 + x3*y5*pr u30 u31 u32 u33 u34 u35 u50 u51 u52 u53 u54 u55 + x4*y0*pr u40 u41 u42 u43 u44 u45 u00 u01 u02 u03 u04 u05 + x4*y1*pr u40 u41 u42 u43 u44 u45 u10 u11 u12 u13 u14 u15 + x4*y2*pr u40 u41 u42 u43 u44 u45 u20 u21 u22 u23 u24 u25 + x4*y3*pr u40 u41 u42 u43 u44 u45 u30 u31 u32 u33 u34 u35 + x4*y4*pr u40 u41 u42 u43 u44 u45 u40 u41 u42 u43 u44 u45 + x4*y5*pr u40 u41 u42 u43 u44 u45 u50 u51 u52 u53 u54 u55 + x5*y0*pr u50 u51 u52 u53 u54 u55 u00 u01 u02 u03 u04 u05 + x5*y1*pr u50 u51 u52 u53 u54 u55 u10 u11 u12 u13 u14 u15 + x5*y2*pr u50 u51 u52 u53 u54 u55 u20 u21 u22 u23 u24 u25 + x5*y3*pr u50 u51 u52 u53 u54 u55 u30 u31 u32 u33 u34 u35 + x5*y4*pr u50 u51 u52 u53 u54 u55 u40 u41 u42 u43 u44 u45 + x5*y5*pr u50 u51 u52 u53 u54 u55 u50 u51 u52 u53 u54 u55 := by
  unfold pr; grind
theorem prv00 (b00 b01 b02 b03 b10 b11 b12 b13 : Int) : pr (mn b00 b01 b10 b11) (mn b00 b02 b10 b12) (mn b00 b03 b10 b13) (mn b01 b02 b11 b12) (mn b01 b03 b11 b13) (mn b02 b03 b12 b13) (mn b00 b01 b10 b11) (mn b00 b02 b10 b12) (mn b00 b03 b10 b13) (mn b01 b02 b11 b12) (mn b01 b03 b11 b13) (mn b02 b03 b12 b13) = 0 := by unfold pr mn; grind
theorem prv01 (b00 b01 b02 b03 b10 b11 b12 b13 b20 b21 b22 b23 : Int) : pr (mn b00 b01 b10 b11) (mn b00 b02 b10 b12) (mn b00 b03 b10 b13) (mn b01 b02 b11 b12) (mn b01 b03 b11 b13) (mn b02 b03 b12 b13) (mn b00 b01 b20 b21) (mn b00 b02 b20 b22) (mn b00 b03 b20 b23) (mn b01 b02 b21 b22) (mn b01 b03 b21 b23) (mn b02 b03 b22 b23) = 0 := by unfold pr mn; grind
theorem prv02 (b00 b01 b02 b03 b10 b11 b12 b13 b30 b31 b32 b33 : Int) : pr (mn b00 b01 b10 b11) (mn b00 b02 b10 b12) (mn b00 b03 b10 b13) (mn b01 b02 b11 b12) (mn b01 b03 b11 b13) (mn b02 b03 b12 b13) (mn b00 b01 b30 b31) (mn b00 b02 b30 b32) (mn b00 b03 b30 b33) (mn b01 b02 b31 b32) (mn b01 b03 b31 b33) (mn b02 b03 b32 b33) = 0 := by unfold pr mn; grind
theorem prv03 (b00 b01 b02 b03 b10 b11 b12 b13 b20 b21 b22 b23 : Int) : pr (mn b00 b01 b10 b11) (mn b00 b02 b10 b12) (mn b00 b03 b10 b13) (mn b01 b02 b11 b12) (mn b01 b03 b11 b13) (mn b02 b03 b12 b13) (mn b10 b11 b20 b21) (mn b10 b12 b20 b22) (mn b10 b13 b20 b23) (mn b11 b12 b21 b22) (mn b11 b13 b21 b23) (mn b12 b13 b22 b23) = 0 := by unfold pr mn; grind
theorem prv04 (b00 b01 b02 b03 b10 b11 b12 b13 b30 b31 b32 b33 : Int) : pr (mn b00 b01 b10 b11) (mn b00 b02 b10 b12) (mn b00 b03 b10 b13) (mn b01 b02 b11 b12) (mn b01 b03 b11 b13) (mn b02 b03 b12 b13) (mn b10 b11 b30 b31) (mn b10 b12 b30 b32) (mn b10 b13 b30 b33) (mn b11 b12 b31 b32) (mn b11 b13 b31 b33) (mn b12 b13 b32 b33) = 0 := by unfold pr mn; grind
theorem prv05 (b00 b01 b02 b03 b10 b11 b12 b13 b20 b21 b22 b23 b30 b31 b32 b33 : Int) : pr (mn b00 b01 b10 b11) (mn b00 b02 b10 b12) (mn b00 b03 b10 b13) (mn b01 b02 b11 b12) (mn b01 b03 b11 b13) (mn b02 b03 b12 b13) (mn b20 b21 b30 b31) (mn b20 b22 b30 b32) (mn b20 b23 b30 b33) (mn b21 b22 b31 b32) (mn b21 b23 b31 b33) (mn b22 b23 b32 b33) = d4 b00 b01 b02 b03 b10 b11 b12 b13 b20 b21 b22 b23 b30 b31 b32 b33 := by unfold pr mn d4 d3; grind
theorem prv10 (b00 b01 b02 b03 b10 b11 b12 b13 b20 b21 b22 b23 : Int) : pr (mn b00 b01 b20 b21) (mn b00 b02 b20 b22) (mn b00 b03 b20 b23) (mn b01 b02 b21 b22) (mn b01 b03 b21 b23) (mn b02 b03 b22 b23) (mn b00 b01 b10 b11) (mn b00 b02 b10 b12) (mn b00 b03 b10 b13) (mn b01 b02 b11 b12) (mn b01 b03 b11 b13) (mn b02 b03 b12 b13) = 0 := by unfold pr mn; grind
theorem prv11 (b00 b01 b02 b03 b20 b21 b22 b23 : Int) : pr (mn b00 b01 b20 b21) (mn b00 b02 b20 b22) (mn b00 b03 b20 b23) (mn b01 b02 b21 b22) (mn b01 b03 b21 b23) (mn b02 b03 b22 b23) (mn b00 b01 b20 b21) (mn b00 b02 b20 b22) (mn b00 b03 b20 b23) (mn b01 b02 b21 b22) (mn b01 b03 b21 b23) (mn b02 b03 b22 b23) = 0 := by unfold pr mn; grind
theorem prv12 (b00 b01 b02 b03 b20 b21 b22 b23 b30 b31 b32 b33 : Int) : pr (mn b00 b01 b20 b21) (mn b00 b02 b20 b22) (mn b00 b03 b20 b23) (mn b01 b02 b21 b22) (mn b01 b03 b21 b23) (mn b02 b03 b22 b23) (mn b00 b01 b30 b31) (mn b00 b02 b30 b32) (mn b00 b03 b30 b33) (mn b01 b02 b31 b32) (mn b01 b03 b31 b33) (mn b02 b03 b32 b33) = 0 := by unfold pr mn; grind
theorem prv13 (b00 b01 b02 b03 b10 b11 b12 b13 b20 b21 b22 b23 : Int) : pr (mn b00 b01 b20 b21) (mn b00 b02 b20 b22) (mn b00 b03 b20 b23) (mn b01 b02 b21 b22) (mn b01 b03 b21 b23) (mn b02 b03 b22 b23) (mn b10 b11 b20 b21) (mn b10 b12 b20 b22) (mn b10 b13 b20 b23) (mn b11 b12 b21 b22) (mn b11 b13 b21 b23) (mn b12 b13 b22 b23) = 0 := by unfold pr mn; grind
theorem prv14 (b00 b01 b02 b03 b10 b11 b12 b13 b20 b21 b22 b23 b30 b31 b32 b33 : Int) : pr (mn b00 b01 b20 b21) (mn b00 b02 b20 b22) (mn b00 b03 b20 b23) (mn b01 b02 b21 b22) (mn b01 b03 b21 b23) (mn b02 b03 b22 b23) (mn b10 b11 b30 b31) (mn b10 b12 b30 b32) (mn b10 b13 b30 b33) (mn b11 b12 b31 b32) (mn b11 b13 b31 b33) (mn b12 b13 b32 b33) = -d4 b00 b01 b02 b03 b10 b11 b12 b13 b20 b21 b22 b23 b30 b31 b32 b33 := by unfold pr mn d4 d3; grind
theorem prv15 (b00 b01 b02 b03 b20 b21 b22 b23 b30 b31 b32 b33 : Int) : pr (mn b00 b01 b20 b21) (mn b00 b02 b20 b22) (mn b00 b03 b20 b23) (mn b01 b02 b21 b22) (mn b01 b03 b21 b23) (mn b02 b03 b22 b23) (mn b20 b21 b30 b31) (mn b20 b22 b30 b32) (mn b20 b23 b30 b33) (mn b21 b22 b31 b32) (mn b21 b23 b31 b33) (mn b22 b23 b32 b33) = 0 := by unfold pr mn; grind
theorem prv20 (b00 b01 b02 b03 b10 b11 b12 b13 b30 b31 b32 b33 : Int) : pr (mn b00 b01 b30 b31) (mn b00 b02 b30 b32) (mn b00 b03 b30 b33) (mn b01 b02 b31 b32) (mn b01 b03 b31 b33) (mn b02 b03 b32 b33) (mn b00 b01 b10 b11) (mn b00 b02 b10 b12) (mn b00 b03 b10 b13) (mn b01 b02 b11 b12) (mn b01 b03 b11 b13) (mn b02 b03 b12 b13) = 0 := by unfold pr mn; grind
theorem prv21 (b00 b01 b02 b03 b20 b21 b22 b23 b30 b31 b32 b33 : Int) : pr (mn b00 b01 b30 b31) (mn b00 b02 b30 b32) (mn b00 b03 b30 b33) (mn b01 b02 b31 b32) (mn b01 b03 b31 b33) (mn b02 b03 b32 b33) (mn b00 b01 b20 b21) (mn b00 b02 b20 b22) (mn b00 b03 b20 b23) (mn b01 b02 b21 b22) (mn b01 b03 b21 b23) (mn b02 b03 b22 b23) = 0 := by unfold pr mn; grind
theorem prv22 (b00 b01 b02 b03 b30 b31 b32 b33 : Int) : pr (mn b00 b01 b30 b31) (mn b00 b02 b30 b32) (mn b00 b03 b30 b33) (mn b01 b02 b31 b32) (mn b01 b03 b31 b33) (mn b02 b03 b32 b33) (mn b00 b01 b30 b31) (mn b00 b02 b30 b32) (mn b00 b03 b30 b33) (mn b01 b02 b31 b32) (mn b01 b03 b31 b33) (mn b02 b03 b32 b33) = 0 := by unfold pr mn; grind
theorem prv23 (b00 b01 b02 b03 b10 b11 b12 b13 b20 b21 b22 b23 b30 b31 b32 b33 : Int) : pr (mn b00 b01 b30 b31) (mn b00 b02 b30 b32) (mn b00 b03 b30 b33) (mn b01 b02 b31 b32) (mn b01 b03 b31 b33) (mn b02 b03 b32 b33) (mn b10 b11 b20 b21) (mn b10 b12 b20 b22) (mn b10 b13 b20 b23) (mn b11 b12 b21 b22) (mn b11 b13 b21 b23) (mn b12 b13 b22 b23) = d4 b00 b01 b02 b03 b10 b11 b12 b13 b20 b21 b22 b23 b30 b31 b32 b33 := by unfold pr mn d4 d3; grind
theorem prv24 (b00 b01 b02 b03 b10 b11 b12 b13 b30 b31 b32 b33 : Int) : pr (mn b00 b01 b30 b31) (mn b00 b02 b30 b32) (mn b00 b03 b30 b33) (mn b01 b02 b31 b32) (mn b01 b03 b31 b33) (mn b02 b03 b32 b33) (mn b10 b11 b30 b31) (mn b10 b12 b30 b32) (mn b10 b13 b30 b33) (mn b11 b12 b31 b32) (mn b11 b13 b31 b33) (mn b12 b13 b32 b33) = 0 := by unfold pr mn; grind
theorem prv25 (b00 b01 b02 b03 b20 b21 b22 b23 b30 b31 b32 b33 : Int) : pr (mn b00 b01 b30 b31) (mn b00 b02 b30 b32) (mn b00 b03 b30 b33) (mn b01 b02 b31 b32) (mn b01 b03 b31 b33) (mn b02 b03 b32 b33) (mn b20 b21 b30 b31) (mn b20 b22 b30 b32) (mn b20 b23 b30 b33) (mn b21 b22 b31 b32) (mn b21 b23 b31 b33) (mn b22 b23 b32 b33) = 0 := by unfold pr mn; grind
theorem prv30 (b00 b01 b02 b03 b10 b11 b12 b13 b20 b21 b22 b23 : Int) : pr (mn b10 b11 b20 b21) (mn b10 b12 b20 b22) (mn b10 b13 b20 b23) (mn b11 b12 b21 b22) (mn b11 b13 b21 b23) (mn b12 b13 b22 b23) (mn b00 b01 b10 b11) (mn b00 b02 b10 b12) (mn b00 b03 b10 b13) (mn b01 b02 b11 b12) (mn b01 b03 b11 b13) (mn b02 b03 b12 b13) = 0 := by unfold pr mn; grind
theorem prv31 (b00 b01 b02 b03 b10 b11 b12 b13 b20 b21 b22 b23 : Int) : pr (mn b10 b11 b20 b21) (mn b10 b12 b20 b22) (mn b10 b13 b20 b23) (mn b11 b12 b21 b22) (mn b11 b13 b21 b23) (mn b12 b13 b22 b23) (mn b00 b01 b20 b21) (mn b00 b02 b20 b22) (mn b00 b03 b20 b23) (mn b01 b02 b21 b22) (mn b01 b03 b21 b23) (mn b02 b03 b22 b23) = 0 := by unfold pr mn; grind
theorem prv32 (b00 b01 b02 b03 b10 b11 b12 b13 b20 b21 b22 b23 b30 b31 b32 b33 : Int) : pr (mn b10 b11 b20 b21) (mn b10 b12 b20 b22) (mn b10 b13 b20 b23) (mn b11 b12 b21 b22) (mn b11 b13 b21 b23) (mn b12 b13 b22 b23) (mn b00 b01 b30 b31) (mn b00 b02 b30 b32) (mn b00 b03 b30 b33) (mn b01 b02 b31 b32) (mn b01 b03 b31 b33) (mn b02 b03 b32 b33) = d4 b00 b01 b02 b03 b10 b11 b12 b13 b20 b21 b22 b23 b30 b31 b32 b33 := by unfold pr mn d4 d3; grind
theorem prv33 (b10 b11 b12 b13 b20 b21 b22 b23 : Int) : pr (mn b10 b11 b20 b21) (mn b10 b12 b20 b22) (mn b10 b13 b20 b23) (mn b11 b12 b21 b22) (mn b11 b13 b21 b23) (mn b12 b13 b22 b23) (mn b10 b11 b20 b21) (mn b10 b12 b20 b22) (mn b10 b13 b20 b23) (mn b11 b12 b21 b22) (mn b11 b13 b21 b23) (mn b12 b13 b22 b23) = 0 := by unfold pr mn; grind
theorem prv34 (b10 b11 b12 b13 b20 b21 b22 b23 b30 b31 b32 b33 : Int) : pr (mn b10 b11 b20 b21) (mn b10 b12 b20 b22) (mn b10 b13 b20 b23) (mn b11 b12 b21 b22) (mn b11 b13 b21 b23) (mn b12 b13 b22 b23) (mn b10 b11 b30 b31) (mn b10 b12 b30 b32) (mn b10 b13 b30 b33) (mn b11 b12 b31 b32) (mn b11 b13 b31 b33) (mn b12 b13 b32 b33) = 0 := by unfold pr mn; grind
theorem prv35 (b10 b11 b12 b13 b20 b21 b22 b23 b30 b31 b32 b33 : Int) : pr (mn b10 b11 b20 b21) (mn b10 b12 b20 b22) (mn b10 b13 b20 b23) (mn b11 b12 b21 b22) (mn b11 b13 b21 b23) (mn b12 b13 b22 b23) (mn b20 b21 b30 b31) (mn b20 b22 b30 b32) (mn b20 b23 b30 b33) (mn b21 b22 b31 b32) (mn b21 b23 b31 b33) (mn b22 b23 b32 b33) = 0 := by unfold pr mn; grind
theorem prv40 (b00 b01 b02 b03 b10 b11 b12 b13 b30 b31 b32 b33 : Int) : pr (mn b10 b11 b30 b31) (mn b10 b12 b30 b32) (mn b10 b13 b30 b33) (mn b11 b12 b31 b32) (mn b11 b13 b31 b33) (mn b12 b13 b32 b33) (mn b00 b01 b10 b11) (mn b00 b02 b10 b12) (mn b00 b03 b10 b13) (mn b01 b02 b11 b12) (mn b01 b03 b11 b13) (mn b02 b03 b12 b13) = 0 := by unfold pr mn; grind
theorem prv41 (b00 b01 b02 b03 b10 b11 b12 b13 b20 b21 b22 b23 b30 b31 b32 b33 : Int) : pr (mn b10 b11 b30 b31) (mn b10 b12 b30 b32) (mn b10 b13 b30 b33) (mn b11 b12 b31 b32) (mn b11 b13 b31 b33) (mn b12 b13 b32 b33) (mn b00 b01 b20 b21) (mn b00 b02 b20 b22) (mn b00 b03 b20 b23) (mn b01 b02 b21 b22) (mn b01 b03 b21 b23) (mn b02 b03 b22 b23) = -d4 b00 b01 b02 b03 b10 b11 b12 b13 b20 b21 b22 b23 b30 b31 b32 b33 := by unfold pr mn d4 d3; grind
theorem prv42 (b00 b01 b02 b03 b10 b11 b12 b13 b30 b31 b32 b33 : Int) : pr (mn b10 b11 b30 b31) (mn b10 b12 b30 b32) (mn b10 b13 b30 b33) (mn b11 b12 b31 b32) (mn b11 b13 b31 b33) (mn b12 b13 b32 b33) (mn b00 b01 b30 b31) (mn b00 b02 b30 b32) (mn b00 b03 b30 b33) (mn b01 b02 b31 b32) (mn b01 b03 b31 b33) (mn b02 b03 b32 b33) = 0 := by unfold pr mn; grind
theorem prv43 (b10 b11 b12 b13 b20 b21 b22 b23 b30 b31 b32 b33 : Int) : pr (mn b10 b11 b30 b31) (mn b10 b12 b30 b32) (mn b10 b13 b30 b33) (mn b11 b12 b31 b32) (mn b11 b13 b31 b33) (mn b12 b13 b32 b33) (mn b10 b11 b20 b21) (mn b10 b12 b20 b22) (mn b10 b13 b20 b23) (mn b11 b12 b21 b22) (mn b11 b13 b21 b23) (mn b12 b13 b22 b23) = 0 := by unfold pr mn; grind
theorem prv44 (b10 b11 b12 b13 b30 b31 b32 b33 : Int) : pr (mn b10 b11 b30 b31) (mn b10 b12 b30 b32) (mn b10 b13 b30 b33) (mn b11 b12 b31 b32) (mn b11 b13 b31 b33) (mn b12 b13 b32 b33) (mn b10 b11 b30 b31) (mn b10 b12 b30 b32) (mn b10 b13 b30 b33) (mn b11 b12 b31 b32) (mn b11 b13 b31 b33) (mn b12 b13 b32 b33) = 0 := by unfold pr mn; grind
theorem prv45 (b10 b11 b12 b13 b20 b21 b22 b23 b30 b31 b32 b33 : Int) : pr (mn b10 b11 b30 b31) (mn b10 b12 b30 b32) (mn b10 b13 b30 b33) (mn b11 b12 b31 b32) (mn b11 b13 b31 b33) (mn b12 b13 b32 b33) (mn b20 b21 b30 b31) (mn b20 b22 b30 b32) (mn b20 b23 b30 b33) (mn b21 b22 b31 b32) (mn b21 b23 b31 b33) (mn b22 b23 b32 b33) = 0 := by unfold pr mn; grind
theorem prv50 (b00 b01 b02 b03 b10 b11 b12 b13 b20 b21 b22 b23 b30 b31 b32 b33 : Int) : pr (mn b20 b21 b30 b31) (mn b20 b22 b30 b32) (mn b20 b23 b30 b33) (mn b21 b22 b31 b32) (mn b21 b23 b31 b33) (mn b22 b23 b32 b33) (mn b00 b01 b10 b11) (mn b00 b02 b10 b12) (mn b00 b03 b10 b13) (mn b01 b02 b11 b12) (mn b01 b03 b11 b13) (mn b02 b03 b12 b13) = d4 b00 b01 b02 b03 b10 b11 b12 b13 b20 b21 b22 b23 b30 b31 b32 b33 := by unfold pr mn d4 d3; grind
theorem prv51 (b00 b01 b02 b03 b20 b21 b22 b23 b30 b31 b32 b33 : Int) : pr (mn b20 b21 b30 b31) (mn b20 b22 b30 b32) (mn b20 b23 b30 b33) (mn b21 b22 b31 b32) (mn b21 b23 b31 b33) (mn b22 b23 b32 b33) (mn b00 b01 b20 b21) (mn b00 b02 b20 b22) (mn b00 b03 b20 b23) (mn b01 b02 b21 b22) (mn b01 b03 b21 b23) (mn b02 b03 b22 b23) = 0 := by unfold pr mn; grind
theorem prv52 (b00 b01 b02 b03 b20 b21 b22 b23 b30 b31 b32 b33 : Int) : pr (mn b20 b21 b30 b31) (mn b20 b22 b30 b32) (mn b20 b23 b30 b33) (mn b21 b22 b31 b32) (mn b21 b23 b31 b33) (mn b22 b23 b32 b33) (mn b00 b01 b30 b31) (mn b00 b02 b30 b32) (mn b00 b03 b30 b33) (mn b01 b02 b31 b32) (mn b01 b03 b31 b33) (mn b02 b03 b32 b33) = 0 := by unfold pr mn; grind
theorem prv53 (b10 b11 b12 b13 b20 b21 b22 b23 b30 b31 b32 b33 : Int) : pr (mn b20 b21 b30 b31) (mn b20 b22 b30 b32) (mn b20 b23 b30 b33) (mn b21 b22 b31 b32) (mn b21 b23 b31 b33) (mn b22 b23 b32 b33) (mn b10 b11 b20 b21) (mn b10 b12 b20 b22) (mn b10 b13 b20 b23) (mn b11 b12 b21 b22) (mn b11 b13 b21 b23) (mn b12 b13 b22 b23) = 0 := by unfold pr mn; grind
theorem prv54 (b10 b11 b12 b13 b20 b21 b22 b23 b30 b31 b32 b33 : Int) : pr (mn b20 b21 b30 b31) (mn b20 b22 b30 b32) (mn b20 b23 b30 b33) (mn b21 b22 b31 b32) (mn b21 b23 b31 b33) (mn b22 b23 b32 b33) (mn b10 b11 b30 b31) (mn b10 b12 b30 b32) (mn b10 b13 b30 b33) (mn b11 b12 b31 b32) (mn b11 b13 b31 b33) (mn b12 b13 b32 b33) = 0 := by unfold pr mn; grind
theorem prv55 (b20 b21 b22 b23 b30 b31 b32 b33 : Int) : pr (mn b20 b21 b30 b31) (mn b20 b22 b30 b32) (mn b20 b23 b30 b33) (mn b21 b22 b31 b32) (mn b21 b23 b31 b33) (mn b22 b23 b32 b33) (mn b20 b21 b30 b31) (mn b20 b22 b30 b32) (mn b20 b23 b30 b33) (mn b21 b22 b31 b32) (mn b21 b23 b31 b33) (mn b22 b23 b32 b33) = 0 := by unfold pr mn; grind
theorem fin_lin (x0 x1 x2 x3 x4 x5 y0 y1 y2 y3 y4 y5 D : Int) : x0*y0*0 + x0*y1*0 + x0*y2*0 + x0*y3*0 + x0*y4*0 + x0*y5*D + x1*y0*0 + x1*y1*0 + x1*y2*0 + x1*y3*0 + x1*y4*-D + x1*y5*0 + x2*y0*0 + x2*y1*0 + x2*y2*0 + x2*y3*D + x2*y4*0 + x2*y5*0 + x3*y0*0 + x3*y1*0 + x3*y2*D + x3*y3*0 + x3*y4*0 + x3*y5*0 + x4*y0*0 + x4*y1*-D + x4*y2*0 + x4*y3*0 + x4*y4*0 + x4*y5*0 + x5*y0*D + x5*y1*0 + x5*y2*0 + x5*y3*0 + x5*y4*0 + x5*y5*0 = pr x0 x1 x2 x3 x4 x5 y0 y1 y2 y3 y4 y5 * D := by unfold pr; grind
set_option maxHeartbeats 4000000 in
theorem d4_mul (a00 a01 a02 a03 a10 a11 a12 a13 a20 a21 a22 a23 a30 a31 a32 a33 b00 b01 b02 b03 b10 b11 b12 b13 b20 b21 b22 b23 b30 b31 b32 b33 : Int) : d4 (a00*b00 + a01*b10 + a02*b20 + a03*b30) (a00*b01 + a01*b11 + a02*b21 + a03*b31) (a00*b02 + a01*b12 + a02*b22 + a03*b32) (a00*b03 + a01*b13 + a02*b23 + a03*b33) (a10*b00 + a11*b10 + a12*b20 + a13*b30) (a10*b01 + a11*b11 + a12*b21 + a13*b31) (a10*b02 + a11*b12 + a12*b22 + a13*b32) (a10*b03 + a11*b13 + a12*b23 + a13*b33) (a20*b00 + a21*b10 + a22*b20 + a23*b30) (a20*b01 + a21*b11 + a22*b21 + a23*b31) (a20*b02 + a21*b12 + a22*b22 + a23*b32) (a20*b03 + a21*b13 + a22*b23 + a23*b33) (a30*b00 + a31*b10 + a32*b20 + a33*b30) (a30*b01 + a31*b11 + a32*b21 + a33*b31) (a30*b02 + a31*b12 + a32*b22 + a33*b32) (a30*b03 + a31*b13 + a32*b23 + a33*b33) = d4 a00 a01 a02 a03 a10 a11 a12 a13 a20 a21 a22 a23 a30 a31 a32 a33 * d4 b00 b01 b02 b03 b10 b11 b12 b13 b20 b21 b22 b23 b30 b31 b32 b33 := by
  rw [d4_pairs ((a00*b00 + a01*b10 + a02*b20 + a03*b30)) ((a00*b01 + a01*b11 + a02*b21 + a03*b31)) ((a00*b02 + a01*b12 + a02*b22 + a03*b32)) ((a00*b03 + a01*b13 + a02*b23 + a03*b33)) ((a10*b00 + a11*b10 + a12*b20 + a13*b30)) ((a10*b01 + a11*b11 + a12*b21 + a13*b31)) ((a10*b02 + a11*b12 + a12*b22 + a13*b32)) ((a10*b03 + a11*b13 + a12*b23 + a13*b33)) ((a20*b00 + a21*b10 + a22*b20 + a23*b30)) ((a20*b01 + a21*b11 + a22*b21 + a23*b31)) ((a20*b02 + a21*b12 + a22*b22 + a23*b32)) ((a20*b03 + a21*b13 + a22*b23 + a23*b33)) ((a30*b00 + a31*b10 + a32*b20 + a33*b30)) ((a30*b01 + a31*b11 + a32*b21 + a33*b31)) ((a30*b02 + a31*b12 + a32*b22 + a33*b32)) ((a30*b03 + a31*b13 + a32*b23 + a33*b33))]
  simp only [cauchy2]
  rw [pr_lin (mn a00 a01 a10 a11) (mn a00 a02 a10 a12) (mn a00 a03 a10 a13) (mn a01 a02 a11 a12) (mn a01 a03 a11 a13) (mn a02 a03 a12 a13) (mn a20 a21 a30 a31) (mn a20 a22 a30 a32) (mn a20 a23 a30 a33) (mn a21 a22 a31 a32) (mn a21 a23 a31 a33) (mn a22 a23 a32 a33) (mn b00 b01 b10 b11) (mn b00 b02 b10 b12) (mn b00 b03 b10 b13) (mn b01 b02 b11 b12) (mn b01 b03 b11 b13) (mn b02 b03 b12 b13) (mn b00 b01 b20 b21) (mn b00 b02 b20 b22) (mn b00 b03 b20 b23) (mn b01 b02 b21 b22) (mn b01 b03 b21 b23) (mn b02 b03 b22 b23) (mn b00 b01 b30 b31) (mn b00 b02 b30 b32) (mn b00 b03 b30 b33) (mn b01 b02 b31 b32) (mn b01 b03 b31 b33) (mn b02 b03 b32 b33) (mn b10 b11 b20 b21) (mn b10 b12 b20 b22) (mn b10 b13 b20 b23) (mn b11 b12 b21 b22) (mn b11 b13 b21 b23) (mn b12 b13 b22 b23) (mn b10 b11 b30 b31) (mn b10 b12 b30 b32) (mn b10 b13 b30 b33) (mn b11 b12 b31 b32) (mn b11 b13 b31 b33) (mn b12 b13 b32 b33) (mn b20 b21 b30 b31) (mn b20 b22 b30 b32) (mn b20 b23 b30 b33) (mn b21 b22 b31 b32) (mn b21 b23 b31 b33) (mn b22 b23 b32 b33), prv00, prv01, prv02, prv03, prv04, prv05, prv10, prv11, prv12, prv13, prv14, prv15, prv20, prv21, prv22, prv23, prv24, prv25, prv30, prv31, prv32, prv33, prv34, prv35, prv40, prv41, prv42, prv43, prv44, prv45, prv50, prv51, prv52, prv53, prv54, prv55, fin_lin, ← d4_pairs]

theorem sumTo_le {n : Nat} {f : Nat → Int} {B : Nat} (h : ∀ i, i < n → (f i).natAbs ≤ B) : (sumTo n f).natAbs ≤ n * B := by
  induction n with
  | zero => simp [sumTo_zero]
  | succ n ih =>
    rw [sumTo_succ, Nat.succ_mul]
    have h1 := ih fun i hi => h i (by omega)
    have h2 := h n (by omega)
    omega
theorem sign_abs (j : Nat) : (1 - 2 * ((j : Int) % 2)).natAbs = 1 := by omega
theorem det_le {n b : Nat} (hn : n ≤ 4) {a : Nat → Nat → Int} (h : ∀ i j, (a i j).natAbs < 2 ^ b) : (det n a).natAbs ≤ 2 ^ (n * (b + 2)) := by
  induction n generalizing a with
  | zero => simp [det0]
  | succ n ih =>
    unfold det
    have h1 := sumTo_le (n := n + 1) (B := 2 ^ b * 2 ^ (n * (b + 2))) (f := fun j => (1 - 2 * ((j : Int) % 2)) * a 0 j * det n (fun r c => a (r + 1) (skp j c))) fun j _ => by
      rw [Int.natAbs_mul, Int.natAbs_mul, sign_abs, Nat.one_mul]
      exact Nat.mul_le_mul (Nat.le_of_lt (h 0 j)) (ih (by omega) fun r c => h (r + 1) (skp j c))
    refine Nat.le_trans h1 ?_
    rw [show (n + 1) * (b + 2) = b + n * (b + 2) + 2 by rw [Nat.succ_mul]; omega, Nat.pow_add, Nat.pow_add, Nat.mul_comm]
    exact Nat.mul_le_mul_left _ (by omega)
theorem det_lt {n b : Nat} (hn : n ≤ 4) (hb : b ≤ 100) {a : Nat → Nat → Int} (h : ∀ i j, (a i j).natAbs < 2 ^ b) : (det n a).natAbs < 2 ^ 500 := by
  refine Nat.lt_of_le_of_lt (det_le hn h) (Nat.pow_lt_pow_right (by decide) ?_)
  have : n * (b + 2) ≤ 4 * 102 := Nat.mul_le_mul hn (by omega)
  omega

/-- the rest of the rows, without the first and without the place i -/
def cut (rows : List (List Int)) (i k : Nat) : List Int := (rows.getD (k + 1) []).take i ++ (rows.getD (k + 1) []).drop (i + 1)
def rest (rows : List (List Int)) (n i : Nat) : List (List Int) := (List.range n).map (cut rows i)
theorem getD_map_range {α : Type} {n : Nat} {f : Nat → α} {k : Nat} {d : α} : ((List.range n).map f).getD k d = if k < n then f k else d := by
  by_cases h : k < n
  · simp [h]
  · simp [h]
theorem getD_cut (r : List Int) (i c : Nat) : (r.take i ++ r.drop (i + 1)).getD c 0 = if i < r.length then r.getD (skp i c) 0 else r.getD c 0 := by
  unfold skp
  by_cases hi : i < r.length
  · rw [if_pos hi]
    by_cases hc : c < i
    · rw [if_pos hc]
      simp only [List.getD_eq_getElem?_getD]
      rw [List.getElem?_append_left (by simp; omega), List.getElem?_take, if_pos hc]
    · rw [if_neg hc]
      simp only [List.getD_eq_getElem?_getD]
      rw [List.getElem?_append_right (by simp; omega), List.getElem?_drop]
      congr 2
      simp; omega
  · rw [if_neg hi, List.take_of_length_le (by omega), List.drop_eq_nil_of_le (by omega), List.append_nil]
theorem ent_rest {rows : List (List Int)} {n i : Nat} (hs : Square rows) (hl : rows.length = n + 1) (hi : i < n + 1) : ent (rest rows n i) = fun r c => ent rows (r + 1) (skp i c) := by
  funext r c
  unfold ent rest
  rw [getD_map_range]
  by_cases hr : r < n
  · rw [if_pos hr]
    unfold cut
    rw [getD_cut, if_pos (by rw [hs _ (by omega)]; omega)]
  · rw [if_neg hr, show rows.getD (r + 1) [] = [] by simp [List.getD, List.getElem?_eq_none (show rows.length ≤ r + 1 by omega)]]
    rfl
theorem rest_len {rows : List (List Int)} {n i : Nat} : (rest rows n i).length = n := by simp [rest]
theorem rest_sq {rows : List (List Int)} {n i : Nat} (hs : Square rows) (hl : rows.length = n + 1) (hi : i < n + 1) : Square (rest rows n i) := fun k hk => by
  rw [rest_len] at hk ⊢
  unfold rest
  rw [getD_map_range, if_pos hk]
  unfold cut
  have := hs (k + 1) (by omega)
  simp only [List.length_append, List.length_take, List.length_drop]
  omega
theorem rest_bits {rows : List (List Int)} {n i b : Nat} (hs : Square rows) (hl : rows.length = n + 1) (hi : i < n + 1) (hB : Bits b rows) : Bits b (rest rows n i) := fun r c => by
  rw [ent_rest hs hl hi]; exact hB _ _
theorem det_rows {rows : List (List Int)} {n : Nat} (hs : Square rows) (hl : rows.length = n + 1) :
    det (n + 1) (ent rows) = sumTo (n + 1) fun j => (1 - 2 * ((j : Int) % 2)) * ent rows 0 j * det n (ent (rest rows n j)) := by
  rw [show det (n + 1) (ent rows) = sumTo (n + 1) fun j => (1 - 2 * ((j : Int) % 2)) * ent rows 0 j * det n (fun r c => ent rows (r + 1) (skp j c)) from rfl]
  exact sumTo_congr fun j hj => by rw [ent_rest hs hl hj]

section
variable {prog : Program} {w : World} {A : Around} {E : Value → Shared → Prop} {s : Shared} {env : Env} {h₀ : Heap} {x : Str} {px : Pos} {body : List Stmt} {Q : Flow → Shared → Prop} {m : Str → Option Value} {news : Led}

theorem for_walksC {I c : Addr} {n : Nat} {P : Nat → Value → Prop} {St : Nat → Heap → Prop} (W : Walks prog w A I [I] [I] n P St) (xs : List Str) (J : Nat → (Str → Option Value) → Led → Prop)
    (hE : PassesOwn (model prog w) A env E) (hk : env.scope.kind = .function) (hx : env.kindOf x = some .cell) (hc : env.cells.lookup x = some c)
    (hlv : ∀ i h, St i h → ∃ o, h.get? I = some o) (hLI : env.locals ≠ I) (hI : h₀.get? I = none) (hnI : ∀ p ∈ news, p.1 ≠ I) (hst : St 0 s.heap) (F : Fr h₀ env.locals s.heap m) (N : News h₀ env.locals s.heap news) (hJ : J 0 m news) (hJc : ∀ i u nx, J i u nx → ∃ o v, (c, o) ∈ nx ∧ o.data = .cell v)
    (turn : ∀ (i : Nat) v u news₁ news₂ own h tk, i < n → P i v → J i u news₁ → SubBut [c] news₁ news₂ → (∀ p ∈ news₂, p.1 = c ∨ p ∈ news₁) → CellIn news₂ c v → (∀ p ∈ news₂, p.1 ≠ I) → (∀ p ∈ own, p.1 = I) → (∃ o, (I, o) ∈ own) → c ≠ I →
      Fr h₀ env.locals h (fun y => if y ∈ xs then u y else m y) → News h₀ env.locals h (own ++ news₂) →
      wpAny (model prog w) A (execs body env) (TurnEnd h₀ env.locals I own (fun m' nx => KeepBut xs m m' ∧ J (i + 1) m' nx) { s with heap := h, toks := tk } Q) E { s with heap := h, toks := tk })
    (done : ∀ u news₁ h tk, J n u news₁ → Fr h₀ env.locals h (fun y => if y ∈ xs then u y else m y) → News h₀ env.locals h news₁ → Q .next { s with heap := h, toks := tk }) :
    codeAny (model prog w) A (.forLoop (.Name x px) (.ref I) body [] env) (fun r s' => match r with | .ok f => Q f s' | .error e => cameBackBy (model prog w) A env E e s') s := by
  have hLf : env.locals ∉ [I] := fun h => hLI (List.mem_singleton.mp h)
  have hwr : ∀ b ∈ [I], h₀.get? b = none := fun b hb => by rw [List.mem_singleton.mp hb]; exact hI
  have old : ∀ b o, h₀.get? b = some o → b ∉ [I] := fun b o q hb => by rw [hwr b hb] at q; cases q
  refine codeAny_forLoop_any
    (fun k s' => ∃ h' tk m' news' , ∃ i : Nat, s' = { s with heap := h', toks := tk } ∧ St i h' ∧ Fr h₀ env.locals h' m' ∧ News h₀ env.locals h' news' ∧ (∀ p ∈ news', p.1 ≠ I) ∧ (KeepBut xs m m' ∧ J i m' news') ∧ i ≤ n ∧ k = n + 1 - i) ?_ (n + 1)
    ⟨s.heap, s.toks, m, news, 0, rfl, hst, F, N, hnI, ⟨KeepBut.refl, hJ⟩, Nat.zero_le _, rfl⟩
  rintro k s' ⟨G, tk, m', news', i, rfl, hst', F', N', hoff, ⟨hkb, hJ'⟩, hi, rfl⟩
  have next : ∀ h₁ : Heap, (∀ b o, b ∉ [I] → G.get? b = some o → h₁.get? b = some o) → Fr h₀ env.locals h₁ m' ∧ News h₀ env.locals h₁ news' := fun h₁ hk₁ =>
    ⟨⟨F'.ns.at' fun o q => hk₁ _ o hLf q, fun b o q => hk₁ b o (old b o q) (F'.keep b o q), F'.above⟩, fun p hp => ⟨hk₁ _ _ (fun q => hoff p hp (List.mem_singleton.mp q)) (N' p hp).1, (N' p hp).2⟩⟩
  by_cases hlt : i < n
  · refine W.item i _ _ _ hlt hst' fun v h₃ tk₁ hP hst₃ hk₁ => ?_
    refine wpAny_pure ?_
    obtain ⟨F₃, N₃⟩ := next h₃ hk₁
    obtain ⟨oc, vc, hmc, hdc⟩ := hJc _ _ _ hJ'
    have hcm := N₃ _ hmc
    have hcI : c ≠ I := hoff _ hmc
    refine wpAny_assign_Name (wpAny_storeName_cell hk hx hc ⟨oc, hcm.1, hdc⟩ fun h₄ hv₄ hs₄ => ?_)
    replace hs₄ : Heap.SameBut c h₃ h₄ := hs₄
    obtain ⟨oc', ec', dc'⟩ := hv₄
    have F₄ : Fr h₀ env.locals h₄ m' := ⟨F₃.ns.sameBut hs₄ (Ne.symm hcm.2.1), fun b ob q => (hs₄.2 b fun z => by rw [z, hcm.2.2] at q; cases q).trans (F₃.keep b ob q), F₃.above⟩
    have N₄ : News h₀ env.locals h₄ ((c, oc') :: off c news') := fun p hp => by
      rcases List.mem_cons.mp hp with rfl | hp
      · exact ⟨ec', hcm.2⟩
      · obtain ⟨hp, hne⟩ := mem_off.mp hp
        exact ⟨(hs₄.2 _ hne).trans (N₃ p hp).1, (N₃ p hp).2⟩
    have S₄ : SubBut [c] news' ((c, oc') :: off c news') := fun p hp hn => List.mem_cons_of_mem _ (mem_off.mpr ⟨hp, fun q => hn (by simp [q])⟩)
    have O₄ : ∀ p ∈ ((c, oc') :: off c news'), p.1 = c ∨ p ∈ news' := fun p hp => by
      rcases List.mem_cons.mp hp with rfl | hp
      · exact .inl rfl
      · exact .inr (mem_off.mp hp).1
    have C₄ : CellIn ((c, oc') :: off c news') c v := ⟨oc', .head _, dc'⟩
    have hst₄ := W.frame (i + 1) h₃ h₄ hst₃ fun b hb o q => (hs₄.2 b fun z => hcI (z ▸ List.mem_singleton.mp hb)).trans q
    generalize ((c, oc') :: off c news') = nw₄ at N₄ S₄ O₄ C₄
    have off₄ : ∀ p ∈ nw₄, p.1 ≠ I := fun p hp hq => by
      rcases O₄ p hp with q | q
      · exact hcI (q ▸ hq)
      · exact hoff p q hq
    have hkb' : m' = fun y => if y ∈ xs then m' y else m y := hkb.eq
    refine wpAny_mono (wpAny_passesOwn hE (turn i v m' news' nw₄ (ownOf h₀ [I] h₄) h₄ _ hlt hP hJ' S₄ O₄ C₄ off₄ (fun p hp => List.mem_singleton.mp (ownOf_sub p hp)) (let ⟨o, ho⟩ := hlv _ _ hst₄; ⟨o, mem_ownOf (.head _) hI ho⟩) hcI (hkb' ▸ F₄) ((news_ownOf hLf).append N₄))) (fun f s₃ h₆ => ?_) fun _ _ q => q
    have go : (∃ h' tk m'' nw', s₃ = { s with heap := h', toks := tk } ∧ Fr h₀ env.locals h' m'' ∧ News h₀ env.locals h' nw' ∧ Sub (ownOf h₀ [I] h₄) nw' ∧ KeepBut xs m m'' ∧ J (i + 1) m'' (off I nw')) →
        ∃ k, k < n + 1 - i ∧ ∃ h' tk m' news' , ∃ i : Nat, s₃ = { s with heap := h', toks := tk } ∧ St i h' ∧ Fr h₀ env.locals h' m' ∧ News h₀ env.locals h' news' ∧ (∀ p ∈ news', p.1 ≠ I) ∧ (KeepBut xs m m' ∧ J i m' news') ∧ i ≤ n ∧ k = n + 1 - i := by
      rintro ⟨g₆, tk₆, m₂, nw₆, rfl, F₆, N₆, ho₆, hk₆, hJ₆⟩
      refine ⟨n + 1 - (i + 1), by omega, g₆, tk₆, m₂, off I nw₆, i + 1, rfl, ?_, F₆, fun p hp => N₆ p (mem_off.mp hp).1, fun p hp => (mem_off.mp hp).2, ⟨hk₆, hJ₆⟩, hlt, rfl⟩
      refine W.frame _ _ _ hst₄ fun b hb o q => ?_
      cases hn : h₀.get? b with
      | some o₀ =>
        have : o₀ = o := by have z := F₄.keep b o₀ hn; rw [q] at z; exact (Option.some.inj z).symm
        exact this ▸ F₆.keep b o₀ hn
      | none => exact (N₆ _ (ho₆ _ (mem_ownOf hb hn q))).1
    cases f with
    | ret v => exact h₆
    | brk => exact h₆
    | cont => exact go h₆
    | next => exact go h₆
  · have hin : i = n := by omega
    subst hin
    refine W.done _ _ _ hst' fun h₁ tk₁ hk₁ => wpAny_execs_nil ?_
    obtain ⟨F₁, N₁⟩ := next h₁ hk₁
    exact done m' news' h₁ tk₁ hJ' (hkb.eq ▸ F₁) N₁

theorem for_rangeC {r c : Addr} {a b : Int} {t u v : Tok} (n : Nat) (xs : List Str) (J : Nat → (Str → Option Value) → Led → Prop) (hh : A.handled = none) (hr : IsRange s.heap r a b 1 t u v) (hsmall : Builtin.Range.small a b 1 = true) (hn : (b - a).toNat = n)
    (hE : PassesOwn (model prog w) A env E) (hk : env.scope.kind = .function) (hx : env.kindOf x = some .cell) (hc : env.cells.lookup x = some c)
    (F : Fr h₀ env.locals s.heap m) (N : News h₀ env.locals s.heap news) (hJ : J 0 m news) (hJc : ∀ i u nx, J i u nx → ∃ o v, (c, o) ∈ nx ∧ o.data = .cell v)
    (turn : ∀ I (i : Nat) t u news₁ news₂ own h tk, i < n → J i u news₁ → SubBut [c] news₁ news₂ → (∀ p ∈ news₂, p.1 = c ∨ p ∈ news₁) → CellIn news₂ c (.int (a + (i : Int)) t) → (∀ p ∈ news₂, p.1 ≠ I) → (∀ p ∈ own, p.1 = I) → (∃ o, (I, o) ∈ own) → c ≠ I →
      Fr h₀ env.locals h (fun y => if y ∈ xs then u y else m y) → News h₀ env.locals h (own ++ news₂) →
      wpAny (model prog w) A (execs body env) (TurnEnd h₀ env.locals I own (fun m' nx => KeepBut xs m m' ∧ J (i + 1) m' nx) { s with heap := h, toks := tk } Q) E { s with heap := h, toks := tk })
    (done : ∀ u news₁ h tk, J n u news₁ → Fr h₀ env.locals h (fun y => if y ∈ xs then u y else m y) → News h₀ env.locals h news₁ → Q .next { s with heap := h, toks := tk }) :
    wpAny (model prog w) A (pyIter (.ref r)) (fun it s₂ => codeAny (model prog w) A (.forLoop (.Name x px) it body [] env) (fun r s' => match r with | .ok f => Q f s' | .error e => cameBackBy (model prog w) A env E e s') s₂) E s := by
  subst hn
  refine wpAny_pyIter_range hr hsmall ?_
  refine for_walksC (n := (b - a).toNat) (LCg.range_walks hh a _) xs J hE hk hx hc (fun i h st => ⟨_, st⟩) ?_ (next_is_new F) (fun p hp e => absurd (Heap.lt_size (N p hp).1) (by rw [e]; exact Nat.lt_irrefl _)) (by show IsRangeIter _ _ _ _ _; rw [rangeSize_nat]; simpa using Heap.get?_push_size _ rfl) (F.push _) (N.pushKeep _) hJ hJc ?_ ?_
  · intro e
    exact absurd F.ns.lt (e ▸ Nat.lt_irrefl _)
  · rintro i v u news₁ news₂ own h tk hi ⟨t, rfl⟩ hJ₁ hS hO hC hI ho hl hcI F₁ N₁
    exact turn _ i t u news₁ news₂ own h tk hi hJ₁ hS hO hC hI ho hl hcI F₁ N₁
  · intro u news₁ h tk hJ₁ F₁ N₁
    exact done u news₁ h tk hJ₁ F₁ N₁
end

/-- what the call of a def from the top does: it gives True -/
def TopDoes (w : World) (f : Addr) (d u : Nat) (vs : List Value) (src : Addr) (its : Array Value) : Prop :=
  ∀ (dp un : Nat) (fr : Option (List Env)) (gd : Option (List Code)) (s : Shared) (Q E : Value → Shared → Prop),
    (hd.heap_39 w.params).In s.heap → (∃ p loose mean mg mb, Top p loose mean mg mb s.heap) → s.heap.IsList src its → dp + d < recursionLimit → un + u < cLine →
    (∀ h' tk' L m, Fr s.heap L h' m → Q (.bool true) { s with heap := h', toks := tk' }) →
    wpAny (model PySem.Challenge.rw_nn0245_01.row.prog w) (Ar dp un fr gd) (call (.ref f) vs) Q E s

theorem top_cells {w : World} {f : Addr} {d u : Nat} {vs : List Value} {src : Addr} {its : Array Value}
    {name qual : Str} {params : Arguments} {body : List Stmt} {scope : Scope} {dV kV doc pm cdv ct oc : Value} {an od : Option Addr} {osl : Array (Option Value)} {binds : List (Str × Value)}
    (ho : (hd.heap_39 w.params).lookup f = some ⟨oc, od, .func (fnOf name qual params body scope dV kV doc pm an cdv ct), osl⟩) (hcd : codeIn (hd.heap_39 w.params) cdv qual = true)
    (hbind : ∀ s, BindsTo s (fnOf name qual params body scope dV kV doc pm an cdv ct) ⟨vs, []⟩ binds)
    (hkind : (binds.all fun y => scope.names.lookup y.1 == some .local || scope.names.lookup y.1 == some .cell) = true)
    (hnd : ((cellsFrom 0 scope.names []).map (·.1)).Nodup) (hco : scope.isCoroutine = false) (hgen : scope.isGenerator = false) (hk : scope.kind = .function)
    (h : ∀ (dp un : Nat) (fr : Option (List Env)) (gd : Option (List Code)) (g : Heap) (L : Addr) (h₁ : Heap) (tk : Nat) (s : Shared) (cells : List (Addr × Obj)), dp + d < recursionLimit + 1 → un + u < cLine + 3 →
      Fr g L h₁ (bindL (envOfC qual scope L f cdv).kindOf binds fun _ => none) → (hd.heap_39 w.params).In g → (∃ p loose mean mg mb, Top p loose mean mg mb g) → g.IsList src its → News g L h₁ cells →
      CellsAre (bindC (envOfC qual scope L f cdv).kindOf binds fun _ => none) (cellsFrom (L + 1) scope.names []) cells →
      wpAny (model PySem.Challenge.rw_nn0245_01.row.prog w) (Ar dp un fr gd) (execs body (envOfC qual scope L f cdv)) (BodyEnd g L s fun _ v => v = .bool true) (fun _ _ => False) { s with heap := h₁, toks := tk }) (hd0 : 0 < d) : TopDoes w f d u vs src its := by
  intro dp un fr gd s Q E X T HS hdp hun ret
  refine wpAny_call ?_
  obtain ⟨p, lo, me, mg, mb, T⟩ := T
  refine codeAny_call_function (by show dp < _; omega) (X _ _ ho) rfl hco hgen rfl (codeRec_of X hcd) (hbind s _ _ _ _ ?_)
  refine wpAny_newFunctionEnv_cells hk (kindsX hkind _) fun env' he s' x => ?_
  subst he
  refine ⟨T.nolimit.keeps x.toInCall.keep, codeAny_func ?_⟩
  obtain ⟨h₁, tk, rfl, _⟩ := x.done
  have hk₁ := x.toInCall.keep
  obtain ⟨cells, NC, Y⟩ := Cl.news (h₀ := s.heap) (Nat.le_refl _) fun n c hm => ⟨x.cell n c (lookup_of_mem_nodup (cellsFrom_names scope.names 0 (s.heap.objs.size + 1) [] [] rfl ▸ hnd) hm), x.above n c hm⟩
  refine wpAny_mono (h (dp + 1) (un + 3) _ gd s.heap s.heap.objs.size h₁ _ s cells (by omega) (by omega) ⟨x.toInCall.ns, hk₁, Nat.le_refl _⟩ X ⟨p, lo, me, mg, mb, T⟩ HS NC Y) (fun fl s' hl => ?_) (fun _ _ y => y.elim)
  obtain ⟨h', tk', m', news', rfl, F', N', hO⟩ := hl
  have := ret h' tk' _ _ F'
  rw [← hO] at this
  exact this

theorem sq_of {M : List (List Int)} {n : Nat} (hl : M.length = n) (h : ∀ r ∈ M, r.length = n ∧ ∀ z ∈ r, z.natAbs ≤ 36) : Square M := fun i hi => by
  rw [show M.getD i [] = M[i] by simp [hi], hl]
  exact (h _ (List.getElem_mem hi)).1
theorem bits_of {M : List (List Int)} {n : Nat} (h : ∀ r ∈ M, r.length = n ∧ ∀ z ∈ r, z.natAbs ≤ 36) : Bits 6 M := fun i j => by
  unfold ent
  by_cases hi : i < M.length
  · rw [show M.getD i [] = M[i] by simp [hi]]
    by_cases hj : j < M[i].length
    · rw [show M[i].getD j 0 = M[i][j] by simp [hj]]
      exact Nat.lt_of_le_of_lt ((h _ (List.getElem_mem hi)).2 _ (List.getElem_mem hj)) (by decide)
    · rw [show M[i].getD j 0 = 0 by simp [hj]]; decide
  · rw [show M.getD i [] = [] by simp [hi], show ([] : List Int).getD j 0 = 0 by simp]; decide
theorem Bits.mono {b c : Nat} {M : List (List Int)} (h : Bits b M) (e : b ≤ c) : Bits c M := fun i j => Nat.lt_of_lt_of_le (h i j) (Nat.pow_le_pow_right (by decide) e)
theorem cells_ne {a c : Addr} (h : a ≠ c) : a ∉ [c] := fun e => h (List.mem_singleton.mp e)

/-- a square grid by its entries -/
def mk (n : Nat) (f : Nat → Nat → Int) : List (List Int) := (List.range n).map fun i => (List.range n).map fun j => f i j
theorem mk_len {n : Nat} {f : Nat → Nat → Int} : (mk n f).length = n := by simp [mk]
theorem mk_sq {n : Nat} {f : Nat → Nat → Int} : Square (mk n f) := fun i hi => by
  rw [mk_len] at hi ⊢
  unfold mk
  rw [getD_map_range, if_pos hi]; simp
theorem mk_ent {n : Nat} {f : Nat → Nat → Int} {i j : Nat} : ent (mk n f) i j = if i < n ∧ j < n then f i j else 0 := by
  unfold mk
  rw [ent, getD_map_range]
  by_cases hi : i < n
  · rw [if_pos hi, getD_map_range]
    by_cases hj : j < n
    · rw [if_pos hj, if_pos ⟨hi, hj⟩]
    · rw [if_neg hj, if_neg (fun h => hj h.2)]
  · rw [if_neg hi, if_neg (fun h => hi h.1)]; rfl
theorem mk_bits {n b : Nat} {f : Nat → Nat → Int} (h : ∀ i j, i < n → j < n → (f i j).natAbs < 2 ^ b) : Bits b (mk n f) := fun i j => by
  rw [mk_ent]
  split
  · rename_i hh; exact h i j hh.1 hh.2
  · exact Nat.two_pow_pos b
theorem mk_det {n : Nat} {f : Nat → Nat → Int} : det n (ent (mk n f)) = det n f := det_congr fun i j hi hj => by rw [mk_ent, if_pos ⟨hi, hj⟩]
theorem mk_congr {n : Nat} {f g : Nat → Nat → Int} (h : ∀ i j, i < n → j < n → f i j = g i j) : mk n f = mk n g :=
  List.map_congr_left fun i hi => List.map_congr_left fun j hj => h i j (List.mem_range.mp hi) (List.mem_range.mp hj)
theorem sum_bits {n b : Nat} (h4 : n ≤ 4) {f g : Nat → Int} (hf : ∀ i, (f i).natAbs < 2 ^ b) (hg : ∀ i, (g i).natAbs < 2 ^ b) : (sumTo n fun k => f k * g k).natAbs < 2 ^ (2 * b + 3) := by
  refine Nat.lt_of_le_of_lt (sumTo_le (B := 2 ^ b * 2 ^ b) fun i _ => ?_) ?_
  · rw [Int.natAbs_mul]
    exact Nat.mul_le_mul (Nat.le_of_lt (hf i)) (Nat.le_of_lt (hg i))
  · rw [← Nat.pow_add, show 2 * b + 3 = b + b + 3 by omega, Nat.pow_succ, Nat.pow_succ, Nat.pow_succ]
    have : 0 < 2 ^ (b + b) := Nat.two_pow_pos _
    have : n * 2 ^ (b + b) ≤ 4 * 2 ^ (b + b) := Nat.mul_le_mul_right _ h4
    omega
theorem det_mul {n : Nat} (h : n ≤ 4) (a b : Nat → Nat → Int) : det n (fun i j => sumTo n fun k => a i k * b k j) = det n a * det n b := by
  rcases five h with rfl | rfl | rfl | rfl | rfl
  · rfl
  · simp only [det1, sumTo_succ, sumTo_zero]; grind
  · simp only [det2, sumTo_succ, sumTo_zero]; grind
  · simp only [det3, sumTo_succ, sumTo_zero, d3]; grind
  · simp only [det4, sumTo_succ, sumTo_zero, Int.zero_add]
    exact d4_mul ..
/-- the signed minors, turned -/
def adjF (n : Nat) (a : Nat → Nat → Int) (r c : Nat) : Int := (1 - 2 * (((r : Int) + (c : Int)) % 2)) * det (n - 1) (fun i j => a (skp c i) (skp r j))
theorem adj_right {n i j : Nat} (h : n ≤ 3) (hi : i < n) (hj : j < n) (a : Nat → Nat → Int) : (sumTo n fun k => a i k * adjF n a k j) = if j = i then det n a else 0 := by
  unfold adjF
  obtain rfl | rfl | rfl : n = 1 ∨ n = 2 ∨ n = 3 := by omega
  · obtain rfl : i = 0 := by omega
    obtain rfl : j = 0 := by omega
    simp [sumTo_succ, sumTo_zero, det0, det1]
  · obtain rfl | rfl : i = 0 ∨ i = 1 := by omega
    all_goals obtain rfl | rfl : j = 0 ∨ j = 1 := by omega
    all_goals (simp [sumTo_succ, sumTo_zero, det1, det2, skp]; try grind)
  · obtain rfl | rfl | rfl : i = 0 ∨ i = 1 ∨ i = 2 := by omega
    all_goals obtain rfl | rfl | rfl : j = 0 ∨ j = 1 ∨ j = 2 := by omega
    all_goals (simp [sumTo_succ, sumTo_zero, det2, det3, skp, d3]; try grind)
theorem adj_left {n i j : Nat} (h : n ≤ 3) (hi : i < n) (hj : j < n) (a : Nat → Nat → Int) : (sumTo n fun k => adjF n a i k * a k j) = if j = i then det n a else 0 := by
  unfold adjF
  obtain rfl | rfl | rfl : n = 1 ∨ n = 2 ∨ n = 3 := by omega
  · obtain rfl : i = 0 := by omega
    obtain rfl : j = 0 := by omega
    simp [sumTo_succ, sumTo_zero, det0, det1]
  · obtain rfl | rfl : i = 0 ∨ i = 1 := by omega
    all_goals obtain rfl | rfl : j = 0 ∨ j = 1 := by omega
    all_goals (simp [sumTo_succ, sumTo_zero, det1, det2, skp]; try grind)
  · obtain rfl | rfl | rfl : i = 0 ∨ i = 1 ∨ i = 2 := by omega
    all_goals obtain rfl | rfl | rfl : j = 0 ∨ j = 1 ∨ j = 2 := by omega
    all_goals (simp [sumTo_succ, sumTo_zero, det2, det3, skp, d3]; try grind)

local macro_rules | `(tactic| walk_at "sub0") => `(tactic| first
  | (exact Sub.refl)
  | (assumption)
  | ((intro p hp; (try simp only [List.mem_cons, List.mem_append, List.not_mem_nil, or_false] at hp ⊢); first | assumption | (simp only [hp, true_or, or_true]; done) | (rcases hp with hp | hp <;> simp only [hp, true_or, or_true, eq_self] <;> done) | (rcases hp with hp | hp | hp <;> simp only [hp, true_or, or_true, eq_self] <;> done))))
local macro_rules | `(tactic| walk_at "sub") => `(tactic| first
  | (walk_at "sub0")
  | ((refine Sub.trans ?s1 (by assumption); walk_at "sub0"))
  | ((refine Sub.trans ?s1 (Sub.trans (by assumption) (by assumption)); walk_at "sub0"))
  | ((refine Sub.trans (Sub.trans ?s1 (by assumption)) (by walk_at "sub0"); walk_at "sub0")))
local macro_rules | `(tactic| walk_at "go") => `(tactic| first
  | (with_reducible refine wpAny_execs_cons ?_)
  | (with_reducible refine wpAny_execs_nil ?_)
  | ((with_reducible show wpAny _ _ (eval (Expr.Name _ _) _) _ _ _); first | ((with_reducible refine' n_pivot_row ?F ?X ?T ?g ?k ?x ?_); (case F => assumption); (case X => assumption); (case T => assumption); (case g => kernel_rfl); (case k => kernel_rfl); (case x => kernel_rfl)) | ((with_reducible refine' n_bareiss_step ?F ?X ?T ?g ?k ?x ?_); (case F => assumption); (case X => assumption); (case T => assumption); (case g => kernel_rfl); (case k => kernel_rfl); (case x => kernel_rfl)) | ((with_reducible refine' n_determinant ?F ?X ?T ?g ?k ?x ?_); (case F => assumption); (case X => assumption); (case T => assumption); (case g => kernel_rfl); (case k => kernel_rfl); (case x => kernel_rfl)) | ((with_reducible refine' n_minor ?F ?X ?T ?g ?k ?x ?_); (case F => assumption); (case X => assumption); (case T => assumption); (case g => kernel_rfl); (case k => kernel_rfl); (case x => kernel_rfl)) | ((with_reducible refine' n_adjugate ?F ?X ?T ?g ?k ?x ?_); (case F => assumption); (case X => assumption); (case T => assumption); (case g => kernel_rfl); (case k => kernel_rfl); (case x => kernel_rfl)) | ((with_reducible refine' n_leading_minors ?F ?X ?T ?g ?k ?x ?_); (case F => assumption); (case X => assumption); (case T => assumption); (case g => kernel_rfl); (case k => kernel_rfl); (case x => kernel_rfl)) | ((with_reducible refine' n_law_take ?F ?X ?T ?g ?k ?x ?_); (case F => assumption); (case X => assumption); (case T => assumption); (case g => kernel_rfl); (case k => kernel_rfl); (case x => kernel_rfl)) | ((with_reducible refine' n_law_box ?F ?X ?T ?g ?k ?x ?_); (case F => assumption); (case X => assumption); (case T => assumption); (case g => kernel_rfl); (case k => kernel_rfl); (case x => kernel_rfl)) | ((with_reducible refine' n_law_whole ?F ?X ?T ?g ?k ?x ?_); (case F => assumption); (case X => assumption); (case T => assumption); (case g => kernel_rfl); (case k => kernel_rfl); (case x => kernel_rfl)) | ((with_reducible refine' n_law_grid ?F ?X ?T ?g ?k ?x ?_); (case F => assumption); (case X => assumption); (case T => assumption); (case g => kernel_rfl); (case k => kernel_rfl); (case x => kernel_rfl)) | ((with_reducible refine' n_law_det ?F ?X ?T ?g ?k ?x ?_); (case F => assumption); (case X => assumption); (case T => assumption); (case g => kernel_rfl); (case k => kernel_rfl); (case x => kernel_rfl)) | ((with_reducible refine' n_law_times ?F ?X ?T ?g ?k ?x ?_); (case F => assumption); (case X => assumption); (case T => assumption); (case g => kernel_rfl); (case k => kernel_rfl); (case x => kernel_rfl)) | ((with_reducible refine' n_range ?F ?X ?T ?g ?b ?k ?x ?_); (case F => assumption); (case X => assumption); (case T => assumption); (case g => kernel_rfl); (case b => kernel_rfl); (case k => kernel_rfl); (case x => kernel_rfl)) | ((with_reducible refine' n_len ?F ?X ?T ?g ?b ?k ?x ?_); (case F => assumption); (case X => assumption); (case T => assumption); (case g => kernel_rfl); (case b => kernel_rfl); (case k => kernel_rfl); (case x => kernel_rfl)) | ((with_reducible refine' n_sum ?F ?X ?T ?g ?b ?k ?x ?_); (case F => assumption); (case X => assumption); (case T => assumption); (case g => kernel_rfl); (case b => kernel_rfl); (case k => kernel_rfl); (case x => kernel_rfl)) | ((with_reducible refine' n_enumerate ?F ?X ?T ?g ?b ?k ?x ?_); (case F => assumption); (case X => assumption); (case T => assumption); (case g => kernel_rfl); (case b => kernel_rfl); (case k => kernel_rfl); (case x => kernel_rfl)) | ((with_reducible refine' n_list ?F ?X ?T ?g ?b ?k ?x ?_); (case F => assumption); (case X => assumption); (case T => assumption); (case g => kernel_rfl); (case b => kernel_rfl); (case k => kernel_rfl); (case x => kernel_rfl)) | ((with_reducible refine' nm_l2 ?F ?L ?k ?x ?d ?v ?_); (case L => exact rfl); (case F => assumption); (case k => kernel_rfl); (case x => kernel_rfl); (case d => kernel_rfl); (case v => first | with_unfolding_all rfl | with_unfolding_all assumption)) | ((with_reducible refine' nm_kS ?N ?C ?S ?m ?k ?x ?d ?v ?_); (case N => assumption); (case C => assumption); (case S => walk_at "sub"); (case m => assumption); (case k => kernel_rfl); (case x => kernel_rfl); (case d => kernel_rfl); (case v => assumption)) | ((with_reducible refine' nm_c ?N ?k ?x ?c ?d ?v ?S ?_); (case N => assumption); (case k => kernel_rfl); (case x => kernel_rfl); (case c => with_unfolding_all rfl); (case d => kernel_rfl); (case v => assumption); (case S => walk_at "sub")) | ((with_reducible refine' nm_f ?N ?k ?x ?c ?d ?n ?v ?S ?_); (case N => assumption); (case k => kernel_rfl); (case x => kernel_rfl); (case c => with_unfolding_all rfl); (case d => kernel_rfl); (case n => kernel_rfl); (case v => assumption); (case S => walk_at "sub")))
  | ((with_reducible refine' const_i ?_); intro t' tk')
  | (with_reducible refine wpAny_BinOp ?_)
  | (with_reducible refine Subscript_ ?_)
  | ((with_reducible show wpAny _ _ (eval (Expr.Call (Expr.Attribute _ _ _) _ _ _) _) _ _ _); refine MethodCall_ ?_)
  | ((with_reducible refine' Call_ ?_ ?c); (case c => exact rfl))
  | ((with_reducible refine' spliced_more ?_ ?c); (case c => exact rfl))
  | (with_reducible refine spliced_none ?_)
  | ((with_reducible refine' PyProof.Rows.callWith_builtin1 ?_ ?a ?b); (case a => exact rfl); (case b => exact rfl))
  | ((with_reducible refine' PyProof.Rows.callWith_type1 ?_ ?a ?b); (case a => exact rfl); (case b => exact rfl))
  | ((with_reducible refine' callWith_method1 ?_ ?a ?b); (case a => exact rfl); (case b => exact rfl))
  | (with_reducible refine callWith_method0 ?_)
  | ((with_reducible refine' callWith_K ?X ?k ?_ ?a ?b); (case X => assumption); (case k => kernel_rfl); (case a => exact rfl); (case b => exact rfl))
  | ((with_reducible refine' k_now ?X ?F ?_); (case X => assumption); (case F => assumption))
  | ((with_reducible refine' add_i ?_); intro t' tk')
  | ((with_reducible refine' sub_i ?_); intro t' tk')
  | (with_reducible refine ne_int ?_)
  | (with_reducible refine eq_int ?_)
  | (with_reducible refine gt_int ?_)
  | (with_reducible refine lt_int ?_)
  | ((with_reducible refine' neg_i ?_); intro t' tk')
  | ((with_reducible refine' comp_asg ?w ?c ?k ?n ?s ?_); (case w => with_unfolding_all rfl); (case c => with_unfolding_all rfl); (case k => exact rfl); (case n => decide); (case s => intro _; exact rfl))
  | ((with_reducible refine' comp_expr ?c ?k ?n ?s ?_); (case c => with_unfolding_all rfl); (case k => exact rfl); (case n => decide); (case s => intro _; exact rfl))
  | ((with_reducible refine' wpAny_Assign_Name ?_ ?c); (case c => exact rfl))
  | ((with_reducible refine' wpAny_Assign_Subscript ?_ ?c); (case c => exact rfl))
  | ((with_reducible show wpAny _ _ (storeName _ _ _) _ _ _); (rename Fr _ _ _ _ => oF); (rename News _ _ _ _ => oN); (with_reducible refine' st_l ?F ?N ?L ?x ?p ?_); (case L => exact rfl); (case F => exact oF); (case N => exact oN); (case x => kernel_rfl!); (case p => kernel_rfl); clear oF oN; intro h' tk' F' N')
  | (with_reducible refine wpAny_If ?_)
  | ((with_reducible refine' wpAny_isTrue_Compare1 ?_ ?c); (case c => exact rfl))
  | ((with_reducible refine' wpAny_Compare1 ?_ ?c); (case c => exact rfl))
  | (with_reducible refine wpAny_truthy_bool ?_)
  | (with_reducible refine wpAny_Return_some ?_)
  | (with_reducible refine wpAny_Constant_none ?_)
  | (with_reducible refine Constant_bool ?_)
  | (with_reducible refine UnaryOp_ ?_)
  | (with_reducible refine IfExp_ ?_)
  | (with_reducible refine Tuple_ ?_)
  | (with_reducible refine List_ ?_)
  | (with_reducible refine BoolOp_and ?_)
  | (with_reducible refine BoolOp_or ?_)
  | (with_reducible refine BoolOp_one ?_)
  | ((with_reducible show wpAny _ _ (call (Value.type "range") [_, _]) _ _ _); (rename Fr _ _ _ _ => oF); (rename News _ _ _ _ => oN); (with_reducible refine' range_2 ?F ?N ?_); (case F => exact oF); (case N => exact oN); clear oF oN; intro r' h' tk' v' R' F' N')
  | ((with_reducible show wpAny _ _ (call (Value.type "range") [_]) _ _ _); (rename Fr _ _ _ _ => oF); (rename News _ _ _ _ => oN); (with_reducible refine' range_1 ?F ?N ?_); (case F => exact oF); (case N => exact oN); clear oF oN; intro r' h' tk' t' v' R' F' N')
  | ((with_reducible show wpAny _ _ (newTuple _) _ _ _); (rename Fr _ _ _ _ => oF); (rename News _ _ _ _ => oN); (with_reducible refine' new_t ?F ?N ?z ?_); (case F => exact oF); (case N => exact oN); (case z => size_fits); clear oF oN; intro D' h' F' N' f')
  | ((with_reducible show wpAny _ _ (newList _) _ _ _); (rename Fr _ _ _ _ => oF); (rename News _ _ _ _ => oN); (with_reducible refine' new_l ?F ?N ?z ?_); (case F => exact oF); (case N => exact oN); (case z => size_fits); clear oF oN; intro D' h' F' N' f')
  | ((with_reducible refine' for_of ?F ?x ?p ?_ ?s ?e); (case F => assumption); (case x => kernel_rfl!); (case p => kernel_rfl); (case s => intro _; exact rfl); (case e => passes_own))
  | (with_reducible refine wpAny_Slice ?_)
  | (with_reducible refine evalPart_none_step ?_)
  | (with_reducible refine evalPart_some_step ?_)
  | (with_reducible refine tests_nil ?_)
  | (with_reducible refine tests_one ?_)
  | (with_reducible refine if_yes rfl ?_)
  | (with_reducible refine if_not Bool.false_ne_true ?_)
  | (with_reducible refine is_int_none ?_)
  | (with_reducible refine is_none_none ?_)
  | (with_reducible refine isTrue_and_nil ?_)
  | (with_reducible refine isTrue_or_nil ?_)
  | (with_reducible refine isTrue_and ?_)
  | (with_reducible refine isTrue_or ?_)
  | (with_reducible refine PyProof.Rows.assign_Name ?_)
  | (with_reducible refine bindName_ ?_)
  | ((with_reducible refine' wpAny_Expr_any ?_ ?i ?s); (case i => exact rfl); (case s => with_unfolding_all rfl))
  | ((with_reducible refine' Assign_Tuple ?_ ?a ?b); (case a => with_unfolding_all rfl); (case b => with_unfolding_all rfl))
  | ((with_reducible refine' Assign_Tuple_swapped ?_ ?a ?b); (case a => with_unfolding_all rfl); (case b => with_unfolding_all rfl))
  | ((with_reducible show wpAny _ _ (unpackItems _ _ _) _ _ _); (rename Fr _ _ _ _ => oF); (rename News _ _ _ _ => oN); (refine' unpackItemsN_ oF oN ?t ?h ?n ?_); (case t => exact News.isTup oN (.head _)); (case h => exact rfl); (case n => exact rfl); clear oF oN; intro h' F' N')
  | ((with_reducible show wpAny _ _ (assign (Expr.Tuple _ _ _) _ _) _ _ _); (rename Fr _ _ _ _ => oF); (rename News _ _ _ _ => oN); (refine' unpackN_ oF oN ?t ?h ?n ?f ?_); (case t => exact News.isTup oN (.head _)); (case h => exact rfl); (case n => exact rfl); (case f => exact rfl); clear oF oN; intro h' F' N')
  | ((with_reducible show wpAny _ _ (assignInOrder _ _) _ _ _); first | (refine assignInOrder_nil ?_) | (refine assignInOrder_cons ?_))
  | (with_reducible refine kas_sub ?_))
local macro_rules | `(tactic| walk_at "plain") => `(tactic| first
  | ((case ho => k_is); (case hcd => k_is); (case hbind => exact fun s => BindsTo.of_eq rfl); (case hloc => exact locs rfl); (case hcell => decide); (case hco => exact rfl); (case hgen => exact rfl); (case hk => exact rfl); (case hd0 => decide)))
local macro_rules | `(tactic| walk_at "cells") => `(tactic| first
  | ((case ho => k_is); (case hcd => k_is); (case hbind => exact fun s => BindsTo.of_eq rfl); (case hkind => exact rfl); (case hnd => decide); (case hco => exact rfl); (case hgen => exact rfl); (case hk => exact rfl); (case hd0 => decide)))
local macro_rules | `(tactic| walk_at "keep") => `(tactic| first
  | ((intro y hy; simp only [List.mem_cons, List.not_mem_nil, or_false, not_or, not_false_eq_true] at hy; first | rfl | (simp [hy]; done))))
local macro_rules | `(tactic| walk_at "gos") => `(tactic| first
  | (repeat' (first | walk_at "go" | (dsimp only))))

def PivotIs (rows : List (List Int)) (k : Nat) (r : Value) : Prop :=
  (∃ (j : Nat) (t : Tok), k ≤ j ∧ j < rows.length ∧ r = .int (j : Int) t ∧ ent rows j k ≠ 0) ∨ (r = .none ∧ ∀ j, k ≤ j → j < rows.length → ent rows j k = 0)

set_option maxHeartbeats 4000000 in
theorem pivot_ok {w : World} {news : Led} {g : Addr} {as : List Addr} {rows : List (List Int)} {k : Nat} {t : Tok} (hg : Grid news g as rows) (hsq : Square rows) (hk : k < rows.length) (hn : rows.length ≤ 4) :
   Does w 41 3 40 [.ref g, .int k t] news (fun news' r => Sub news news' ∧ PivotIs rows k r) := by
  refine' does_plain (binds := [("a", .ref g), ("step", .int k t)]) ?ho ?hcd ?hbind ?hloc ?hcell ?hco ?hgen ?hk ?h ?hd0
  walk_at "plain"
  intro dp un fr gd gh L h₁ tk s hdp hun F X T N hlt
  have hlen := hg.len
  walk_at "gos"
  refine' len_L hg.head (by assumption) (by walk_at "sub") ?a ?_
  case a => simp [hlen]; omega
  intro t1
  walk_at "gos"
  rename IsRange _ _ _ _ _ _ _ _ => R'
  rename Fr _ _ _ _ => F'
  rename News _ _ _ _ => N'
  refine' for_range (rows.length - k) [] (fun i _ news₁ => Sub news news₁ ∧ ∀ j : Nat, j < i → ent rows (k + j) k = 0) rfl R' (small_one ?a1 ?a2 ?a3 ?a4) ?a5 F' N' ?j0 ?turn ?done
  case a1 => omega
  case a2 => omega
  case a3 => omega
  case a4 => simp [hlen]; omega
  case a5 => simp [hlen]
  case j0 => exact ⟨Sub.refl, fun _ h => absurd h (Nat.not_lt_zero _)⟩
  case turn =>
    clear R' F' N'
    rintro I i ti u news₁ own h tk₁ hi ⟨hS, hz⟩ hoff hI F' N'
    have hg' := hg.sub hS
    walk_at "gos"
    refine' item_G (k + i) hg' N' (by walk_at "sub") (by omega) (by omega) (by omega) ?_
    intro a ha hr
    walk_at "gos"
    refine' item_N k hr N' (by walk_at "sub") (by omega) (by rw [hsq _ (by omega)]; omega) (by rw [hsq _ (by omega)]; omega) ?_
    intro t2
    walk_at "gos"
    by_cases hne : ent rows (k + i) k = 0
    · refine if_not (bne_no hne) ?_
      walk_at "gos"
      refine TurnEnd.next F' N' (fun p hp => List.mem_append_left _ hp) ⟨by walk_at "keep", hS.trans (sub_off hoff (by walk_at "sub")), fun j hj => ?_⟩
      by_cases h : j = i
      · exact h ▸ hne
      · exact hz j (by omega)
    · refine if_yes (bne_iff_ne.mpr hne) ?_
      walk_at "gos"
      dsimp only [TurnEnd]
      exact BodyEnd.intro F' N' ⟨hS.trans (by walk_at "sub"), .inl ⟨k + i, ti, by omega, by omega, by simp, hne⟩⟩
  case done =>
    clear R' F' N'
    rintro u news₁ h tk₁ ⟨hS, hz⟩ F' N'
    walk_at "gos"
    refine BodyEnd.intro F' N' ⟨hS, .inr ⟨rfl, fun j h1 h2 => ?_⟩⟩
    have := hz (j - k) (by omega)
    rwa [show k + (j - k) = j by omega] at this

def bval (M : List (List Int)) (k : Nat) (ahead : Int) (i j : Nat) : Int := (ent M i j * ent M k k - ent M i k * ent M k j).fdiv ahead
/-- what bareiss_step makes of the rows -/
structure Stepped (M : List (List Int)) (k : Nat) (ahead : Int) (M' : List (List Int)) : Prop where
  len : M'.length = M.length
  sq : Square M'
  top : ∀ i, i ≤ k → M'.getD i [] = M.getD i []
  val : ∀ i j, k < i → k < j → i < M.length → j < M.length → ent M' i j = bval M k ahead i j
  zero : ∀ i, k < i → i < M.length → ent M' i k = 0
  left : ∀ i j, k < i → j < k → i < M.length → ent M' i j = ent M i j

set_option maxHeartbeats 4000000 in
theorem step_ok {w : World} {news : Led} {g : Addr} {as : List Addr} {M : List (List Int)} {k b : Nat} {ahead : Int} {t t' : Tok} (hg : Grid news g as M) (nd : as.Nodup) (hga : g ∉ as) (hsq : Square M) (hk : k < M.length) (hn : M.length ≤ 4)
    (hb : Bits b M) (hbl : b ≤ 8000) (hbs : b + b ≤ 60000000) (ha : ahead ≠ 0) (hab : ahead.natAbs < 2 ^ b) :
   Does w 48 3 40 [.ref g, .int k t, .int ahead t'] news (fun news' r => SubBut as news news' ∧ ∃ M', Grid news' g as M' ∧ Stepped M k ahead M') := by
  refine' does_plain (binds := [("a", .ref g), ("step", .int k t), ("ahead", .int ahead t')]) ?ho ?hcd ?hbind ?hloc ?hcell ?hco ?hgen ?hk ?h ?hd0
  walk_at "plain"
  intro dp un fr gd gh L h₁ tk s hdp hun F X T N hlt
  have hlen := hg.len
  have hrk : (M.getD k []).length = M.length := hsq k hk
  walk_at "gos"
  refine' item_G k hg (by assumption) Sub.refl rfl hk (by omega) ?_
  intro ak hak hrowk
  walk_at "gos"
  refine' item_N k hrowk (by assumption) Sub.refl rfl (by omega) (by omega) ?_
  intro t1
  walk_at "gos"
  refine' len_L hg.head (by assumption) (by walk_at "sub") ?a ?_
  case a => simp [hlen]; omega
  intro t2
  walk_at "gos"
  rename IsRange _ _ _ _ _ _ _ _ => R'
  rename Fr _ _ _ _ => F'
  rename News _ _ _ _ => N'
  refine' for_range (M.length - (k + 1)) ["first", "column"] (fun i _ news₁ => SubBut as news news₁ ∧ ∃ Mi, Grid news₁ g as Mi ∧ Mi.length = M.length ∧ (∀ r, r ≤ k ∨ k + 1 + i ≤ r → Mi.getD r [] = M.getD r []) ∧
      (∀ r, k < r → r < k + 1 + i → (Mi.getD r []).length = M.length ∧ ∀ j, j < M.length → ent Mi r j = if j < k then ent M r j else if j = k then 0 else bval M k ahead r j)) rfl R' (small_one ?a1 ?a2 ?a3 ?a4) ?a5 F' N' ?j0 ?turn ?done
  case a1 => omega
  case a2 => omega
  case a3 => omega
  case a4 => simp [hlen]; omega
  case a5 => simp [hlen]; omega
  case j0 => exact ⟨Sub.refl.but, M, hg, rfl, fun _ _ => rfl, fun r h1 h2 => absurd h2 (by omega)⟩
  case turn =>
    clear R' F' N'
    rintro I i ti u news₁ own h tk₁ hi ⟨hS, Mi, hgi, hli, hsame, hdone⟩ hoff hI F' N'
    have hr0 : Mi.getD (k + 1 + i) [] = M.getD (k + 1 + i) [] := hsame _ (.inr (Nat.le_refl _))
    have hrl : (M.getD (k + 1 + i) []).length = M.length := hsq _ (by omega)
    have hk0 : Mi.getD k [] = M.getD k [] := hsame _ (.inl (Nat.le_refl _))
    have hfr := hgi.fresh hoff
    walk_at "gos"
    refine' item_G (k + 1 + i) hgi N' (by walk_at "sub") (by omega) (by omega) (by omega) ?_
    intro ar har hrow
    rw [hr0] at hrow
    walk_at "gos"
    refine' item_N k hrow N' (by walk_at "sub") rfl (by omega) (by omega) ?_
    intro t3
    walk_at "gos"
    refine' len_L hgi.head (by assumption) (by walk_at "sub") ?l ?_
    case l => simp [hlen]; omega
    intro t4
    walk_at "gos"
    rename IsRange _ _ _ _ _ _ _ _ => R'
    rename Fr _ _ _ _ => F'
    rename News _ _ _ _ => N'
    refine' for_range (M.length - (k + 1)) [] (fun c _ news₂ => SubBut as (own ++ news₁) news₂ ∧ ∃ rp, Grid news₂ g as (Mi.set (k + 1 + i) rp) ∧ rp.length = M.length ∧
      ∀ j, rp.getD j 0 = if k < j ∧ j < k + 1 + c then bval M k ahead (k + 1 + i) j else ent M (k + 1 + i) j) rfl R' (small_one ?b1 ?b2 ?b3 ?b4) ?b5 F' N' ?bj ?bturn ?bdone
    case b1 => omega
    case b2 => omega
    case b3 => omega
    case b4 => simp [hlen]; omega
    case b5 => simp [hlen]; omega
    case bj =>
      refine ⟨Sub.refl.but, M.getD (k + 1 + i) [], ?_, hrl, fun j => ?_⟩
      · have e : Mi.set (k + 1 + i) (M.getD (k + 1 + i) []) = Mi := by
          rw [← hr0]
          have hl : k + 1 + i < Mi.length := by omega
          simp [hl]
        rw [e]
        exact hgi.sub (by walk_at "sub")
      · rw [if_neg (by omega)]; rfl
    case bturn =>
      clear R' F' N'
      rintro I₂ c tc u₂ news₂ own₂ h₂ tk₂ hc ⟨hS₂, rp, hg₂, hrp, hval⟩ hoff₂ hI₂ F' N'
      have hl₂ : (Mi.set (k + 1 + i) rp).length = M.length := by simp [hli]
      have hrow₂ : (Mi.set (k + 1 + i) rp).getD (k + 1 + i) [] = rp := by rw [getD_set, if_pos ⟨rfl, by omega⟩]
      have hrowk₂ : (Mi.set (k + 1 + i) rp).getD k [] = M.getD k [] := by rw [getD_set, if_neg (by omega), hk0]
      have hfr₂ := hg₂.fresh hoff₂
      have hc0 : rp.getD (k + 1 + c) 0 = ent M (k + 1 + i) (k + 1 + c) := by rw [hval, if_neg (by omega)]
      walk_at "gos"
      refine' item_G (k + 1 + i) hg₂ N' (by walk_at "sub") (by omega) (by omega) (by omega) ?_
      intro a₁ ha₁ hi₁
      rw [hrow₂] at hi₁
      rw [har] at ha₁; cases ha₁
      walk_at "gos"
      refine' item_N (k + 1 + c) hi₁ N' (by walk_at "sub") (by omega) (by omega) (by omega) ?_
      intro t5
      rw [hc0]
      walk_at "gos"
      refine mul_i (mul_ok (hb _ _) (hb k k) (by omega)) fun t7 tk7 => ?_
      walk_at "gos"
      refine' item_G k hg₂ N' (by walk_at "sub") rfl (by omega) (by omega) ?_
      intro a₂ ha₂ hi₂
      rw [hrowk₂] at hi₂
      walk_at "gos"
      refine' item_N (k + 1 + c) hi₂ N' (by walk_at "sub") (by omega) (by omega) (by omega) ?_
      intro t6
      walk_at "gos"
      refine mul_i (mul_ok (hb (k + 1 + i) k) (hb k (k + 1 + c)) (by omega)) fun t8 tk8 => ?_
      walk_at "gos"
      refine div_i ha (div_ok hab hbl) fun t9 tk9 => ?_
      walk_at "gos"
      refine' item_G (k + 1 + i) hg₂ N' (by walk_at "sub") (by omega) (by omega) (by omega) ?_
      intro a₃ ha₃ hi₃
      rw [hrow₂] at hi₃
      rw [har] at ha₃; cases ha₃
      walk_at "gos"
      refine set_I (k + 1 + c) hi₃ F' N' (by walk_at "sub") (by omega) (by omega) (by omega) fun h₃ nw' F₃ N₃ hi₄ hS₄ _ => ?_
      have har' : ar ∈ as := List.mem_of_getElem? har
      walk_at "gos"
      refine TurnEnd.next F₃ N₃ (hS₄.own hI₂ har' hfr₂.2) ⟨by walk_at "keep", hS₂.step hS₄ har' hoff₂, rp.set (k + 1 + c) (bval M k ahead (k + 1 + i) (k + 1 + c)), ?_, by simp [hrp], fun j => ?_⟩
      · have := (hg₂.sub (by walk_at "sub" : Sub news₂ (own₂ ++ news₂))).setRow nd hga har hS₄ hi₄
        rw [List.set_set] at this
        exact this.off hfr₂.1 hfr₂.2
      · rw [getD_set, hval j]
        by_cases e : k + 1 + c = j
        · subst e; rw [if_pos ⟨rfl, by omega⟩, if_pos (by omega)]
        · rw [if_neg (fun q => e q.1)]
          by_cases q : k < j ∧ j < k + 1 + c
          · rw [if_pos q, if_pos (by omega)]
          · rw [if_neg q, if_neg (by omega)]
    case bdone =>
      clear R' F' N'
      rintro u₂ news₂ h₂ tk₂ ⟨hS₂, rp, hg₂, hrp, hval⟩ F' N'
      have hl₂ : (Mi.set (k + 1 + i) rp).length = M.length := by simp [hli]
      have hrow₂ : (Mi.set (k + 1 + i) rp).getD (k + 1 + i) [] = rp := by rw [getD_set, if_pos ⟨rfl, by omega⟩]
      have har' : ar ∈ as := List.mem_of_getElem? har
      walk_at "gos"
      refine' item_G (k + 1 + i) hg₂ N' (by walk_at "sub") (by omega) (by omega) (by omega) ?_
      intro a₁ ha₁ hi₁
      rw [hrow₂] at hi₁
      rw [har] at ha₁; cases ha₁
      walk_at "gos"
      refine set_I k hi₁ F' N' (by walk_at "sub") rfl (by omega) (by omega) fun h₃ nw' F₃ N₃ hi₄ hS₄ _ => ?_
      walk_at "gos"
      have hSo : SubBut as (own ++ news₁) nw' := fun p hp hn => hS₄ p (hS₂ p hp hn) fun q => hn (by rw [List.mem_singleton.mp q]; exact har')
      refine TurnEnd.next F₃ N₃ (fun p hp => hSo p (List.mem_append_left _ hp) fun q => hfr.2 (hI p hp ▸ q)) ⟨by walk_at "keep", ?_, Mi.set (k + 1 + i) (rp.set k 0), ?_, by simp [hli], fun r hr => ?_, fun r h1 h2 => ?_⟩
      · exact fun p hp hn => mem_off.mpr ⟨hSo p (List.mem_append_right _ (hS p hp hn)) hn, hoff p (hS p hp hn)⟩
      · have := hg₂.setRow nd hga har hS₄ hi₄
        rw [List.set_set] at this
        exact this.off hfr.1 hfr.2
      · rw [getD_set, if_neg (by omega)]; exact hsame r (by omega)
      · by_cases e : k + 1 + i = r
        · subst e
          unfold ent
          rw [getD_set, if_pos ⟨rfl, by omega⟩]
          refine ⟨by simp [hrp], fun j hj => ?_⟩
          rw [getD_set, hval j]
          by_cases q : k = j
          · subst q; rw [if_pos ⟨rfl, by omega⟩, if_neg (by omega), if_pos rfl]
          · rw [if_neg (fun z => q z.1)]
            by_cases z : j < k
            · rw [if_neg (by omega), if_pos z]; rfl
            · rw [if_pos (by omega), if_neg z, if_neg (by omega)]
        · have := hdone r h1 (by omega)
          unfold ent at this ⊢
          rw [getD_set, if_neg (fun z => e z.1)]
          exact this
  case done =>
    clear R' F' N'
    rintro u news₁ h tk₁ ⟨hS, Mi, hgi, hli, hsame, hdone⟩ F' N'
    walk_at "gos"
    refine BodyEnd.intro F' N' ⟨hS, Mi, hgi, hli, fun i hi => ?_, fun i hi => hsame i (.inl hi), fun i j h1 h2 h3 h4 => ?_, fun i h1 h2 => ?_, fun i j h1 h2 h3 => ?_⟩
    · rw [hli] at hi ⊢
      by_cases h : i ≤ k
      · rw [hsame i (.inl h)]; exact hsq i hi
      · exact (hdone i (by omega) (by omega)).1
    · rw [(hdone i h1 (by omega)).2 j h4, if_neg (by omega), if_neg (by omega)]
    · rw [(hdone i h1 (by omega)).2 k hk, if_neg (by omega), if_pos rfl]
    · rw [(hdone i h1 (by omega)).2 j (by omega), if_pos h2]

/-- what the loop of determinant keeps: the rows at step k, the sign, the last pivot -/
structure Keeps3 (n : Nat) (D : Int) (BI : Nat → List (List Int) → Int → Int → Prop) : Prop where
  len : ∀ k M sg ah, BI k M sg ah → M.length = n ∧ Square M ∧ ah ≠ 0 ∧ (sg = 1 ∨ sg = -1)
  stop : ∀ k M sg ah, BI k M sg ah → k < n → (∀ j, k ≤ j → j < n → ent M j k = 0) → D = 0
  swap : ∀ k M sg ah r, BI k M sg ah → k ≤ r → r < n → r ≠ k → BI k ((M.set r (M.getD k [])).set k (M.getD r [])) (-sg) ah
  step : ∀ k M sg ah M', BI k M sg ah → k < n → ent M k k ≠ 0 → Stepped M k ah M' → BI (k + 1) M' sg (ent M k k)
  done : ∀ M sg ah, BI n M sg ah → sg * ah = D
  bits : ∀ k M sg ah, BI k M sg ah → k ≤ n → ∃ b, b ≤ 4000 ∧ Bits b M ∧ ah.natAbs < 2 ^ b

set_option maxHeartbeats 4000000 in
theorem det_walk {w : World} {news : Led} {g : Addr} {as : List Addr} {rows : List (List Int)} {D : Int} {BI : Nat → List (List Int) → Int → Int → Prop} (hg : Grid news g as rows) (hsq : Square rows) (hn : rows.length ≤ 4) (K : Keeps3 rows.length D BI) (h0 : BI 0 rows 1 1) :
   Does w 53 8 200 [.ref g] news (fun news' r => Sub news news' ∧ ∃ t, r = .int D t) := by
  refine' does_cells (binds := [("a", .ref g)]) ?ho ?hcd ?hbind ?hkind ?hnd ?hco ?hgen ?hk ?h ?hd0
  walk_at "cells"
  intro dp un fr gd gh L h₁ tk s cells hdp hun F X T N Y hlt
  obtain ⟨oa, rfl, da⟩ := CellsAre.one (n := "a") (c := L + 1) Y
  have ca : CellIn [(L + 1, oa)] (L + 1) (.ref g) := ⟨oa, .head _, da⟩
  clear Y
  have hlen := hg.len
  have S₀ : Sub news ([(L + 1, oa)] ++ news) := by walk_at "sub"
  walk_at "gos"
  have hg₀ := hg.sub S₀
  refine' comp_list_l (fun i ys news₁ => ys = [] ∧ Sub ([(L + 1, oa)] ++ news) news₁) rfl hg₀.head.src ?z (fun _ => rfl) (fun _ => rfl) rfl rfl F N ⟨rfl, Sub.refl⟩ ?turn ?use
  case z => simp [hlen, sizeLine]; omega
  case turn =>
    clear F N
    rintro i v C oC m₂ D₁ W O ys news₁ h tk₁ hv hys ⟨rfl, hS⟩ ho hO hW hC hm hx F' N'
    have hg' := hg₀.sub hS
    have ca' := ca.sub (Sub.trans (by walk_at "sub" : Sub [(L + 1, oa)] ([(L + 1, oa)] ++ news)) hS)
    obtain ⟨ai, hai, rfl⟩ : ∃ ai, as[i]? = some ai ∧ v = .ref ai := by
      obtain ⟨h1, h2⟩ := List.getElem?_eq_some_iff.mp hv
      exact ⟨as[i]'(by simpa using h1), by simp, by simpa using h2.symm⟩
    have hil : i < rows.length := by rw [← hlen]; exact (List.getElem?_eq_some_iff.mp hai).1
    obtain ⟨ri, hir⟩ : ∃ r, rows[i]? = some r := ⟨rows[i], by simp [hil]⟩
    have hri : ri.length = rows.length := by have := hsq i hil; simpa [List.getD, hir] using this
    obtain ⟨vs, hvs, hints⟩ := hg'.row i ai ri hai hir
    have hvl := hints.length
    unfold CompTurn
    walk_at "gos"
    refine' len_L hvs N' (by walk_at "sub") ?l ?_
    case l => omega
    intro t1
    walk_at "gos"
    refine' len_L hg'.head N' (by walk_at "sub") ?l2 ?_
    case l2 => simp [hlen]; omega
    intro t2
    walk_at "gos"
    refine if_not (bne_no (by simp [hvl, hri, hlen])) ?_
    refine EltEnd.intro F' N' (by walk_at "sub") ⟨rfl, hS.trans (sub_offs ho (by walk_at "sub"))⟩
  case use =>
    intro g'
    refine UsePost.expr ?_
    clear F N
    rintro D₁ h tk₁ ys news₁ ⟨rfl, hS⟩ F N hf
    dsimp only
    walk_at "gos"
    rename News _ _ _ _ => N₂
    rename Fr _ _ _ _ => F₂
    refine' ne_I (a := []) (b := []) ⟨[], IsP.l ⟨_, .tail _ (.head _)⟩, .nil⟩ ⟨[], IsP.l ⟨_, .head _⟩, .nil⟩ N₂ Sub.refl ?u ?_
    case u => show un + 64 < cLine; omega
    walk_at "gos"
    refine if_not (by decide) ?_
    walk_at "gos"
    generalize hnw : ((_ : Addr × Obj) :: (D₁, LCg.lst []) :: news₁) = nw at N₂
    have hSn : Sub news₁ nw := hnw ▸ (by walk_at "sub")
    clear hnw
    have hg₂ := hg₀.sub (hS.trans hSn)
    have ca₂ := ca.sub (Sub.trans (by walk_at "sub" : Sub [(L + 1, oa)] ([(L + 1, oa)] ++ news)) (hS.trans hSn))
    refine' comp_list_l (fun i ys news₁ => Rows nw (fun i => rows.getD i []) i ys news₁) rfl hg₂.head.src ?z (fun _ => rfl) (fun _ => rfl) rfl rfl F₂ N₂ Rows.zero ?turn2 ?use2
    case z => simp [hlen, sizeLine]; omega
    case turn2 =>
      clear F₂ N₂
      rintro i v C oC m₂ D₂ W O ys news₂ h tk₂ hv hys hR ho hO hW hC hm hx F' N'
      have hg' := hg₂.sub hR.1
      obtain ⟨ai, hai, rfl⟩ : ∃ ai, as[i]? = some ai ∧ v = .ref ai := by
        obtain ⟨h1, h2⟩ := List.getElem?_eq_some_iff.mp hv
        exact ⟨as[i]'(by simpa using h1), by simp, by simpa using h2.symm⟩
      have hil : i < rows.length := by rw [← hlen]; exact (List.getElem?_eq_some_iff.mp hai).1
      have hir : rows[i]? = some (rows.getD i []) := by simp [hil]
      have hri : (rows.getD i []).length = rows.length := hsq i hil
      obtain ⟨vs, hvs, hints⟩ := hg'.row i ai _ hai hir
      have hvl := hints.length
      unfold CompTurn
      walk_at "gos"
      refine copy_L hvs F' N' (by walk_at "sub") (by simp only [sizeLine]; omega) fun D₃ h₃ nw₃ F₃ N₃ S₃ x₃ f₃ => ?_
      exact EltEnd.intro F₃ N₃ (by walk_at "sub") (hR.step (sub_offs ho (by walk_at "sub")) (by walk_at "sub") f₃ (Ints.offs ⟨vs, x₃.l, hints⟩ (hW.off (by walk_at "sub") f₃)))
    case use2 =>
      intro g₂
      refine UsePost.expr ?_
      clear F₂ N₂
      intro D₂ h tk₂ ys news₂ hR F N hf₂
      obtain ⟨as₂, ng⟩ := hR.done hf₂
      have e : (List.range (as.map Value.ref).length).map (fun i => rows.getD i []) = rows := by
        refine List.ext_getElem (by simp [hlen]) fun i h1 h2 => by simp [h2]
      rw [e] at ng
      have hS₂ : Sub nw ((D₂, LCg.lst ys) :: news₂) := Sub.trans hR.1 Sub.cons
      generalize ((D₂, LCg.lst ys) :: news₂) = nw₂ at N hS₂ ng
      dsimp only
      walk_at "gos"
      rename News _ _ _ _ => N₃
      rename Fr _ _ _ _ => F₃
      generalize hnw₃ : ((_ : Addr × Obj) :: nw₂) = nw₃ at N₃
      have hS₃ : Sub nw₂ nw₃ := hnw₃ ▸ Sub.cons
      clear hnw₃
      have hS₀ : Sub ([(L + 1, oa)] ++ news) nw := hS.trans hSn
      refine' len_L hg₂.head N₃ (Sub.trans hS₂ hS₃) ?l3 ?_
      case l3 => simp [hlen]; omega
      intro t3
      walk_at "gos"
      rename IsRange _ _ _ _ _ _ _ _ => R'
      rename Fr _ _ _ _ => F'
      rename News _ _ _ _ => N'
      refine' for_range rows.length ["row", "sign", "ahead"] (fun i u nx => ∃ asi M sg ah ts ta, u "sign" = some (.int sg ts) ∧ u "ahead" = some (.int ah ta) ∧ Grid nx D₂ asi M ∧ Inj asi ∧ D₂ ∉ asi ∧ (∀ a ∈ asi, Fresh nw a) ∧ Sub nw nx ∧ BI i M sg ah)
        rfl R' (small_one ?a1 ?a2 ?a3 ?a4) ?a5 F' N' ?j0 ?turn3 ?done3
      case a1 => omega
      case a2 => omega
      case a3 => omega
      case a4 => simp [hlen]; omega
      case a5 => simp [hlen]
      case j0 => exact ⟨as₂, rows, 1, 1, _, _, rfl, rfl, ng.grid.sub hS₃, inj_of ng.nodup, ng.off, ng.freshes, hS₂.trans hS₃, h0⟩
      case turn3 =>
        clear R' F' N'
        rintro I i ti u news₁' own h tk₁ hi ⟨asi, M, sg, ah, ts, ta, hsg, hah, hgi, ndi, hDi, hfri, hSub, hBI⟩ hoff hI F' N'
        rw [show (0 : Int) + (i : Int) = (i : Int) from Int.zero_add _] at F'
        obtain ⟨hMl, hMs, hah0, hsg1⟩ := K.len _ _ _ _ hBI
        obtain ⟨b, hb1, hb2, hb3⟩ := K.bits _ _ _ _ hBI (by omega)
        walk_at "gos"
        refine pivot_ok (k := i) (hgi.sub (by walk_at "sub")) hMs (by omega) (by omega) _ _ _ _ _ _ _ _ _ _ F' X T N' (by omega) (by omega) ?_
        rintro r nw₄ h₄ tk₄ F₄ N₄ ⟨S₄, hr⟩
        have hgi₄ : Grid nw₄ D₂ asi M := hgi.sub (by walk_at "sub")
        have S₅ : Sub nw nw₄ := hSub.trans (Sub.trans (by walk_at "sub") S₄)
        have hfI := hgi.fresh hoff
        rcases hr with ⟨j, tj, hij, hjl, rfl, hne⟩ | ⟨rfl, hz⟩
        · have hil : i < asi.length := by rw [hgi.len]; omega
          have hjl' : j < asi.length := by rw [hgi.len]; omega
          obtain ⟨ai, hai⟩ : ∃ a, asi[i]? = some a := ⟨asi[i], by simp [hil]⟩
          obtain ⟨aj, haj⟩ : ∃ a, asi[j]? = some a := ⟨asi[j], by simp [hjl']⟩
          walk_at "gos"
          by_cases hji : j = i
          case' pos =>
            refine if_not (bne_no (by rw [hji])) ?_
            walk_at "gos"
            have hown : Sub own nw₄ := Sub.trans (by walk_at "sub") S₄
            have hnw : Sub nw nw₄ := S₅
            have pack : ∃ (M₂ : List (List Int)) (as₃ : List Addr), Grid nw₄ D₂ as₃ M₂ ∧ Inj as₃ ∧ D₂ ∉ as₃ ∧ (∀ a ∈ as₃, Fresh nw a) ∧ I ∉ as₃ ∧ BI i M₂ sg ah ∧ ent M₂ i i ≠ 0 :=
              ⟨M, asi, hgi₄, ndi, hDi, hfri, hfI.2, hBI, hji ▸ hne⟩
          case' neg =>
            refine if_yes (bne_iff_ne.mpr (by omega)) ?_
            walk_at "gos"
            refine item_L (v := .ref ai) hgi₄.head (by assumption) Sub.refl (by omega) (by omega) (by simp [hai]) ?_
            walk_at "gos"
            refine item_L (v := .ref aj) hgi₄.head (by assumption) Sub.refl (by omega) (by omega) (by simp [haj]) ?_
            walk_at "gos"
            rename Fr _ _ _ _ => F₅
            rename News _ _ _ _ => N₅
            refine set_L j hgi₄.head F₅ N₅ Sub.cons rfl (by simpa using hjl') (by simp only [List.length_map, List.length_set, sizeLine]; rw [hgi.len]; omega) fun h₆ nw₆ F₆ N₆ x₆ S₆ _ => ?_
            clear F₅ N₅
            walk_at "gos"
            refine set_L i x₆ F₆ N₆ Sub.refl rfl (by simpa using hil) (by simp only [List.length_map, List.length_set, sizeLine]; rw [hgi.len]; omega) fun h₇ nw₇ F₇ N₇ x₇ S₇ _ => ?_
            clear F₆ N₆
            walk_at "gos"
            have S₄₇ : SubBut [D₂] nw₄ nw₇ := SubBut.left Sub.cons (S₆.trans S₇)
            have hown : Sub own nw₇ := S₄₇.keeps (Sub.trans (by walk_at "sub") S₄) fun p hp q => hfI.1 (by rw [← List.mem_singleton.mp q]; exact hI p hp)
            have hnw : Sub nw nw₇ := S₄₇.keeps S₅ fun p hp q => ng.fresh p hp (List.mem_singleton.mp q)
            have pack : ∃ (M₂ : List (List Int)) (as₃ : List Addr), Grid nw₇ D₂ as₃ M₂ ∧ Inj as₃ ∧ D₂ ∉ as₃ ∧ (∀ a ∈ as₃, Fresh nw a) ∧ I ∉ as₃ ∧ BI i M₂ (-sg) ah ∧ ent M₂ i i ≠ 0 :=
              ⟨_, _, hgi₄.swap S₄₇ hDi hai haj x₇, ndi.swap hai haj, fun q => hDi (mem_swap hai haj q), fun a ha => hfri a (mem_swap hai haj ha), fun q => hfI.2 (mem_swap hai haj q), K.swap _ _ _ _ _ hBI hij (by omega) hji, by
                unfold ent at hne ⊢
                rw [getD_set, if_pos ⟨rfl, by simp; omega⟩]
                exact hne⟩
          all_goals
            obtain ⟨M₂, as₃, hg₃, ndi₃, hD₃, hf₃, hI₃, hBI₃, hne₃⟩ := pack
            rename Fr _ _ _ _ => F₇
            rename News _ _ _ _ => N₇
            obtain ⟨hl₃, hs₃, _, _⟩ := K.len _ _ _ _ hBI₃
            obtain ⟨b₃, hb₁, hb₂, hb₃⟩ := K.bits _ _ _ _ hBI₃ (by omega)
            refine step_ok (k := i) hg₃ ndi₃.nodup hD₃ hs₃ (by omega) (by omega) hb₂ (by omega) (by omega) hah0 hb₃ _ _ _ _ _ _ _ _ _ _ F₇ X T N₇ (by omega) (by omega) ?_
            clear F₇ N₇
            rintro r nw₈ h₈ tk₈ F₈ N₈ ⟨S₈, M₃, hg₈, hst⟩
            have hrow : M₃.getD i [] = M₂.getD i [] := hst.top i (Nat.le_refl _)
            have hl₈ : M₃.length = M₂.length := hst.len
            have hrl₈ : (M₂.getD i []).length = M₂.length := hs₃ i (by omega)
            walk_at "gos"
            refine' item_G i hg₈ N₈ Sub.refl rfl (by omega) (by omega) ?_
            intro a₈ ha₈ hi₈
            rw [hrow] at hi₈
            walk_at "gos"
            refine' item_N i hi₈ N₈ Sub.refl rfl (by omega) (by omega) ?_
            intro t₈
            walk_at "gos"
            rename Fr _ _ _ _ => F₉
            rename News _ _ _ _ => N₉
            refine TurnEnd.next F₉ N₉ (S₈.keeps hown fun p hp q => hI₃ (hI p hp ▸ q)) ⟨by walk_at "keep", as₃, M₃, _, _, _, _, by first | rfl | exact hsg, rfl, hg₈.off hfI.1 hI₃, ndi₃, hD₃, hf₃, fun p hp => mem_off.mpr ⟨S₈ p (hnw p hp) fun q => hf₃ _ q p hp rfl, hoff p (hSub p hp)⟩, K.step _ _ _ _ _ hBI₃ (by omega) hne₃ hst⟩
        · walk_at "gos"
          dsimp only [TurnEnd]
          rename Fr _ _ _ _ => F₅
          rename News _ _ _ _ => N₅
          refine BodyEnd.intro F₅ N₅ ⟨S₀.trans (hS₀.trans S₅), _, by rw [K.stop _ _ _ _ hBI (by omega) (fun j h1 h2 => hz j h1 (by omega))]⟩
      case done3 =>
        clear R' F' N'
        rintro u nx h tk₁ ⟨asi, M, sg, ah, ts, ta, hsg, hah, hgi, ndi, hDi, hfri, hSub, hBI⟩ F' N'
        obtain ⟨hMl, hMs, hah0, hsg1⟩ := K.len _ _ _ _ hBI
        walk_at "gos"
        refine mul_i (.of_left (by rcases hsg1 with rfl | rfl <;> decide)) fun t7 tk7 => ?_
        exact BodyEnd.intro F' N' ⟨S₀.trans (hS₀.trans hSub), t7, by rw [K.done _ _ _ hBI]⟩

set_option maxHeartbeats 4000000 in
theorem take_ok {w : World} {news : Led} {b q : Addr} {wide : Int} {t : Tok} (hb : Box news b q) (hw : 0 < wide) :
   Does w 75 3 200 [.ref b, .int wide t] news (fun news' r => SubBut [b, q] news news' ∧ Box news' b q ∧ ∃ z t', r = .int z t' ∧ 0 ≤ z ∧ z < wide) := by
  refine' does_plain (binds := [("box", .ref b), ("wide", .int wide t)]) ?ho ?hcd ?hbind ?hloc ?hcell ?hco ?hgen ?hk ?h ?hd0
  walk_at "plain"
  intro dp un fr gd gh L h₁ tk s hdp hun F X T N hlt
  obtain ⟨hne, vs, ns, st, t0, hL, hP, hi, hlen, hs0, hs1⟩ := hb
  walk_at "gos"
  refine item_L (v := .ref q) hL N Sub.refl (by decide) (by decide) rfl ?_
  walk_at "gos"
  refine len_L hP.l N Sub.refl (by omega) fun t1 => ?_
  walk_at "gos"
  cases hi with
  | nil =>
    refine if_not (by decide) ?_
    walk_at "gos"
    refine item_L (v := .int st t0) hL N Sub.refl (by decide) (by decide) rfl ?_
    walk_at "gos"
    refine mul_i (mul_ok (m := 31) (by omega) (by decide) (by decide)) fun t2 tk2 => ?_
    walk_at "gos"
    refine mod_i (by decide) fun t3 tk3 => ?_
    walk_at "gos"
    refine set_L 1 hL F N Sub.refl rfl (by simp) (by simp) fun h₃ nw₃ F₃ N₃ x₃ S₃ _ => ?_
    walk_at "gos"
    refine item_L (v := .int ((st * 48271 + 11).fmod 2147483647) t3) x₃ N₃ Sub.refl (by decide) (by decide) rfl ?_
    walk_at "gos"
    have g1 := Int.fmod_nonneg_of_pos (st * 48271 + 11) (b := 2147483647) (by decide)
    have g2 := Int.fmod_lt_of_pos (st * 48271 + 11) (b := 2147483647) (by decide)
    generalize (st * 48271 + 11).fmod 2147483647 = st₁ at x₃ g1 g2
    refine div_i (by decide) (div_ok (m := 7) (by decide) (by decide)) fun t4 tk4 => ?_
    walk_at "gos"
    refine mod_i (by omega) fun t5 tk5 => ?_
    refine BodyEnd.intro F₃ N₃ ⟨S₃.mono (by simp), ⟨hne, _, _, st₁, t3, x₃, hP.but S₃ (by simpa using Ne.symm hne), .nil, hlen, g1, g2⟩, _, _, rfl, Int.fmod_nonneg_of_pos _ hw, Int.fmod_lt_of_pos _ hw⟩
  | @cons z tz ws ms hi =>
    refine if_yes (by simp) ?_
    have hlen' : ws.length + 1 ≤ 64 := by simpa using hlen
    walk_at "gos"
    refine item_L (v := .ref q) hL N Sub.refl (by decide) (by decide) rfl ?_
    walk_at "gos"
    refine method_P PySem.F.slot_list_pop PySem.F.type_list_pop hP N Sub.refl ?_
    walk_at "gos"
    refine pop0_P hP F N Sub.refl (by simp only [sizeLine, List.length_cons]; omega) fun h₃ nw₃ F₃ N₃ x₃ S₃ _ => ?_
    walk_at "gos"
    refine mod_i (by omega) fun t5 tk5 => ?_
    refine BodyEnd.intro F₃ N₃ ⟨S₃.mono (by simp), ⟨hne, _, _, st, t0, hL.but S₃ (by simpa using hne), x₃, hi, by omega, hs0, hs1⟩, _, _, rfl, Int.fmod_nonneg_of_pos _ hw, Int.fmod_lt_of_pos _ hw⟩

section
variable {prog : Program} {w : World} {A : Around} {E : Value → Shared → Prop} {h₀ : Heap} {L : Addr} {m : Str → Option Value} {news nw : Led} {hp : Heap} {gens : Array GenState} {drawn : Drawn} {toks : Nat} {os : OsState} {value slice : Expr} {l : Addr} {vs : List Value} {Q : Value → Shared → Prop}
theorem upto_A {c : Int} {u : Tok} (hl : hp.IsList l vs.toArray) (F : Fr h₀ L hp m) (N : News h₀ L hp nw) (hz : vs.length ≤ sizeLine) (hc : 0 ≤ c)
    (h : ∀ D h' nw', Fr h₀ L h' m → News h₀ L h' nw' → Sub nw nw' → IsP nw' D (vs.take c.toNat) → Fresh nw D → Q (.ref D) ⟨h', gens, drawn, toks, os⟩)
    (hs : subscripted slice false (.ref l) (.ref hp.objs.size) = operate [.ref hp.objs.size, .ref l] (getItem (.ref l) (.ref hp.objs.size)) := by with_unfolding_all rfl) (hg : ∀ r, letTemporaryGo value (.ref l) r = pure () := by intro _; with_unfolding_all rfl) :
    wpAny (model prog w) A (subscriptTail value slice (.ref l) (.ref hp.objs.size)) Q E ⟨hp.push { cls := .type "slice", data := .fields #[.none, .int c u, .none] }, gens, drawn, toks, os⟩ := by
  refine slice_list (s := ⟨hp, gens, drawn, toks, os⟩) F N hl .none (.int c u) (fun h' F' N' => ?_) hs hg (by simpa using hz)
  refine h _ h' _ F' N' Sub.cons ⟨0, ?_⟩ (fun p hp' e => ?_)
  · rw [show c = ((c.toNat : Nat) : Int) by omega, slicePick_upto']
    exact .head _
  · exact absurd (Heap.lt_size (N p hp').1) (Nat.not_lt.mpr (by rw [e]; exact Nat.le_succ _))
theorem from_A {c : Int} {u : Tok} (hl : hp.IsList l vs.toArray) (F : Fr h₀ L hp m) (N : News h₀ L hp nw) (hz : vs.length ≤ sizeLine) (hc : 0 ≤ c)
    (h : ∀ D h' nw', Fr h₀ L h' m → News h₀ L h' nw' → Sub nw nw' → IsP nw' D (vs.drop c.toNat) → Fresh nw D → Q (.ref D) ⟨h', gens, drawn, toks, os⟩)
    (hs : subscripted slice false (.ref l) (.ref hp.objs.size) = operate [.ref hp.objs.size, .ref l] (getItem (.ref l) (.ref hp.objs.size)) := by with_unfolding_all rfl) (hg : ∀ r, letTemporaryGo value (.ref l) r = pure () := by intro _; with_unfolding_all rfl) :
    wpAny (model prog w) A (subscriptTail value slice (.ref l) (.ref hp.objs.size)) Q E ⟨hp.push { cls := .type "slice", data := .fields #[.int c u, .none, .none] }, gens, drawn, toks, os⟩ := by
  refine slice_list (s := ⟨hp, gens, drawn, toks, os⟩) F N hl (.int c u) .none (fun h' F' N' => ?_) hs hg (by simpa using hz)
  refine h _ h' _ F' N' Sub.cons ⟨0, ?_⟩ (fun p hp' e => ?_)
  · rw [show c = ((c.toNat : Nat) : Int) by omega, slicePick_from']
    exact .head _
  · exact absurd (Heap.lt_size (N p hp').1) (Nat.not_lt.mpr (by rw [e]; exact Nat.le_succ _))
end

/-- as Does, with a list in the ground -/
def DoesG (w : World) (f : Addr) (d u : Nat) (vs : List Value) (src : Addr) (its : Array Value) (news : Led) (Out : Led → Value → Prop) : Prop :=
  ∀ (dp un : Nat) (fr : Option (List Env)) (gd : Option (List Code)) (h₀ : Heap) (L : Addr) (m : Str → Option Value) (s : Shared) (Q E : Value → Shared → Prop),
    Fr h₀ L s.heap m → (hd.heap_39 w.params).In h₀ → (∃ p loose mean mg mb, Top p loose mean mg mb h₀) → h₀.IsList src its → News h₀ L s.heap news → dp + d < recursionLimit → un + u < cLine →
    (∀ r news' h' tk', Fr h₀ L h' m → News h₀ L h' news' → Out news' r → Q r { s with heap := h', toks := tk' }) →
    wpAny (model PySem.Challenge.rw_nn0245_01.row.prog w) (Ar dp un fr gd) (call (.ref f) vs) Q E s

theorem does_plainG {w : World} {f : Addr} {d u : Nat} {vs : List Value} {src : Addr} {its : Array Value} {news : Led} {Out : Led → Value → Prop}
    {name qual : Str} {params : Arguments} {body : List Stmt} {scope : Scope} {dV kV doc pm cdv ct oc : Value} {an od : Option Addr} {osl : Array (Option Value)} {binds : List (Str × Value)}
    (ho : (hd.heap_39 w.params).lookup f = some ⟨oc, od, .func (fnOf name qual params body scope dV kV doc pm an cdv ct), osl⟩) (hcd : codeIn (hd.heap_39 w.params) cdv qual = true)
    (hbind : ∀ s, BindsTo s (fnOf name qual params body scope dV kV doc pm an cdv ct) ⟨vs, []⟩ binds) (hloc : ∀ y ∈ binds, scope.names.lookup y.1 = some .local)
    (hcell : ∀ x ∈ scope.names, x.2 ≠ .cell) (hco : scope.isCoroutine = false) (hgen : scope.isGenerator = false) (hk : scope.kind = .function)
    (h : ∀ (dp un : Nat) (fr : Option (List Env)) (gd : Option (List Code)) (g : Heap) (L : Addr) (h₁ : Heap) (tk : Nat) (s : Shared), dp + d < recursionLimit + 1 → un + u < cLine + 3 →
      Fr g L h₁ (fun y => binds.reverse.lookup y) → (hd.heap_39 w.params).In g → (∃ p loose mean mg mb, Top p loose mean mg mb g) → g.IsList src its → News g L h₁ news → (∀ p ∈ news, p.1 < L) →
      wpAny (model PySem.Challenge.rw_nn0245_01.row.prog w) (Ar dp un fr gd) (execs body (envOf qual scope L f cdv)) (BodyEnd g L s Out) (fun _ _ => False) { s with heap := h₁, toks := tk }) (hd0 : 0 < d) : DoesG w f d u vs src its news Out := by
  intro dp un fr gd h₀ L m s Q E F X T HS N hdp hun ret
  refine wpAny_call ?_
  obtain ⟨st, back⟩ := ground F N
  obtain ⟨p, lo, me, mg, mb, T⟩ := T
  refine codeAny_call_def (fd := fnX name qual params body scope [] dV kV doc pm an cdv ct) (body := body) (binds := binds) (by show dp < _; omega) ((X.keeps F.keep) _ _ ho) rfl (T.nolimit.keeps F.keep) (codeRec_of (X.keeps F.keep) hcd) rfl (hbind s) hcell hloc (fun h₁ hns hk₁ => ?_) hco hgen hk
  refine wpAny_mono (h (dp + 1) (un + 3) _ gd (hideAll s.heap (news.map (·.1))) s.heap.objs.size h₁ _ s (by omega) (by omega) ⟨hns, fun b o e => hk₁ b o (of_hideAll _ e), Nat.le_of_eq (hideAll_size _ _)⟩ (X.keeps st) ⟨p, lo, me, mg, mb, T.keeps st⟩
    (let ⟨o, e, r⟩ := HS; ⟨o, st _ _ e, r⟩) (fun p hp => ⟨hk₁ _ _ (N p hp).1, Nat.ne_of_lt (Heap.lt_size (N p hp).1), hideAll_none _ (List.mem_map_of_mem hp)⟩) fun p hp => Heap.lt_size (N p hp).1) (fun fl s' hl => ?_) (fun _ _ y => y.elim)
  obtain ⟨h', tk', m', news', rfl, F', N', hO⟩ := hl
  obtain ⟨F'', N''⟩ := back _ _ _ _ F' N'
  exact ret _ _ _ _ F'' N'' hO

set_option maxHeartbeats 4000000 in
theorem box_ok {w : World} {news : Led} {sc : Addr} {vs : List Value} {ns : List Int} (hi : IntsAre vs ns) (hlen : vs.length ≤ 63) :
   DoesG w 82 3 200 [.ref sc] sc vs.toArray news (fun news' r => Sub news news' ∧ ∃ b q, r = .ref b ∧ Box news' b q ∧ Fresh news b ∧ Fresh news q) := by
  refine' does_plainG (binds := [("script", .ref sc)]) ?ho ?hcd ?hbind ?hloc ?hcell ?hco ?hgen ?hk ?h ?hd0
  walk_at "plain"
  intro dp un fr gd gh L h₁ tk s hdp hun F X T HS N hlt
  have ksc : ∀ {h : Heap} {m : Str → Option Value}, Fr gh L h m → h.IsList sc vs.toArray := fun F => let ⟨o, e, r⟩ := HS; ⟨o, F.keep _ _ e, r⟩
  walk_at "gos"
  rename Fr _ _ _ _ => F₁
  rename News _ _ _ _ => N₁
  refine upto_A (ksc F₁) F₁ N₁ (by simp only [sizeLine]; omega) (by decide) fun D₂ h₂ nw₂ F₂ N₂ S₂ x₂ f₂ => ?_
  clear F₁ N₁
  have hi₂ := hi.take 24
  refine for_list ["stirred"] (fun i u nx => Sub nw₂ nx ∧ ∃ st t, u "stirred" = some (.int st t) ∧ 0 ≤ st ∧ st < 2147483647) rfl x₂.l.src F₂ N₂ ⟨Sub.refl, 83, _, rfl, by decide, by decide⟩ ?turn ?done
  case turn =>
    clear F₂ N₂
    rintro I i v u news₁ own h tk₁ hv ⟨hS, st, t, hst, g0, g1⟩ hoff hI F' N'
    obtain ⟨z, tz, rfl, _⟩ := ints_at hi₂ hv
    walk_at "gos"
    refine mul_i (mul_ok (m := 31) (by omega) (by decide) (by decide)) fun t2 tk2 => ?_
    walk_at "gos"
    refine mod_i (by decide) fun t3 tk3 => ?_
    walk_at "gos"
    rename Fr _ _ _ _ => F₃
    rename News _ _ _ _ => N₃
    exact TurnEnd.next F₃ N₃ (fun p hp => List.mem_append_left _ hp) ⟨by walk_at "keep", sub_off (fun p hp => hoff p (hS p hp)) (hS.trans (by walk_at "sub")), _, _, rfl, Int.fmod_nonneg_of_pos _ (by decide), Int.fmod_lt_of_pos _ (by decide)⟩
  case done =>
    clear F₂ N₂
    rintro u news₁ h tk₁ ⟨hS, st, t, hst, g0, g1⟩ F' N'
    walk_at "gos"
    refine upto_A (ksc F') F' N' (by simp only [sizeLine]; omega) (by decide) fun D₃ h₃ nw₃ F₃ N₃ S₃ x₃ f₃ => ?_
    clear F' N'
    walk_at "gos"
    refine copy_L x₃.l F₃ N₃ Sub.refl (by simp only [sizeLine, List.length_take]; omega) fun D₄ h₄ nw₄ F₄ N₄ S₄ x₄ f₄ => ?_
    clear F₃ N₃
    walk_at "gos"
    rename Fr _ _ _ _ => F₅
    rename News _ _ _ _ => N₅
    rename Fresh nw₄ _ => f₅
    have S₀ : Sub news nw₄ := S₂.trans (hS.trans (S₃.trans S₄))
    exact BodyEnd.intro F₅ N₅ ⟨S₀.trans Sub.cons, _, D₄, rfl, ⟨fun e => x₄.l.fresh f₅ e.symm, _, _, st, t, IsP.l ⟨_, .head _⟩, x₄.sub Sub.cons, hi₂, by simp only [List.length_take]; omega, g0, g1⟩, f₅.sub S₀, f₄.sub (S₂.trans (hS.trans S₃))⟩

theorem head_ints {g : Heap} {L : Addr} {h : Heap} {nw : Led} {D : Addr} {vs : List Value} {k : Nat} {ns : List Int} (_N : News g L h ((D, ({ cls := .type "list", data := .seq vs.toArray k } : Obj)) :: nw)) (hi : IntsAre vs ns) :
    Ints ((D, ({ cls := .type "list", data := .seq vs.toArray k } : Obj)) :: nw) D ns := ⟨vs, IsP.l ⟨_, .head _⟩, hi⟩
set_option maxHeartbeats 4000000 in
theorem whole_ok {w : World} {news : Led} {b q : Addr} (hb : Box news b q) :
   Does w 89 6 300 [.ref b] news (fun news' r => SubBut [b, q] news news' ∧ Box news' b q ∧ ∃ z t', r = .int z t' ∧ z.natAbs ≤ 6) := by
  refine' does_plain (binds := [("box", .ref b)]) ?ho ?hcd ?hbind ?hloc ?hcell ?hco ?hgen ?hk ?h ?hd0
  walk_at "plain"
  intro dp un fr gd gh L h₁ tk s hdp hun F X T N hlt
  walk_at "gos"
  rename Fr _ _ _ _ => F₁
  rename News _ _ _ _ => N₁
  rename Fresh news _ => f₁
  have hx := head_ints N₁ (by repeat constructor)
  have hfb := hb.fresh f₁
  refine take_ok (hb.sub (by walk_at "sub")) (by decide) _ _ _ _ _ _ _ _ _ _ F₁ X T N₁ (by omega) (by omega) ?_
  clear F₁
  rintro r nw₂ h₂ tk₂ F₂ N₂ ⟨S₂, hb₂, z, tz, rfl, hz0, hz1⟩
  have hx₂ := hx.but S₂ (by simp only [List.mem_cons, List.not_mem_nil, or_false, not_or]; exact ⟨Ne.symm hfb.1, Ne.symm hfb.2⟩)
  clear N₁ hx
  walk_at "gos"
  refine item_N z.toNat hx₂ N₂ Sub.refl (by omega) (by show z.toNat < 12; omega) (by decide) fun t3 => ?_
  exact BodyEnd.intro F₂ N₂ ⟨SubBut.left (by walk_at "sub") S₂, hb₂, _, _, rfl, (by decide : ∀ j, j < 12 → (([0, 1, -1, 2, -2, 3, -3, 4, 0, 1, 6, -5] : List Int).getD j 0).natAbs ≤ 6) z.toNat (by omega)⟩

set_option maxHeartbeats 4000000 in
theorem grid_ok {w : World} {news : Led} {b q : Addr} {n : Nat} {t1 t2 : Tok} (hb : Box news b q) (h0 : 1 ≤ n) (h4 : n ≤ 4) :
   Does w 94 10 400 [.ref b, .int n t1, .int n t2] news (fun news' r => SubBut [b, q] news news' ∧ Box news' b q ∧ ∃ g as rows, r = .ref g ∧ Grid news' g as rows ∧ Fresh news g ∧ (∀ a ∈ as, Fresh news a) ∧ rows.length = n ∧ ∀ r ∈ rows, r.length = n ∧ ∀ z ∈ r, z.natAbs ≤ 36) := by
  refine' does_cells (binds := [("box", .ref b), ("high", .int n t1), ("wide", .int n t2)]) ?ho ?hcd ?hbind ?hkind ?hnd ?hco ?hgen ?hk ?h ?hd0
  walk_at "cells"
  intro dp un fr gd gh L h₁ tk s cells hdp hun F X T N Y hlt
  obtain ⟨om, ow, ob, rfl, dm, dw, db⟩ := CellsAre.three (n₁ := "many") (n₂ := "wide") (n₃ := "box") (c₁ := L + 1 + 1 + 1) (c₂ := L + 1 + 1) (c₃ := L + 1) Y
  clear Y
  have hlb : b < L ∧ q < L := by
    obtain ⟨_, _, _, _, _, ⟨_, _, m1, _⟩, ⟨_, m2⟩, _⟩ := hb
    exact ⟨hlt _ m1, hlt _ m2⟩
  have nb1 : L + 1 ∉ [b, q] := two_nin.mpr ⟨neN (by have := ltN hlb.1; omega), neN (by have := ltN hlb.2; omega)⟩
  have nb2 : L + 1 + 1 ∉ [b, q] := two_nin.mpr ⟨neN (by have := ltN hlb.1; omega), neN (by have := ltN hlb.2; omega)⟩
  have nb3 : L + 1 + 1 + 1 ∉ [b, q] := two_nin.mpr ⟨neN (by have := ltN hlb.1; omega), neN (by have := ltN hlb.2; omega)⟩
  have S₀ : Sub news ([(L + 1 + 1 + 1, om), (L + 1 + 1, ow), (L + 1, ob)] ++ news) := fun p hp => List.mem_append_right _ hp
  have cb : CellIn ([(L + 1 + 1 + 1, om), (L + 1 + 1, ow), (L + 1, ob)] ++ news) (L + 1) (.ref b) := ⟨ob, by simp, db⟩
  have cw : CellIn ([(L + 1 + 1 + 1, om), (L + 1 + 1, ow), (L + 1, ob)] ++ news) (L + 1 + 1) (.int n t2) := ⟨ow, by simp, dw⟩
  have mm : (L + 1 + 1 + 1, om) ∈ ([(L + 1 + 1 + 1, om), (L + 1 + 1, ow), (L + 1, ob)] ++ news) := by simp
  generalize ([(L + 1 + 1 + 1, om), (L + 1 + 1, ow), (L + 1, ob)] ++ news) = nw₀ at N S₀ cb cw mm
  have hb₀ := hb.sub S₀
  walk_at "gos"
  rename IsRange _ _ _ _ _ _ _ _ => R'
  rename Fr _ _ _ _ => F'
  rename News _ _ _ _ => N'
  refine' comp_range_l n (fun i ys nx => RowsB [b, q] nw₀ (fun r => r.length = n ∧ ∀ z ∈ r, z.natAbs ≤ 6) i ys nx ∧ Box nx b q) rfl R' (small_one ?a1 ?a2 ?a3 ?a4) ?a5 ?a6 (fun _ => rfl) (fun _ => rfl) rfl rfl F' N' ⟨RowsB.zero, hb₀⟩ ?turn ?use
  case a1 => omega
  case a2 => omega
  case a3 => omega
  case a4 => omega
  case a5 => omega
  case a6 => simp only [sizeLine]; omega
  case turn =>
    clear R' F' N'
    rintro i t C oC m₂ D W O ys news₁ h tk₁ hi hys ⟨hR, hB⟩ ho hO hW hC hm hx F' N'
    have cb₁ := cb.but hR.1 nb1
    have cw₁ := cw.but hR.1 nb2
    unfold CompTurn
    walk_at "gos"
    rename IsRange _ _ _ _ _ _ _ _ => R'
    rename Fr _ _ _ _ => F'
    rename News _ _ _ _ => N'
    have SO : Sub (O ++ [(D, LCg.lst ys)]) (O ++ (D, LCg.lst ys) :: news₁) := by walk_at "sub"
    have Sn : Sub news₁ (O ++ (D, LCg.lst ys) :: news₁) := by walk_at "sub"
    generalize (O ++ (D, LCg.lst ys) :: news₁) = nw₁ at N' SO Sn
    have nin := hB.nin ho
    have own := own_bx (hW.own hO) nin
    refine' comp_range_l n (fun i ys nx => NumsB [b, q] nw₁ (fun z => z.natAbs ≤ 6) i ys nx ∧ Box nx b q) rfl R' (small_one ?b1 ?b2 ?b3 ?b4) ?b5 ?b6 (fun _ => rfl) (fun _ => rfl) rfl rfl F' N' ⟨NumsB.zero, hB.sub Sn⟩ ?turn2 ?use2
    case b1 => omega
    case b2 => omega
    case b3 => omega
    case b4 => omega
    case b5 => omega
    case b6 => simp only [sizeLine]; omega
    case turn2 =>
      clear R' F' N'
      rintro i₂ t C₂ oC₂ m₃ D₂ W₂ O₂ ys₂ news₂ h tk₁ hi₂ hys₂ ⟨hR₂, hB₂⟩ ho₂ hO₂ hW₂ hC₂ hm₂ hx₂ F' N'
      have cb₂ := (cb₁.sub Sn).but hR₂.1 nb1
      unfold CompTurn
      walk_at "gos"
      refine whole_ok (hB₂.sub (by walk_at "sub")) _ _ _ _ _ _ _ _ _ _ F' X T N' (by omega) (by omega) ?_
      rintro r nw₃ h₃ tk₃ F₃ N₃ ⟨S₃, hB₃, z, tz, rfl, hz⟩
      have nin₂ := hB₂.nin ho₂
      exact EltEnd.intro F₃ N₃ (S₃.keeps (by walk_at "sub") (own_bx (hW₂.own hO₂) nin₂)) ⟨hR₂.step ((SubBut.left (by walk_at "sub") S₃).offs ho₂) hz, hB₃.offs nin₂⟩
    case use2 =>
      intro g'
      refine UsePost.expr ?_
      clear F' N'
      rintro D₃ h tk₁ ys₃ news₃ ⟨⟨hS₃, ns, hn₃, hl₃, hz₃⟩, hB₃⟩ F N hf
      have hSc : SubBut [b, q] nw₁ ((D₃, LCg.lst ys₃) :: news₃) := hS₃.trans Sub.cons.but
      refine EltEnd.intro F N (hSc.keeps SO own) ⟨hR.step ((SubBut.left Sn hSc).offs ho) (fresh_but (hR.1.trans (SubBut.left Sn hS₃)) hf (hB₃.dnin hf)) hb₀.mem (Ints.offs ⟨_, IsP.l ⟨_, .head _⟩, hn₃⟩ (hW.off SO (fresh_but hS₃ hf (hB₃.dnin hf)))) ⟨hl₃, hz₃⟩, (hB₃.sub Sub.cons).offs nin⟩
  case use =>
    intro g'
    refine' UsePost.asgS ?uL ?ux ?up ?_
    case uL => exact rfl
    case ux => kernel_rfl
    case up => kernel_rfl
    clear F' N'
    rintro G h tk₁ ys news₁ ⟨hR, hB⟩ F N hfG
    have hfG₀ : Fresh nw₀ G := fresh_but hR.1 hfG (hB.dnin hfG)
    have hSG : SubBut [b, q] nw₀ ((G, LCg.lst ys) :: news₁) := hR.1.trans Sub.cons.but
    have hBG := hB.sub (Sub.cons : Sub news₁ ((G, LCg.lst ys) :: news₁))
    obtain ⟨as, rows, hgr, hrl, hfas, hrows, hGas⟩ := hR.done' hfG
    generalize ((G, LCg.lst ys) :: news₁) = nw₁ at N hSG hgr hBG
    have cb₁ := cb.but hSG nb1
    walk_at "gos"
    by_cases h1n : 1 < n
    case neg =>
      refine if_not (by simp; omega) ?_
      walk_at "gos"
      exact BodyEnd.intro F N ⟨SubBut.left S₀ hSG, hBG, G, as, rows, rfl, hgr, hfG₀.sub S₀, fun a ha => (hfas a ha).sub S₀, hrl, fun r hr => ⟨(hrows r hr).1, fun z hz => Nat.le_trans ((hrows r hr).2 z hz) (by decide)⟩⟩
    case pos =>
      refine if_yes (by simp; omega) ?_
      walk_at "gos"
      have hGb : G ∉ [b, q] := hB.dnin hfG
      refine take_ok hBG (by decide) _ _ _ _ _ _ _ _ _ _ F X T N (by omega) (by omega) ?_
      rintro r nw₂ h₂ tk₂ F₂ N₂ ⟨S₂, hB₂, z, tz, rfl, hz0, hz1⟩
      have hS₂ := hSG.trans S₂
      have hg₂ := hgr.but S₂ hGb fun a ha => hb₀.dnin (hfas a ha)
      have cb₂ := cb.but hS₂ nb1
      clear F N
      walk_at "gos"
      by_cases hz : z = 0
      case neg =>
        refine if_not (beq_no hz) ?_
        walk_at "gos"
        exact BodyEnd.intro F₂ N₂ ⟨SubBut.left S₀ hS₂, hB₂, G, as, rows, rfl, hg₂, hfG₀.sub S₀, fun a ha => (hfas a ha).sub S₀, hrl, fun r hr => ⟨(hrows r hr).1, fun z hz => Nat.le_trans ((hrows r hr).2 z hz) (by decide)⟩⟩
      case pos =>
        refine if_yes (by simp [hz]) ?_
        walk_at "gos"
        refine whole_ok hB₂ _ _ _ _ _ _ _ _ _ _ F₂ X T N₂ (by omega) (by omega) ?_
        rintro r nw₃ h₃ tk₃ F₃ N₃ ⟨S₃, hB₃, y, ty, rfl, hy⟩
        have hS₃ := hS₂.trans S₃
        have hg₃ := hg₂.but S₃ hGb fun a ha => hb₀.dnin (hfas a ha)
        clear F₂ N₂
        have g3 : G ≠ L + 1 + 1 + 1 := fun e => hfG₀ _ mm e.symm
        have a3 : ∀ a ∈ as, a ∉ [L + 1 + 1 + 1] := fun a ha e => hfas a ha _ mm (List.mem_singleton.mp e).symm
        refine' st_c (v := .int y ty) F₃ N₃ (hS₃ _ mm nb3) dm ?sk ?sx ?sc ?_
        case sk => exact rfl
        case sx => exact rfl
        case sc => with_unfolding_all rfl
        intro h₄ nw₄ F₄ N₄ cm S₄ _
        clear F₃ N₃
        have hN₄ : SubBut [b, q] news nw₄ := fun p hp hn => S₄ p (hS₃ p (S₀ p hp) hn) fun e => by
          have h1 := ltN (hlt p hp)
          have h2 := eqN (List.mem_singleton.mp e)
          omega
        have hB₄ := hB₃.but S₄ (fun e => nb3 (by rw [← List.mem_singleton.mp e]; simp)) (fun e => nb3 (by rw [← List.mem_singleton.mp e]; simp))
        have hg₄ := hg₃.but S₄ (fun e => g3 (List.mem_singleton.mp e)) a3
        walk_at "gos"
        have hrl2 : (rows.getD (n - 2) []) ∈ rows := by
          have hl : n - 2 < rows.length := by omega
          rw [show rows.getD (n - 2) [] = rows[n - 2] by simp [hl]]
          exact List.getElem_mem hl
        refine' item_G (n - 2) hg₄ N₄ Sub.refl (by omega) (by omega) (by omega) ?_
        intro ar har hrow
        obtain ⟨hrn, hrz⟩ := hrows _ hrl2
        obtain ⟨vs, hvs, hints⟩ := hrow
        have hvl := hints.length
        refine' comp_list_l (fun i ys nx => NumsB [] nw₄ (fun z => z.natAbs ≤ 36) i ys nx) rfl hvs.src ?z (fun _ => rfl) (fun _ => rfl) rfl rfl F₄ N₄ NumsB.zero ?turn ?use
        case z => simp only [sizeLine]; omega
        case turn =>
          clear F₄ N₄
          rintro i v C oC m₂ D W O ys news₅ h tk₅ hv hys hR₅ ho hO hW hC hm hx F' N'
          obtain ⟨z₅, tz₅, rfl, hz₅⟩ := ints_at hints hv
          have hb₅ := hrz z₅ (List.mem_of_getElem? hz₅)
          have S₅ := hR₅.1.nil
          have cm₅ := cm.sub S₅
          unfold CompTurn
          walk_at "gos"
          refine mul_i (mul_ok (m := 3) (by omega) (by omega) (by decide)) fun t7 tk7 => ?_
          refine EltEnd.intro F' N' (by walk_at "sub") (hR₅.step (sub_offs ho (by walk_at "sub")).but ?_)
          rw [Int.natAbs_mul]
          exact Nat.mul_le_mul hy hb₅
        case use =>
          intro g'
          refine UsePost.expr ?_
          clear F₄ N₄
          rintro D h tk₅ ys news₅ ⟨hS₅, ns, hn₅, hl₅, hz₅⟩ F N hfD
          have S₅ := hS₅.nil
          have hg₅ := hg₄.sub (S₅.trans (Sub.cons (p := (D, LCg.lst ys))))
          have hD : Ints ((D, LCg.lst ys) :: news₅) D ns := ⟨_, IsP.l ⟨_, .head _⟩, hn₅⟩
          have hB₅ := hB₄.sub (S₅.trans (Sub.cons (p := (D, LCg.lst ys))))
          have hN₅ := hN₄.trans (S₅.trans (Sub.cons (p := (D, LCg.lst ys)))).but
          have fD : Fresh nw₄ D := hfD.sub S₅
          generalize ((D, LCg.lst ys) :: news₅) = nw₅ at N hg₅ hD hB₅ hN₅
          walk_at "gos"
          refine set_L (n - 1) hg₅.head F N Sub.refl (by omega) (by simp only [List.length_map]; rw [hg₅.len]; omega) (by simp only [List.length_map]; rw [hg₅.len]; omega) fun h₆ nw₆ F₆ N₆ x₆ S₆ _ => ?_
          clear F N
          walk_at "gos"
          have gd := (hg₄.fresh fD).1
          have hS₆ : SubBut [b, q] news nw₆ := fun p hp hn => S₆ p (hN₅ p hp hn) fun e => hfG₀.sub S₀ p hp (List.mem_singleton.mp e)
          have gb := two_nin.mp hGb
          refine BodyEnd.intro F₆ N₆ ⟨hS₆, hB₅.but S₆ (fun e => gb.1 (List.mem_singleton.mp e).symm) (fun e => gb.2 (List.mem_singleton.mp e).symm), G, as.set (n - 1) D, rows.set (n - 1) ns, rfl, hg₅.put S₆ hGas x₆ (hD.but S₆ fun e => gd (List.mem_singleton.mp e).symm), hfG₀.sub S₀, fun a ha => ?_, by simp [hrl], fun r hr => ?_⟩
          · rcases List.mem_or_eq_of_mem_set ha with h | rfl
            · exact (hfas a h).sub S₀
            · exact fresh_but hN₄ fD (hB₄.dnin fD)
          · rcases List.mem_or_eq_of_mem_set hr with h | rfl
            · exact ⟨(hrows r h).1, fun z hz => Nat.le_trans ((hrows r h).2 z hz) (by decide)⟩
            · exact ⟨by rw [hl₅, hvl, hrn], hz₅⟩

set_option maxHeartbeats 4000000 in
theorem ldet_ok {w : World} {b : Nat} (hb : b ≤ 100) : ∀ (n : Nat), n ≤ 4 → ∀ {news : Led} {g : Addr} {as : List Addr} {rows : List (List Int)}, Grid news g as rows → Square rows → rows.length = n → Bits b rows →
   Does w 99 (n + 3) (200 + 3 * n) [.ref g] news (fun news' r => Sub news news' ∧ ∃ t, r = .int (det n (ent rows)) t) := by
  intro n
  induction n with
  | zero =>
    intro _ news g as rows hg hsq hlen hB
    refine' does_cells (binds := [("grid", .ref g)]) ?ho ?hcd ?hbind ?hkind ?hnd ?hco ?hgen ?hk ?h ?hd0
    walk_at "cells"
    intro dp un fr gd gh L h₁ tk s cells hdp hun F X T N Y hlt
    obtain ⟨oa, rfl, da⟩ := CellsAre.one (n := "spot") (c := L + 1) Y
    have S₀ : Sub news ([(L + 1, oa)] ++ news) := by walk_at "sub"
    clear Y
    generalize ([(L + 1, oa)] ++ news) = nw₀ at N S₀
    walk_at "gos"
    rename Fr _ _ _ _ => F₁
    rename News _ _ _ _ => N₁
    refine eq_G (hg.sub (S₀.trans Sub.cons)) (IsL.nilG (IsP.l ⟨_, .head _⟩)) N₁ Sub.refl (by show un + 64 < cLine; omega) ?_
    walk_at "gos"
    refine if_yes (by simpa using List.length_eq_zero_iff.mp hlen) ?_
    walk_at "gos"
    exact BodyEnd.intro F₁ N₁ ⟨S₀.trans Sub.cons, _, rfl⟩
  | succ n ih =>
    intro hn news g as rows hg hsq hlen hB
    refine' does_cells (binds := [("grid", .ref g)]) ?ho ?hcd ?hbind ?hkind ?hnd ?hco ?hgen ?hk ?h ?hd0
    case hd0 => omega
    case ho => k_is
    case hcd => k_is
    case hbind => exact fun s => BindsTo.of_eq rfl
    case hkind => exact rfl
    case hnd => decide
    case hco => exact rfl
    case hgen => exact rfl
    case hk => exact rfl
    intro dp un fr gd gh L h₁ tk s cells hdp hun F X T N Y hlt
    obtain ⟨oa, rfl, da⟩ := CellsAre.one (n := "spot") (c := L + 1) Y
    have S₀ : Sub news ([(L + 1, oa)] ++ news) := by walk_at "sub"
    have mo : (L + 1, oa) ∈ ([(L + 1, oa)] ++ news) := List.mem_append_left _ (.head _)
    clear Y
    have hal := hg.len
    have nb : ∀ p ∈ news, p.1 ∉ [L + 1] := fun p hp e => by
      have h1 := ltN (hlt p hp)
      have h2 := eqN (List.mem_singleton.mp e)
      omega
    generalize ([(L + 1, oa)] ++ news) = nw₀ at N S₀ mo
    walk_at "gos"
    rename Fr _ _ _ _ => F₁
    rename News _ _ _ _ => N₁
    rename Fresh _ _ => f₁
    refine eq_G (hg.sub (S₀.trans Sub.cons)) (IsL.nilG (IsP.l ⟨_, .head _⟩)) N₁ Sub.refl (by show un + 64 < cLine; omega) ?_
    walk_at "gos"
    refine if_not (by simpa using fun e : rows = [] => by rw [e] at hlen; simp at hlen) ?_
    generalize hnw : ((_ : Addr × Obj) :: nw₀) = nw₁ at N₁
    have S₁ : Sub nw₀ nw₁ := hnw ▸ Sub.cons
    clear hnw f₁
    walk_at "gos"
    rename Fr _ _ _ _ => F₂
    rename News _ _ _ _ => N₂
    refine wpAny_For ?_ ?hs
    case hs => intro _; exact rfl
    walk_at "gos"
    refine' item_G 0 hg N₂ (S₀.trans S₁) rfl (by omega) (by omega) ?_
    intro a0 ha0 hrow0
    obtain ⟨vs, hvs, hints⟩ := hrow0
    have hvl : vs.length = n + 1 := by rw [hints.length, hsq 0 (by omega), hlen]
    walk_at "gos"
    refine enum_call (hvs.sub (S₀.trans S₁)).src F₂ N₂ fun h₃ e it H F₃ N₃ => ?_
    clear F₂ N₂
    refine wpAny_pyIter_enum H.enum ?_
    refine' for_enumC (c := L + 1) (m := ?m) ["worth", "rest"] (fun i u nx => (∃ tw, u "worth" = some (.int (sumTo i fun j => (1 - 2 * ((j : Int) % 2)) * ent rows 0 j * det n (ent (rest rows n j))) tw)) ∧ SubBut [L + 1] nw₁ nx ∧ ∃ o v, (L + 1, o) ∈ nx ∧ o.data = .cell v) rfl (hvs.sub (S₀.trans S₁)).src H ?hE ?hk ?hxi ?hci ?hxc ?hp F₃ N₃ ?hJ ?hJc ?turn ?done
    case hE => passes_own
    case hk => exact rfl
    case hxi => kernel_rfl
    case hci => with_unfolding_all rfl
    case hxc => kernel_rfl
    case hp => kernel_rfl
    case hJ => exact ⟨⟨_, by first | rfl | kernel_rfl⟩, Sub.refl.but, oa, _, S₁ _ mo, da⟩
    case hJc => exact fun i u nx h => h.2.2
    case turn =>
      clear F₃ N₃
      rintro i t v u news₁ news₂ own h tk₁ hv ⟨⟨tw, htw⟩, hS, _⟩ hS₂ hO₂ hC₂ hoff hown hcf F' N'
      obtain ⟨z, tz, rfl, hz⟩ := ints_at hints hv
      have hi : i < n + 1 := by rw [← hvl]; exact (List.getElem?_eq_some_iff.mp hv).1
      have hze : ent rows 0 i = z := by unfold ent; rw [List.getD_eq_getElem?_getD, hz]; rfl
      have hzb : z.natAbs < 2 ^ 100 := by rw [← hze]; exact Nat.lt_of_lt_of_le (hB 0 i) (Nat.pow_le_pow_right (by decide) hb)
      have tail : ∀ nw', Sub (own ++ news₂) nw' → SubBut [L + 1] nw₁ (offs [e, it] nw') ∧ ∃ o v, (L + 1, o) ∈ offs [e, it] nw' ∧ o.data = .cell v := fun nw' S' => by
        obtain ⟨o, ho, d⟩ := hC₂
        refine ⟨SubBut.offs (fun p hp hn => S' p (List.mem_append_right _ (hS₂ p (hS p hp hn) hn))) fun p hp hq => ?_, o, _, mem_offs.mpr ⟨S' _ (List.mem_append_right _ ho), fun hq => hcf ?_⟩, d⟩
        · rcases List.mem_cons.mp hq with q | hq
          · exact H.eo p hp q
          · exact H.io p hp (List.mem_singleton.mp hq)
        · rcases List.mem_cons.mp hq with q | hq
          · exact List.mem_cons.mpr (.inl q)
          · exact List.mem_cons_of_mem _ (List.mem_cons.mpr (.inl (List.mem_singleton.mp hq)))
      have SN : Sub news (own ++ news₂) := fun p hp => List.mem_append_right _ (hS₂ p (hS p (S₁ p (S₀ p hp)) (nb p hp)) (nb p hp))
      have hC₃ : CellIn (own ++ news₂) (L + 1) (.int (i : Int) t) := hC₂.sub (by walk_at "sub")
      have So : Sub own (own ++ news₂) := by walk_at "sub"
      walk_at "gos"
      by_cases h0 : z = 0
      · refine if_not (bne_no h0) ?_
        walk_at "gos"
        refine TurnEndW.next F' N' So ⟨by walk_at "keep", ⟨tw, ?_⟩, tail _ Sub.refl⟩
        rw [sumTo_succ, hze, h0, Int.mul_zero, Int.zero_mul, Int.add_zero]
        exact htw
      · refine if_yes (bne_iff_ne.mpr h0) ?_
        generalize own ++ news₂ = nw₂ at N' tail SN hC₃ So
        walk_at "gos"
        have hg₂ := hg.sub SN
        refine from_A (hg₂.head.list N') F' N' (by simp only [List.length_map, sizeLine]; omega) (by decide) fun D₂ h₂ nw₃ F₃ N₃ S₃ x₃ f₃ => ?_
        clear F' N'
        walk_at "gos"
        have hg₃ := hg₂.sub S₃
        have hC₃' := hC₃.sub S₃
        have hdl : (List.drop (Int.toNat 1) (as.map Value.ref)).length = n := by simp [hal, hlen]
        refine' comp_list_l (fun k ys nx => Rows nw₃ (cut rows i) k ys nx) rfl x₃.l.src ?z (fun _ => rfl) (fun _ => rfl) rfl rfl F₃ N₃ Rows.zero ?turn2 ?use2
        case z => simp only [hdl, sizeLine]; omega
        case turn2 =>
          clear F₃ N₃
          rintro k v C oC m₂ D W O ys news₄ h tk₄ hv₄ hys hR ho hO hW hC hm hx F' N'
          obtain ⟨ak, hak, rfl⟩ : ∃ ak, as[k + 1]? = some ak ∧ v = .ref ak := by
            obtain ⟨h1, h2⟩ := List.getElem?_eq_some_iff.mp hv₄
            have hk : k + 1 < as.length := by rw [hdl] at h1; omega
            refine ⟨as[k + 1], by simp [hk], ?_⟩
            rw [← h2]
            simp
          have hkl : k + 1 < rows.length := by rw [← hal]; exact (List.getElem?_eq_some_iff.mp hak).1
          obtain ⟨vs₄, hvs₄, hi₄⟩ := hg₃.row (k + 1) ak (rows.getD (k + 1) []) hak (by simp [hkl])
          have hrl := hsq (k + 1) hkl
          have hvl₄ := hi₄.length
          have hvs₅ := hvs₄.sub hR.1
          have hC₅ := hC₃'.sub hR.1
          unfold CompTurn
          walk_at "gos"
          refine upto_A ((hvs₅.sub (by walk_at "sub")).list N') F' N' (by simp only [sizeLine]; omega) (by omega) fun D₅ h₅ nw₅ F₅ N₅ S₅ x₅ f₅ => ?_
          have hn₅ : Sub news₄ nw₅ := Sub.trans (by walk_at "sub") S₅
          have ho₅ : Sub (O ++ [(D, LCg.lst ys)]) nw₅ := Sub.trans (by walk_at "sub") S₅
          have hC₆ := hC₅.sub hn₅
          clear F' N'
          walk_at "gos"
          refine from_A ((hvs₅.sub hn₅).list N₅) F₅ N₅ (by simp only [sizeLine]; omega) (by omega) fun D₆ h₆ nw₆ F₆ N₆ S₆ x₆ f₆ => ?_
          clear F₅ N₅
          walk_at "gos"
          refine cat_I (news := nw₆) (ns := (rows.getD (k + 1) []).take i) (ms := (rows.getD (k + 1) []).drop (i + 1)) ⟨_, x₅.l.sub S₆, hi₄.take _⟩ ⟨_, x₆.l, hi₄.drop _⟩ F₆ N₆ Sub.refl (by simp only [List.length_take, List.length_drop, sizeLine]; omega) fun D₇ h₇ nw₇ F₇ N₇ S₇ x₇ f₇ => ?_
          exact EltEnd.intro F₇ N₇ (ho₅.trans (S₆.trans S₇)) (hR.step (sub_offs ho (hn₅.trans (S₆.trans S₇))) (hn₅.trans S₆) f₇ (Ints.offs x₇ (hW.off (ho₅.trans S₆) f₇)))
        case use2 =>
          intro g'
          refine' UsePost.asgS ?uL ?ux ?up ?_
          case uL => exact rfl
          case ux => kernel_rfl
          case up => kernel_rfl
          clear F₃ N₃
          intro DR h tk₄ ys news₄ hR F N hfD
          obtain ⟨asR, ng⟩ := hR.done hfD
          rw [hdl] at ng
          have SR : Sub nw₃ ((DR, LCg.lst ys) :: news₄) := hR.1.trans Sub.cons
          generalize ((DR, LCg.lst ys) :: news₄) = nw₆ at N ng SR
          have hC₆ := hC₃'.sub SR
          dsimp only
          walk_at "gos"
          refine mod_i (by decide) fun t1 tk1 => ?_
          rw [show (i : Int).fmod 2 = (i : Int) % 2 from Int.fmod_eq_emod_of_nonneg _ (by decide)]
          walk_at "gos"
          refine mul_i (mul_ok (m := 2) (by decide) (by omega) (by decide)) fun t3 tk3 => ?_
          walk_at "gos"
          refine mul_i (mul_ok (m := 100) (by rw [sign_abs]; decide) hzb (by decide)) fun t4 tk4 => ?_
          walk_at "gos"
          have hgR : Grid nw₆ DR asR (rest rows n i) := ng.grid
          refine ih (by omega) hgR (rest_sq hsq hlen hi) rest_len (rest_bits hsq hlen hi hB) _ _ _ _ _ _ _ _ _ _ F X T N (by omega) (by omega) ?_
          rintro r nw₇ h₇ tk₇ F₇ N₇ ⟨S₇, tt, rfl⟩
          walk_at "gos"
          refine mul_i (mul_ok (m := 500) ?b1 (det_lt (b := b) (by omega) hb (rest_bits hsq hlen hi hB)) (by decide)) fun t5 tk5 => ?_
          case b1 =>
            rw [Int.natAbs_mul, sign_abs, Nat.one_mul]
            exact Nat.lt_of_lt_of_le hzb (Nat.pow_le_pow_right (by decide) (by decide))
          clear F N
          walk_at "gos"
          rename Fr _ _ _ _ => F₈
          rename News _ _ _ _ => N₈
          refine TurnEndW.next F₈ N₈ (So.trans (S₃.trans (SR.trans S₇))) ⟨by walk_at "keep", ⟨?tk9, ?e9⟩, tail _ (S₃.trans (SR.trans S₇))⟩
          case e9 => rw [sumTo_succ, hze]; exact rfl
    case done =>
      clear F₃ N₃
      rintro u news₁ h tk₁ ⟨⟨tw, htw⟩, hS, _⟩ F' N'
      walk_at "gos"
      refine BodyEnd.intro F' N' ⟨fun p hp => hS p (S₁ p (S₀ p hp)) (nb p hp), tw, ?_⟩
      rw [det_rows hsq hlen, hvl]

theorem sumTo_list {n : Nat} {f : Nat → Int} : ((List.range n).map f).sum = sumTo n f := rfl
/-- the product of two square grids -/
def prod (n : Nat) (A B : List (List Int)) : List (List Int) := (List.range n).map fun i => (List.range n).map fun j => sumTo n fun k => ent A i k * ent B k j
set_option maxHeartbeats 4000000 in
theorem times_ok {w : World} {news : Led} {g g' : Addr} {as bs : List Addr} {Ma Mb : List (List Int)} {n : Nat} {b : Nat} (hg : Grid news g as Ma) (hg' : Grid news g' bs Mb) (hs : Square Ma) (hs' : Square Mb) (hl : Ma.length = n) (hl' : Mb.length = n) (h1 : 1 ≤ n) (h4 : n ≤ 4) (hB : Bits b Ma) (hB' : Bits b Mb) (hb : b ≤ 1000) :
   Does w 104 10 300 [.ref g, .ref g'] news (fun news' r => Sub news news' ∧ ∃ D cs, r = .ref D ∧ NewGrid news news' D (prod n Ma Mb) cs) := by
  refine' does_cells (binds := [("one", .ref g), ("two", .ref g')]) ?ho ?hcd ?hbind ?hkind ?hnd ?hco ?hgen ?hk ?h ?hd0
  walk_at "cells"
  intro dp un fr gd gh L h₁ tk s cells hdp hun F X T N Y hlt
  obtain ⟨ow, ot, rfl, dw, dt⟩ := CellsAre.two (n := "wide") (n' := "two") (c := L + 1 + 1) (c' := L + 1) Y
  clear Y
  have S₀ : Sub news ([(L + 1 + 1, ow), (L + 1, ot)] ++ news) := by walk_at "sub"
  have mw : (L + 1 + 1, ow) ∈ ([(L + 1 + 1, ow), (L + 1, ot)] ++ news) := by simp
  have ct : CellIn ([(L + 1 + 1, ow), (L + 1, ot)] ++ news) (L + 1) (.ref g') := ⟨ot, by simp, dt⟩
  have nb : ∀ p ∈ news, p.1 ∉ [L + 1 + 1] := fun p hp e => by
    have h1 := ltN (hlt p hp)
    have h2 := eqN (List.mem_singleton.mp e)
    omega
  generalize ([(L + 1 + 1, ow), (L + 1, ot)] ++ news) = nw₀ at N S₀ mw ct
  walk_at "gos"
  have hal := hg.len
  have hbl := hg'.len
  rename Fr _ _ _ _ => F₁
  rename News _ _ _ _ => N₁
  rename Fresh _ _ => f₁
  refine ne_G (hg'.sub (S₀.trans Sub.cons)) (IsL.nilG (IsP.l ⟨_, .head _⟩)) N₁ Sub.refl (by show un + 64 < cLine; omega) ?_
  walk_at "gos"
  refine if_yes (by simpa using fun e : Mb = [] => by rw [e] at hl'; simp at hl'; omega) ?_
  generalize hnw : ((_ : Addr × Obj) :: nw₀) = nw₁ at N₁
  have S₁ : Sub nw₀ nw₁ := hnw ▸ Sub.cons
  clear hnw f₁
  walk_at "gos"
  refine' item_G 0 hg' N₁ (S₀.trans S₁) rfl (by omega) (by omega) ?_
  intro a0 ha0 hrow0
  obtain ⟨vs, hvs, hints⟩ := hrow0
  have hvl : vs.length = n := by rw [hints.length, hs' 0 (by omega), hl']
  walk_at "gos"
  refine len_L hvs N₁ (S₀.trans S₁) (by omega) fun tw => ?_
  rw [hvl]
  walk_at "gos"
  refine' st_c (v := .int (n : Nat) tw) F₁ N₁ (S₁ _ mw) dw ?sk ?sx ?sc ?_
  case sk => exact rfl
  case sx => exact rfl
  case sc => with_unfolding_all rfl
  intro h₂ nw₂ F₂ N₂ cw S₂ _
  clear F₁ N₁
  have SN : Sub news nw₂ := fun p hp => S₂ p (S₁ p (S₀ p hp)) (nb p hp)
  have ct₂ : CellIn nw₂ (L + 1) (.ref g') := (ct.sub S₁).but S₂ (fun e => by have := eqN (List.mem_singleton.mp e); omega)
  have hg₂ := hg.sub SN
  have hg₂' := hg'.sub SN
  walk_at "gos"
  refine' comp_list_c (x := "line") (fun i ys nx => Rows nw₂ (fun i => (List.range n).map fun j => sumTo n fun k => ent Ma i k * ent Mb k j) i ys nx) rfl hg₂.head.src ?z (fun _ => rfl) (fun _ => rfl) rfl (fun _ _ => rfl) F₂ N₂ Rows.zero ?turn ?use
  case z => simp only [List.length_map, sizeLine]; omega
  case turn =>
    clear F₂ N₂
    rintro i v C c D W O ys news₃ h tk₃ hv hys hR ho hO hW hcl F' N'
    obtain ⟨ai, hai, rfl⟩ : ∃ ai, as[i]? = some ai ∧ v = .ref ai := by
      obtain ⟨h1, h2⟩ := List.getElem?_eq_some_iff.mp hv
      exact ⟨as[i]'(by simpa using h1), by simp, by simpa using h2.symm⟩
    have hil : i < Ma.length := by rw [← hal]; exact (List.getElem?_eq_some_iff.mp hai).1
    have hrow := (hg₂.sub hR.1).row i ai (Ma.getD i []) hai (by simp [hil])
    have hrl := hs i hil
    have cw₃ := cw.sub hR.1
    have ct₃ := ct₂.sub hR.1
    unfold CompTurn
    walk_at "gos"
    rename IsRange _ _ _ _ _ _ _ _ => R'
    rename Fr _ _ _ _ => F'
    rename News _ _ _ _ => N'
    have SO : Sub (O ++ [(D, LCg.lst ys)]) (O ++ (D, LCg.lst ys) :: news₃) := by walk_at "sub"
    have Sn : Sub news₃ (O ++ (D, LCg.lst ys) :: news₃) := by walk_at "sub"
    have hcl₁ : CellIn (O ++ (D, LCg.lst ys) :: news₃) c (.ref ai) := hcl.sub (by walk_at "sub")
    generalize (O ++ (D, LCg.lst ys) :: news₃) = nw₃ at N' SO Sn hcl₁
    refine' comp_range_c (x := "spot") n (fun j ys nx => Nums nw₃ (fun j => sumTo n fun k => ent Ma i k * ent Mb k j) j ys nx) rfl R' (small_one ?b1 ?b2 ?b3 ?b4) ?b5 ?b6 (fun _ => rfl) (fun _ => rfl) rfl (fun _ _ => rfl) F' N' Nums.zero ?turn2 ?use2
    case b1 => omega
    case b2 => omega
    case b3 => omega
    case b4 => omega
    case b5 => omega
    case b6 => simp only [sizeLine]; omega
    case turn2 =>
      clear R' F' N'
      rintro j tj C₂ c₂ D₂ W₂ O₂ ys₂ news₄ h tk₄ hj hys₂ hR₂ ho₂ hO₂ hW₂ hcl₂ F' N'
      have hcl₄ := hcl₁.sub hR₂.1
      have ct₄ := (ct₃.sub Sn).sub hR₂.1
      have hg₄' := ((hg₂'.sub hR.1).sub Sn).sub hR₂.1
      have hrow₄ := (hrow.sub Sn).sub hR₂.1
      unfold CompTurn
      walk_at "gos"
      refine len_L hg₄'.head N' (by walk_at "sub") (by simp only [List.length_map]; omega) fun tl => ?_
      rw [show (bs.map Value.ref).length = n by simp [hbl, hl']]
      walk_at "gos"
      rename IsRange _ _ _ _ _ _ _ _ => R'
      rename Fr _ _ _ _ => F'
      rename News _ _ _ _ => N'
      have SO₂ : Sub (O₂ ++ [(D₂, LCg.lst ys₂)]) (O₂ ++ (D₂, LCg.lst ys₂) :: news₄) := by walk_at "sub"
      have Sn₂ : Sub news₄ (O₂ ++ (D₂, LCg.lst ys₂) :: news₄) := by walk_at "sub"
      have hcl₅ : CellIn (O₂ ++ (D₂, LCg.lst ys₂) :: news₄) c₂ (.int (0 + (j : Int)) tj) := hcl₂.sub (by walk_at "sub")
      generalize (O₂ ++ (D₂, LCg.lst ys₂) :: news₄) = nw₄ at N' SO₂ Sn₂ hcl₅
      refine' comp_range_l (x := "at") n (fun k ys nx => Nums nw₄ (fun k => ent Ma i k * ent Mb k j) k ys nx) rfl R' (small_one ?d1 ?d2 ?d3 ?d4) ?d5 ?d6 (fun _ => rfl) (fun _ => rfl) rfl rfl F' N' Nums.zero ?turn3 ?use3
      case d1 => omega
      case d2 => omega
      case d3 => omega
      case d4 => omega
      case d5 => omega
      case d6 => simp only [sizeLine]; omega
      case turn3 =>
        clear R' F' N'
        rintro k tk C₃ oC₃ m₃ D₃ W₃ O₃ ys₃ news₅ h tk₅ hk hys₃ hR₃ ho₃ hO₃ hW₃ hC₃ hm₃ hx₃ F' N'
        have hcl₆ := (hcl₄.sub Sn₂).sub hR₃.1
        have hcl₇ := hcl₅.sub hR₃.1
        have ct₆ := (ct₄.sub Sn₂).sub hR₃.1
        have hg₆' := (hg₄'.sub Sn₂).sub hR₃.1
        have hrow₆ := (hrow₄.sub Sn₂).sub hR₃.1
        unfold CompTurn
        walk_at "gos"
        refine' item_N k hrow₆ N' (by walk_at "sub") (by omega) (by rw [hrl]; omega) (by rw [hrl]; omega) ?_
        intro t1
        walk_at "gos"
        refine' item_G k hg₆' N' (by walk_at "sub") (by omega) (by omega) (by omega) ?_
        intro ak hak hrk
        walk_at "gos"
        have hkl := hs' k (by omega)
        refine' item_N j hrk N' (by walk_at "sub") (by omega) (by rw [hkl]; omega) (by rw [hkl]; omega) ?_
        intro t2
        walk_at "gos"
        refine mul_i (mul_ok (m := b) (hB i k) (hB' k j) (by omega)) fun t3 tk3 => ?_
        exact EltEnd.intro F' N' (by walk_at "sub") (hR₃.step (sub_offs ho₃ (by walk_at "sub")) rfl)
      case use3 =>
        intro g'
        refine UsePost.expr ?_
        clear F' N'
        intro D₃ h tk₅ ys₃ news₅ hR₃ F N hf₃
        have hx₃ := hR₃.done (D := D₃)
        have S₅ : Sub nw₄ ((D₃, LCg.lst ys₃) :: news₅) := hR₃.1.trans Sub.cons
        generalize ((D₃, LCg.lst ys₃) :: news₅) = nw₅ at N hx₃ S₅
        dsimp only
        walk_at "gos"
        refine sum_I hx₃ rfl F N Sub.refl fun h₆ tk₆ t₆ F₆ N₆ => ?_
        exact EltEnd.intro F₆ N₆ (SO₂.trans S₅) (hR₂.step (sub_offs ho₂ (Sn₂.trans S₅)) rfl)
    case use2 =>
      intro g'
      refine UsePost.expr ?_
      clear F' N'
      intro D₂ h tk₄ ys₂ news₄ hR₂ F N hf₂
      have S₄ : Sub nw₃ ((D₂, LCg.lst ys₂) :: news₄) := hR₂.1.trans Sub.cons
      have fD : Fresh nw₃ D₂ := hf₂.sub hR₂.1
      exact EltEnd.intro F N (SO.trans S₄) (hR.step (sub_offs ho (Sn.trans S₄)) Sn fD ((hR₂.done (D := D₂)).offs (hW.off SO fD)))
  case use =>
    intro g''
    refine UsePost.expr ?_
    clear F₂ N₂
    intro D h tk₃ ys news₃ hR F N hf
    obtain ⟨cs, ng⟩ := hR.done hf
    rw [show (as.map Value.ref).length = n by simp [hal, hl]] at ng
    dsimp only
    walk_at "gos"
    exact BodyEnd.intro F N ⟨SN.trans (hR.1.trans Sub.cons), D, cs, rfl, ng.grid, ng.nodup, ng.off, ng.fresh.sub SN, fun a ha => (ng.freshes a ha).sub SN⟩

/-- the places taken so far where r is left out -/
def cnt (r i : Nat) : Nat := if r < i then i - 1 else i
theorem cnt_zero {r : Nat} : cnt r 0 = 0 := by unfold cnt; split <;> omega
theorem cnt_same {r : Nat} : cnt r (r + 1) = cnt r r := by unfold cnt; rw [if_pos (by omega), if_neg (by omega)]; omega
theorem cnt_succ {r i : Nat} (h : i ≠ r) : cnt r (i + 1) = cnt r i + 1 := by unfold cnt; split <;> split <;> omega
theorem skp_cnt {r i : Nat} (h : i ≠ r) : skp r (cnt r i) = i := by unfold skp cnt; split <;> split <;> omega
theorem cnt_all {r n : Nat} (h : r < n) : cnt r n = n - 1 := by unfold cnt; rw [if_pos h]
theorem Rows.mono {old n₁ n₂ : Led} {f : Nat → List Int} {i : Nat} {ys : List Value} (x : Rows old f i ys n₁) (s : Sub n₁ n₂) : Rows old f i ys n₂ := let ⟨so, as, e, hl, nd, fr, hr⟩ := x; ⟨so.trans s, as, e, hl, nd, fr, fun k a h => (hr k a h).sub s⟩
theorem Nums.mono {old n₁ n₂ : Led} {f : Nat → Int} {i : Nat} {ys : List Value} (x : Nums old f i ys n₁) (s : Sub n₁ n₂) : Nums old f i ys n₂ := ⟨x.1.trans s, x.2⟩
def mnr (n : Nat) (M : List (List Int)) (r c : Nat) : List (List Int) := (List.range (n - 1)).map fun k => (List.range (n - 1)).map fun j => ent M (skp r k) (skp c j)
set_option maxHeartbeats 4000000 in
theorem minor_ok {w : World} {news : Led} {g : Addr} {as : List Addr} {M : List (List Int)} {n r c : Nat} {tr tc : Tok} (hg : Grid news g as M) (hs : Square M) (hl : M.length = n) (h4 : n ≤ 4) (hr : r < n) (hc : c < n) :
   Does w 58 10 300 [.ref g, .int (r : Nat) tr, .int (c : Nat) tc] news (fun news' v => Sub news news' ∧ ∃ D cs, v = .ref D ∧ NewGrid news news' D (mnr n M r c) cs) := by
  refine' does_cells (binds := [("a", .ref g), ("row", .int (r : Nat) tr), ("column", .int (c : Nat) tc)]) ?ho ?hcd ?hbind ?hkind ?hnd ?hco ?hgen ?hk ?h ?hd0
  walk_at "cells"
  intro dp un fr gd gh L h₁ tk s cells hdp hun F X T N Y hlt
  obtain ⟨oc, ow, rfl, dc, dr⟩ := CellsAre.two (n := "column") (n' := "row") (c := L + 1 + 1) (c' := L + 1) Y
  clear Y
  have S₀ : Sub news ([(L + 1 + 1, oc), (L + 1, ow)] ++ news) := by walk_at "sub"
  have cc : CellIn ([(L + 1 + 1, oc), (L + 1, ow)] ++ news) (L + 1 + 1) (.int (c : Nat) tc) := ⟨oc, by simp, dc⟩
  have cr : CellIn ([(L + 1 + 1, oc), (L + 1, ow)] ++ news) (L + 1) (.int (r : Nat) tr) := ⟨ow, by simp, dr⟩
  generalize ([(L + 1 + 1, oc), (L + 1, ow)] ++ news) = nw₀ at N S₀ cc cr
  have hal := hg.len
  have hg₀ := hg.sub S₀
  walk_at "gos"
  refine enum_call hg₀.head.src F N fun h₂ e it H F₂ N₂ => ?_
  clear F N
  refine' comp_enum (x := "spot") (b := "line") (fun i ys nx => Rows nw₀ (fun k => (List.range (n - 1)).map fun j => ent M (skp r k) (skp c j)) (cnt r i) ys nx) rfl hg₀.head.src ?z H (fun _ => rfl) (fun _ => rfl) rfl rfl rfl (by decide) F₂ N₂ (by rw [cnt_zero]; exact Rows.zero) ?turn ?use
  case z => simp only [List.length_map, sizeLine]; omega
  case turn =>
    clear F₂ N₂
    rintro i ti v C oC m₂ D W O ys news₃ h tk₃ hv hys hR ho hO hW hC hm hx hb F' N'
    obtain ⟨ai, hai, rfl⟩ : ∃ ai, as[i]? = some ai ∧ v = .ref ai := by
      obtain ⟨h1, h2⟩ := List.getElem?_eq_some_iff.mp hv
      exact ⟨as[i]'(by simpa using h1), by simp, by simpa using h2.symm⟩
    have hil : i < M.length := by rw [← hal]; exact (List.getElem?_eq_some_iff.mp hai).1
    have hrow := (hg₀.sub hR.1).row i ai (M.getD i []) hai (by simp [hil])
    have hrl := hs i hil
    have cc₃ := cc.sub hR.1
    have cr₃ := cr.sub hR.1
    unfold CompTurn
    walk_at "gos"
    by_cases hir : i = r
    · refine if_not (bne_no (by rw [hir])) ?_
      refine EltEnd.intro F' N' (by walk_at "sub") ?_
      subst hir
      rw [cnt_same]
      exact hR.mono (sub_offs ho (by walk_at "sub"))
    · refine if_yes (bne_iff_ne.mpr (by omega)) ?_
      walk_at "gos"
      obtain ⟨vs, hvs, hints⟩ := hrow
      have hvl : vs.length = n := by rw [hints.length, hrl, hl]
      have SO : Sub (O ++ [(D, LCg.lst ys)]) (O ++ (D, LCg.lst ys) :: news₃) := by walk_at "sub"
      have Sn : Sub news₃ (O ++ (D, LCg.lst ys) :: news₃) := by walk_at "sub"
      generalize (O ++ (D, LCg.lst ys) :: news₃) = nw₃ at N' SO Sn
      refine enum_call (hvs.sub Sn).src F' N' fun h₄ e₄ it₄ H₄ F₄ N₄ => ?_
      clear F' N'
      refine' comp_enum (x := "at") (b := "one") (fun j ys nx => Nums nw₃ (fun j => ent M i (skp c j)) (cnt c j) ys nx) rfl (hvs.sub Sn).src ?z2 H₄ (fun _ => rfl) (fun _ => rfl) rfl rfl rfl (by decide) F₄ N₄ (by rw [cnt_zero]; exact Nums.zero) ?turn2 ?use2
      case z2 => simp only [sizeLine]; omega
      case turn2 =>
        clear F₄ N₄
        rintro j tj v C₂ oC₂ m₃ D₂ W₂ O₂ ys₂ news₄ h tk₄ hv₂ hys₂ hR₂ ho₂ hO₂ hW₂ hC₂ hm₂ hx₂ hb₂ F' N'
        obtain ⟨z, tz, rfl, hz⟩ := ints_at hints hv₂
        have hze : ent M i j = z := by unfold ent; rw [List.getD_eq_getElem?_getD, hz]; rfl
        have cc₄ := (cc₃.sub Sn).sub hR₂.1
        unfold CompTurn
        walk_at "gos"
        by_cases hjc : j = c
        · refine if_not (bne_no (by rw [hjc])) ?_
          refine EltEnd.intro F' N' (by walk_at "sub") ?_
          subst hjc
          rw [cnt_same]
          exact hR₂.mono (sub_offs ho₂ (by walk_at "sub"))
        · refine if_yes (bne_iff_ne.mpr (by omega)) ?_
          walk_at "gos"
          refine EltEnd.intro F' N' (by walk_at "sub") ?_
          rw [cnt_succ hjc]
          exact hR₂.step (sub_offs ho₂ (by walk_at "sub")) (by rw [skp_cnt hjc]; exact hze.symm)
      case use2 =>
        intro g'
        refine UsePost.expr ?_
        clear F₄ N₄
        intro D₂ h tk₄ ys₂ news₄ hR₂ F N hf₂
        rw [hvl, cnt_all hc] at hR₂
        have S₄ : Sub nw₃ ((D₂, LCg.lst ys₂) :: news₄) := hR₂.1.trans Sub.cons
        have fD : Fresh nw₃ D₂ := hf₂.sub hR₂.1
        refine EltEnd.intro F N (SO.trans S₄) ?_
        rw [cnt_succ hir]
        exact hR.step (sub_offs ho (Sn.trans S₄)) Sn fD (by rw [skp_cnt hir]; exact (hR₂.done (D := D₂)).offs (hW.off SO fD))
  case use =>
    intro g''
    refine UsePost.expr ?_
    clear F₂ N₂
    intro D h tk₃ ys news₃ hR F N hf
    rw [show (as.map Value.ref).length = n by simp [hal, hl], cnt_all hr] at hR
    obtain ⟨cs, ng⟩ := hR.done hf
    dsimp only
    walk_at "gos"
    exact BodyEnd.intro F N ⟨S₀.trans (hR.1.trans Sub.cons), D, cs, rfl, ng.grid, ng.nodup, ng.off, ng.fresh.sub S₀, fun a ha => (ng.freshes a ha).sub S₀⟩

/-- a minor with a border: the first k rows and columns, and the row i and the column j -/
def bord (k : Nat) (P : Nat → Nat → Int) (i j : Nat) : Int := det (k + 1) fun r c => P (if r < k then r else i) (if c < k then c else j)
theorem bord0 (P : Nat → Nat → Int) (i j : Nat) : bord 0 P i j = P i j := by simp [bord, det1]
theorem bord1 (P : Nat → Nat → Int) (i j : Nat) : bord 1 P i j = P 0 0 * P i j - P 0 j * P i 0 := by simp [bord, det2]
theorem bord2 (P : Nat → Nat → Int) (i j : Nat) : bord 2 P i j = d3 (P 0 0) (P 0 1) (P 0 j) (P 1 0) (P 1 1) (P 1 j) (P i 0) (P i 1) (P i j) := by simp [bord, det3]
theorem bord3 (P : Nat → Nat → Int) (i j : Nat) : bord 3 P i j = d4 (P 0 0) (P 0 1) (P 0 2) (P 0 j) (P 1 0) (P 1 1) (P 1 2) (P 1 j) (P 2 0) (P 2 1) (P 2 2) (P 2 j) (P i 0) (P i 1) (P i 2) (P i j) := by simp [bord, det4]
theorem bord_self {k : Nat} (P : Nat → Nat → Int) : bord k P k k = det (k + 1) P := det_congr fun i j hi hj => by
  have e1 : (if i < k then i else k) = i := by split <;> omega
  have e2 : (if j < k then j else k) = j := by split <;> omega
  rw [e1, e2]
theorem syl {k : Nat} (hk : k ≤ 2) (P : Nat → Nat → Int) (i j : Nat) : bord k P i j * bord k P k k - bord k P i k * bord k P k j = det k P * bord (k + 1) P i j := by
  obtain rfl | rfl | rfl : k = 0 ∨ k = 1 ∨ k = 2 := by omega
  · simp only [bord0, bord1, det0, Nat.reduceAdd]; grind
  · simp only [bord1, bord2, det1, d3, Nat.reduceAdd]; grind
  · simp only [bord2, bord3, det2, d3, d4, Nat.reduceAdd]; grind
theorem zero_of_mul {a b : Int} (h : a ≠ 0) (e : a * b = 0) : b = 0 := (Int.mul_eq_zero.mp e).resolve_left h
theorem chio (P : Nat → Nat → Int) : P 0 0 * P 0 0 * det 4 P = d3 (bord 1 P 1 1) (bord 1 P 1 2) (bord 1 P 1 3) (bord 1 P 2 1) (bord 1 P 2 2) (bord 1 P 2 3) (bord 1 P 3 1) (bord 1 P 3 2) (bord 1 P 3 3) := by
  simp only [bord1, det4, d4, d3]; grind
theorem det_stop {n k : Nat} (hn : n ≤ 4) (hk : k < n) (P : Nat → Nat → Int) (h : det k P ≠ 0) (hz : ∀ j, k ≤ j → j < n → bord k P j k = 0) : det n P = 0 := by
  by_cases hl : k + 1 = n
  · subst hl
    rw [← bord_self]
    exact hz k (Nat.le_refl _) hk
  · by_cases hl2 : k + 2 = n
    · subst hl2
      have e := syl (k := k) (by omega) P (k + 1) (k + 1)
      rw [hz k (Nat.le_refl _) hk, hz (k + 1) (by omega) (by omega), bord_self] at e
      exact zero_of_mul h (by simpa using e.symm)
    · obtain ⟨rfl, rfl⟩ | ⟨rfl, rfl⟩ | ⟨rfl, rfl⟩ : k = 0 ∧ n = 3 ∨ k = 0 ∧ n = 4 ∨ k = 1 ∧ n = 4 := by omega
      · have h0 := hz 0 (by omega) (by omega)
        have h1 := hz 1 (by omega) (by omega)
        have h2 := hz 2 (by omega) (by omega)
        rw [bord0] at h0 h1 h2
        rw [det3, h0, h1, h2]; unfold d3; grind
      · have h0 := hz 0 (by omega) (by omega)
        have h1 := hz 1 (by omega) (by omega)
        have h2 := hz 2 (by omega) (by omega)
        have h3 := hz 3 (by omega) (by omega)
        rw [bord0] at h0 h1 h2 h3
        rw [det4, h0, h1, h2, h3]; unfold d4 d3; grind
      · have e := chio P
        rw [hz 1 (by omega) (by omega), hz 2 (by omega) (by omega), hz 3 (by omega) (by omega)] at e
        rw [det1] at h
        rw [Int.mul_assoc] at e
        exact zero_of_mul h (zero_of_mul h (e.trans (by unfold d3; grind)))
/-- two rows change places -/
def swp (k r i : Nat) : Nat := if i = k then r else if i = r then k else i
theorem det_swap {n k r : Nat} (hn : n ≤ 4) (hk : k < r) (hr : r < n) (P : Nat → Nat → Int) : det n (fun i j => P (swp k r i) j) = -det n P := by
  rcases five hn with rfl | rfl | rfl | rfl | rfl
  · omega
  · omega
  · obtain ⟨rfl, rfl⟩ : k = 0 ∧ r = 1 := by omega
    simp [det2, swp]; grind
  · obtain ⟨rfl, rfl⟩ | ⟨rfl, rfl⟩ | ⟨rfl, rfl⟩ : k = 0 ∧ r = 1 ∨ k = 0 ∧ r = 2 ∨ k = 1 ∧ r = 2 := by omega
    all_goals (simp [det3, swp, d3]; grind)
  · obtain ⟨rfl, rfl⟩ | ⟨rfl, rfl⟩ | ⟨rfl, rfl⟩ | ⟨rfl, rfl⟩ | ⟨rfl, rfl⟩ | ⟨rfl, rfl⟩ : k = 0 ∧ r = 1 ∨ k = 0 ∧ r = 2 ∨ k = 0 ∧ r = 3 ∨ k = 1 ∧ r = 2 ∨ k = 1 ∧ r = 3 ∨ k = 2 ∧ r = 3 := by omega
    all_goals (simp [det4, swp, d4, d3]; grind)

/-- how many bits the rows may have at step k -/
def bk (b k : Nat) : Nat := 2 ^ k * (b + 1) - 1
theorem bk_succ {b k : Nat} : bk b (k + 1) = 2 * bk b k + 1 := by
  unfold bk
  have : 0 < 2 ^ k * (b + 1) := Nat.mul_pos (Nat.two_pow_pos k) (by omega)
  rw [Nat.pow_succ, Nat.mul_comm (2 ^ k) 2, Nat.mul_assoc]; omega
theorem bk_le {b k : Nat} (hk : k ≤ 4) (hb : b ≤ 100) : bk b k ≤ 4000 := by
  unfold bk
  have h1 : 2 ^ k ≤ 2 ^ 4 := Nat.pow_le_pow_right (by decide) hk
  have : 2 ^ k * (b + 1) ≤ 16 * 101 := Nat.mul_le_mul h1 (by omega)
  omega
/-- the loop of determinant -/
def BI (n b : Nat) (D : Int) (k : Nat) (M : List (List Int)) (sg ah : Int) : Prop :=
  M.length = n ∧ Square M ∧ ah ≠ 0 ∧ (sg = 1 ∨ sg = -1) ∧ Bits (bk b k) M ∧ ah.natAbs < 2 ^ bk b k ∧
    ∃ P : Nat → Nat → Int, sg * det n P = D ∧ ah = det k P ∧ ∀ i j, k ≤ i → k ≤ j → i < n → j < n → ent M i j = bord k P i j

theorem ent_len {M : List (List Int)} {i j : Nat} (h : M.length ≤ i) : ent M i j = 0 := by
  unfold ent; rw [show M.getD i [] = [] by simp [List.getD, List.getElem?_eq_none h]]; rfl
theorem ent_len2 {M : List (List Int)} {i j : Nat} (h : (M.getD i []).length ≤ j) : ent M i j = 0 := by
  unfold ent; rw [List.getD_eq_getElem?_getD, List.getElem?_eq_none h]; rfl
theorem swap_rows {M : List (List Int)} {r k : Nat} (hr : r < M.length) (hk : k < M.length) (hne : r ≠ k) (i : Nat) : ((M.set r (M.getD k [])).set k (M.getD r [])).getD i [] = M.getD (swp k r i) [] := by
  rw [getD_set, getD_set]
  unfold swp
  by_cases h1 : k = i
  · subst h1; simp [hk]
  · rw [if_neg (fun e => h1 e.1), if_neg (Ne.symm h1)]
    by_cases h2 : r = i
    · subst h2; simp [hr]
    · rw [if_neg (fun e => h2 e.1), if_neg (Ne.symm h2)]
theorem bits_up {b : Nat} {x y z u : Int} (hx : x.natAbs < 2 ^ b) (hy : y.natAbs < 2 ^ b) (hz : z.natAbs < 2 ^ b) (hu : u.natAbs < 2 ^ b) : (x * y - z * u).natAbs < 2 ^ (2 * b + 1) := by
  have h1 : (x * y).natAbs < 2 ^ (2 * b) := by
    rw [Int.natAbs_mul, show 2 * b = b + b by omega, Nat.pow_add]; exact Nat.mul_lt_mul'' hx hy
  have h2 : (z * u).natAbs < 2 ^ (2 * b) := by
    rw [Int.natAbs_mul, show 2 * b = b + b by omega, Nat.pow_add]; exact Nat.mul_lt_mul'' hz hu
  rw [Nat.pow_succ]
  omega
theorem fdiv_le (a : Int) {b : Int} (_h : b ≠ 0) : (a.fdiv b).natAbs ≤ a.natAbs := Int.natAbs_fdiv_le_natAbs a b

theorem keeps_BI {n b : Nat} (hn : n ≤ 4) (hb : b ≤ 100) (D : Int) : Keeps3 n D (BI n b D) where
  len := fun k M sg ah h => ⟨h.1, h.2.1, h.2.2.1, h.2.2.2.1⟩
  stop := fun k M sg ah h hk hz => by
    obtain ⟨hl, hs, ha, hg, _, _, P, h1, h2, h3⟩ := h
    rw [← h1, det_stop hn hk P (h2 ▸ ha) fun j h4 h5 => by rw [← h3 j k h4 (Nat.le_refl _) h5 hk]; exact hz j h4 h5]
    exact Int.mul_zero _
  swap := fun k M sg ah r h hkr hr hne => by
    obtain ⟨hl, hs, ha, hg, hB, hB2, P, h1, h2, h3⟩ := h
    have sw := swap_rows (M := M) (r := r) (k := k) (by omega) (by omega) hne
    have hσ : ∀ i, k ≤ i → i < n → k ≤ swp k r i ∧ swp k r i < n := fun i _ _ => by unfold swp; split <;> (try split) <;> omega
    refine ⟨by simp [hl], fun i hi => ?_, ha, by omega, fun i j => ?_, hB2, fun i j => P (swp k r i) j, ?_, ?_, fun i j hi hj hi2 hj2 => ?_⟩
    · rw [sw]
      have hi' : i < M.length := by simpa using hi
      have : swp k r i < M.length := by unfold swp; split <;> (try split) <;> omega
      rw [hs _ this]; simp
    · have := hB (swp k r i) j
      unfold ent at this ⊢
      rwa [sw]
    · rw [det_swap hn (by omega) hr, ← h1, Int.neg_mul_neg]
    · rw [h2]
      exact det_congr fun i j hi _ => by rw [show swp k r i = i by unfold swp; rw [if_neg (by omega), if_neg (by omega)]]
    · have e : ent ((M.set r (M.getD k [])).set k (M.getD r [])) i j = ent M (swp k r i) j := by unfold ent; rw [sw]
      rw [e, h3 _ _ (hσ i hi hi2).1 hj (hσ i hi hi2).2 hj2]
      unfold bord
      refine det_congr fun x y hx hy => ?_
      by_cases h : x < k
      · simp only [if_pos h]
        rw [show swp k r x = x by unfold swp; rw [if_neg (by omega), if_neg (by omega)]]
      · simp only [if_neg h]
  step := fun k M sg ah M' h hk hne hst => by
    obtain ⟨hl, hs, ha, hg, hB, hB2, P, h1, h2, h3⟩ := h
    have hup : ∀ x : Int, x.natAbs < 2 ^ bk b k → x.natAbs < 2 ^ bk b (k + 1) := fun x hx => Nat.lt_of_lt_of_le hx (Nat.pow_le_pow_right (by decide) (by rw [bk_succ]; omega))
    have hpos : (0 : Int).natAbs < 2 ^ bk b (k + 1) := Nat.two_pow_pos _
    have hkk : ent M k k = det (k + 1) P := by rw [h3 k k (Nat.le_refl _) (Nat.le_refl _) hk hk, bord_self]
    refine ⟨hst.len.trans hl, hst.sq, hne, hg, fun i j => ?_, hup _ (hB k k), P, h1, hkk, fun i j hi hj hi2 hj2 => ?_⟩
    · by_cases hi : i < n
      · by_cases hik : i ≤ k
        · have := hup _ (hB i j)
          unfold ent at this ⊢
          rw [hst.top i hik]; exact this
        · by_cases hj : j < n
          · by_cases hjk : j < k
            · rw [hst.left i j (by omega) hjk (by omega)]; exact hup _ (hB i j)
            · by_cases e : j = k
              · subst e; rw [hst.zero i (by omega) (by omega)]; exact hpos
              · rw [hst.val i j (by omega) (by omega) (by omega) (by omega)]
                unfold bval
                refine Nat.lt_of_le_of_lt (fdiv_le _ ha) ?_
                rw [bk_succ]
                exact bits_up (hB _ _) (hB _ _) (hB _ _) (hB _ _)
          · rw [ent_len2 (by rw [hst.sq i (by rw [hst.len]; omega), hst.len]; omega)]; exact hpos
      · rw [ent_len (by rw [hst.len]; omega)]; exact hpos
    · rw [hst.val i j (by omega) (by omega) (by omega) (by omega)]
      unfold bval
      rw [h3 i j (by omega) (by omega) hi2 hj2, h3 k k (Nat.le_refl _) (Nat.le_refl _) hk hk, h3 i k (by omega) (Nat.le_refl _) hi2 hk, h3 k j (Nat.le_refl _) (by omega) hk hj2, syl (by omega), ← h2]
      exact Int.mul_fdiv_cancel_left _ ha
  done := fun M sg ah h => by
    obtain ⟨_, _, _, _, _, _, P, h1, h2, _⟩ := h
    rw [h2]; exact h1
  bits := fun k M sg ah h hk => ⟨bk b k, bk_le (by omega) hb, h.2.2.2.2.1, h.2.2.2.2.2.1⟩
theorem BI_start {rows : List (List Int)} {b : Nat} (hs : Square rows) (hB : Bits b rows) (hb : 1 ≤ b) : BI rows.length b (det rows.length (ent rows)) 0 rows 1 1 := by
  have e : bk b 0 = b := by unfold bk; simp
  refine ⟨rfl, hs, by decide, .inl rfl, e.symm ▸ hB, ?_, ent rows, Int.one_mul _, rfl, fun i j _ _ _ _ => (bord0 _ _ _).symm⟩
  rw [e]
  exact Nat.lt_of_lt_of_le (by decide : (1 : Int).natAbs < 2 ^ 1) (Nat.pow_le_pow_right (by decide) hb)
theorem det_ok {w : World} {news : Led} {g : Addr} {as : List Addr} {rows : List (List Int)} {n b : Nat} (hg : Grid news g as rows) (hsq : Square rows) (hl : rows.length = n) (hn : n ≤ 4) (hB : Bits b rows) (h1 : 1 ≤ b) (hb : b ≤ 100) :
   Does w 53 8 200 [.ref g] news (fun news' r => Sub news news' ∧ ∃ t, r = .int (det n (ent rows)) t) := by
  subst hl
  exact det_walk hg hsq hn (keeps_BI hn hb _) (BI_start hsq hB h1)

/-- the upper left part -/
def topl (M : List (List Int)) (s : Nat) : List (List Int) := (List.range s).map fun i => (M.getD i []).take s
theorem topl_len {M : List (List Int)} {s : Nat} : (topl M s).length = s := by simp [topl]
theorem topl_sq {M : List (List Int)} {s : Nat} (hs : Square M) (hl : s ≤ M.length) : Square (topl M s) := fun i hi => by
  rw [topl_len] at hi ⊢
  unfold topl
  rw [getD_map_range, if_pos hi, List.length_take, hs i (by omega)]
  omega
theorem topl_ent {M : List (List Int)} {s i j : Nat} : ent (topl M s) i j = if i < s ∧ j < s then ent M i j else 0 := by
  unfold ent topl
  rw [getD_map_range]
  by_cases hi : i < s
  · rw [if_pos hi]
    by_cases hj : j < s
    · rw [if_pos ⟨hi, hj⟩]
      simp [List.getD_eq_getElem?_getD, List.getElem?_take, hj]
    · rw [if_neg (fun h => hj h.2)]
      simp [List.getD_eq_getElem?_getD, List.getElem?_take, hj]
  · rw [if_neg hi, if_neg (fun h => hi h.1)]
    rfl
theorem topl_det {M : List (List Int)} {s : Nat} : det s (ent (topl M s)) = det s (ent M) := det_congr fun i j hi hj => by rw [topl_ent, if_pos ⟨hi, hj⟩]
theorem topl_bits {M : List (List Int)} {s b : Nat} (hB : Bits b M) : Bits b (topl M s) := fun i j => by
  rw [topl_ent]
  split
  · exact hB i j
  · exact Nat.two_pow_pos b

set_option maxHeartbeats 4000000 in
theorem lead_ok {w : World} {news : Led} {g : Addr} {as : List Addr} {M : List (List Int)} {n b : Nat} (hg : Grid news g as M) (hs : Square M) (hl : M.length = n) (h1 : 1 ≤ n) (h4 : n ≤ 4) (hB : Bits b M) (hb1 : 1 ≤ b) (hb : b ≤ 100) :
   Does w 68 12 300 [.ref g] news (fun news' v => Sub news news' ∧ ∃ D, v = .ref D ∧ Ints news' D ((List.range n).map fun k => det (k + 1) (ent M))) := by
  refine' does_cells (binds := [("a", .ref g)]) ?ho ?hcd ?hbind ?hkind ?hnd ?hco ?hgen ?hk ?h ?hd0
  walk_at "cells"
  intro dp un fr gd gh L h₁ tk s cells hdp hun F X T N Y hlt
  obtain ⟨oa, rfl, da⟩ := CellsAre.one (n := "a") (c := L + 1) Y
  clear Y
  have S₀ : Sub news ([(L + 1, oa)] ++ news) := by walk_at "sub"
  have ca : CellIn ([(L + 1, oa)] ++ news) (L + 1) (.ref g) := ⟨oa, by simp, da⟩
  generalize ([(L + 1, oa)] ++ news) = nw₀ at N S₀ ca
  have hal := hg.len
  have hg₀ := hg.sub S₀
  walk_at "gos"
  refine len_L hg₀.head N Sub.refl (by simp only [List.length_map]; omega) fun tl => ?_
  rw [show (as.map Value.ref).length = n by simp [hal, hl]]
  walk_at "gos"
  rename IsRange _ _ _ _ _ _ _ _ => R'
  rename Fr _ _ _ _ => F'
  rename News _ _ _ _ => N'
  refine' comp_range_c (x := "size") n (fun k ys nx => Nums nw₀ (fun k => det (k + 1) (ent M)) k ys nx) rfl R' (small_one ?b1 ?b2 ?b3 ?b4) ?b5 ?b6 (fun _ => rfl) (fun _ => rfl) rfl (fun _ _ => rfl) F' N' Nums.zero ?turn ?use
  case b1 => omega
  case b2 => omega
  case b3 => omega
  case b4 => omega
  case b5 => omega
  case b6 => simp only [sizeLine]; omega
  case turn =>
    clear R' F' N'
    rintro k tk' C c D W O ys news₃ h tk₃ hk hys hR ho hO hW hcl F' N'
    have SO : Sub (O ++ [(D, LCg.lst ys)]) (O ++ (D, LCg.lst ys) :: news₃) := by walk_at "sub"
    have Sn : Sub news₃ (O ++ (D, LCg.lst ys) :: news₃) := by walk_at "sub"
    have hcl₃ : CellIn (O ++ (D, LCg.lst ys) :: news₃) c (.int (1 + (k : Int)) tk') := hcl.sub (by walk_at "sub")
    have ca₃ := (ca.sub hR.1).sub Sn
    have hg₃ := (hg₀.sub hR.1).sub Sn
    generalize (O ++ (D, LCg.lst ys) :: news₃) = nw₃ at N' SO Sn hcl₃ ca₃ hg₃
    rw [show (1 + (k : Int)) = ((k + 1 : Nat) : Int) by omega] at hcl₃
    unfold CompTurn
    walk_at "gos"
    refine upto_A (hg₃.head.list N') F' N' (by simp only [List.length_map, sizeLine]; omega) (by omega) fun D₄ h₄ nw₄ F₄ N₄ S₄ x₄ f₄ => ?_
    clear F' N'
    rw [show ((k + 1 : Nat) : Int).toNat = k + 1 from rfl] at x₄
    have hcl₄ := hcl₃.sub S₄
    have hg₄ := hg₃.sub S₄
    have hdl : (List.take (k + 1) (as.map Value.ref)).length = k + 1 := by simp [hal, hl]; omega
    walk_at "gos"
    refine' comp_list_l (x := "row") (fun i ys nx => Rows nw₄ (fun i => (M.getD i []).take (k + 1)) i ys nx) rfl x₄.l.src ?z (fun _ => rfl) (fun _ => rfl) rfl rfl F₄ N₄ Rows.zero ?turn2 ?use2
    case z => rw [hdl]; simp only [sizeLine]; omega
    case turn2 =>
      clear F₄ N₄
      rintro i v C₂ oC₂ m₃ D₂ W₂ O₂ ys₂ news₅ h tk₅ hv hys₂ hR₂ ho₂ hO₂ hW₂ hC₂ hm₂ hx₂ F' N'
      have hi : i < k + 1 := by rw [← hdl]; exact (List.getElem?_eq_some_iff.mp hv).1
      rw [List.getElem?_take, if_pos hi] at hv
      obtain ⟨ai, hai, rfl⟩ : ∃ ai, as[i]? = some ai ∧ v = .ref ai := by
        obtain ⟨h1, h2⟩ := List.getElem?_eq_some_iff.mp hv
        exact ⟨as[i]'(by simpa using h1), by simp, by simpa using h2.symm⟩
      have hil : i < M.length := by omega
      obtain ⟨vs, hvs, hints⟩ := (hg₄.sub hR₂.1).row i ai (M.getD i []) hai (by simp [hil])
      have hrl := hs i hil
      have hvl := hints.length
      have hcl₅ := hcl₄.sub hR₂.1
      unfold CompTurn
      walk_at "gos"
      refine upto_A ((hvs.sub (by walk_at "sub")).list N') F' N' (by simp only [sizeLine]; omega) (by omega) fun D₆ h₆ nw₆ F₆ N₆ S₆ x₆ f₆ => ?_
      have S₆' : Sub news₅ nw₆ := Sub.trans (by walk_at "sub") S₆
      have SO₆ : Sub (O₂ ++ [(D₂, LCg.lst ys₂)]) nw₆ := Sub.trans (by walk_at "sub") S₆
      exact EltEnd.intro F₆ N₆ SO₆ (hR₂.step (sub_offs ho₂ S₆') (by walk_at "sub") f₆ (Ints.offs ⟨_, x₆.l, hints.take _⟩ (hW₂.off (by walk_at "sub") f₆)))
    case use2 =>
      intro g'
      refine UsePost.expr ?_
      clear F₄ N₄
      intro D₂ h tk₅ ys₂ news₅ hR₂ F N hf₂
      obtain ⟨cs, ng⟩ := hR₂.done hf₂
      rw [hdl] at ng
      have S₅ : Sub nw₄ ((D₂, LCg.lst ys₂) :: news₅) := hR₂.1.trans Sub.cons
      generalize ((D₂, LCg.lst ys₂) :: news₅) = nw₅ at N ng S₅
      dsimp only
      walk_at "gos"
      have hgt : Grid nw₅ D₂ cs (topl M (k + 1)) := ng.grid
      refine det_ok hgt (topl_sq hs (by omega)) topl_len (by omega) (topl_bits hB) hb1 hb _ _ _ _ _ _ _ _ _ _ F X T N (by omega) (by omega) ?_
      rintro r nw₆ h₆ tk₆ F₆ N₆ ⟨S₆, tt, rfl⟩
      exact EltEnd.intro F₆ N₆ (SO.trans (S₄.trans (S₅.trans S₆))) (hR.step (sub_offs ho (Sn.trans (S₄.trans (S₅.trans S₆)))) topl_det)
  case use =>
    intro g''
    refine UsePost.expr ?_
    clear R' F' N'
    intro D h tk₃ ys news₃ hR F N hf
    dsimp only
    walk_at "gos"
    exact BodyEnd.intro F N ⟨S₀.trans (hR.1.trans Sub.cons), D, rfl, hR.done⟩

def adjE (n : Nat) (M : List (List Int)) (r c : Nat) : Int := (1 - 2 * (((r : Int) + (c : Int)) % 2)) * det (n - 1) (ent (mnr n M c r))
def adjM (n : Nat) (M : List (List Int)) : List (List Int) := (List.range n).map fun r => (List.range n).map fun c => adjE n M r c
theorem mnr_len {n : Nat} {M : List (List Int)} {r c : Nat} : (mnr n M r c).length = n - 1 := by simp [mnr]
theorem mnr_sq {n : Nat} {M : List (List Int)} {r c : Nat} : Square (mnr n M r c) := fun i hi => by
  rw [mnr_len] at hi ⊢
  unfold mnr
  rw [getD_map_range, if_pos hi]; simp
theorem mnr_ent {n : Nat} {M : List (List Int)} {r c i j : Nat} : ent (mnr n M r c) i j = if i < n - 1 ∧ j < n - 1 then ent M (skp r i) (skp c j) else 0 := by
  unfold mnr
  rw [ent, getD_map_range]
  by_cases hi : i < n - 1
  · rw [if_pos hi, getD_map_range]
    by_cases hj : j < n - 1
    · rw [if_pos hj, if_pos ⟨hi, hj⟩]
    · rw [if_neg hj, if_neg (fun h => hj h.2)]
  · rw [if_neg hi, if_neg (fun h => hi h.1)]; rfl
theorem mnr_bits {n b : Nat} {M : List (List Int)} {r c : Nat} (hB : Bits b M) : Bits b (mnr n M r c) := fun i j => by
  rw [mnr_ent]
  split
  · exact hB _ _
  · exact Nat.two_pow_pos b
/-- the rows of the adjugate, so far -/
def AdjJ (c D₀ : Addr) (nw₁ : Led) (row : Nat → List Int) (i : Nat) (nx : Led) : Prop :=
  SubBut [c, D₀] nw₁ nx ∧ (∃ o v, (c, o) ∈ nx ∧ o.data = .cell v) ∧ ∃ cs : List Addr, IsP nx D₀ (cs.map Value.ref) ∧ cs.length = i ∧ cs.Nodup ∧ (∀ a ∈ cs, Fresh nw₁ a) ∧ ∀ (k : Nat) (a : Addr), cs[k]? = some a → Ints nx a (row k)
set_option maxHeartbeats 4000000 in
theorem adj_ok {w : World} {news : Led} {g : Addr} {as : List Addr} {M : List (List Int)} {n b : Nat} (hg : Grid news g as M) (hs : Square M) (hl : M.length = n) (h1 : 1 ≤ n) (h4 : n ≤ 4) (hB : Bits b M) (hb1 : 1 ≤ b) (hb : b ≤ 100) :
   Does w 63 16 400 [.ref g] news (fun news' v => Sub news news' ∧ ∃ D cs, v = .ref D ∧ NewGrid news news' D (adjM n M) cs) := by
  refine' does_cells (binds := [("a", .ref g)]) ?ho ?hcd ?hbind ?hkind ?hnd ?hco ?hgen ?hk ?h ?hd0
  walk_at "cells"
  intro dp un fr gd gh L h₁ tk s cells hdp hun F X T N Y hlt
  obtain ⟨ow, oa, rfl, dw, da⟩ := CellsAre.two (n := "row") (n' := "a") (c := L + 1 + 1) (c' := L + 1) Y
  clear Y
  have S₀ : Sub news ([(L + 1 + 1, ow), (L + 1, oa)] ++ news) := by walk_at "sub"
  have ca : CellIn ([(L + 1 + 1, ow), (L + 1, oa)] ++ news) (L + 1) (.ref g) := ⟨oa, by simp, da⟩
  have mw : (L + 1 + 1, ow) ∈ ([(L + 1 + 1, ow), (L + 1, oa)] ++ news) := by simp
  have nb : ∀ p ∈ news, p.1 ≠ L + 1 + 1 := fun p hp e => by
    have h1 := ltN (hlt p hp)
    have h2 := eqN e
    omega
  generalize ([(L + 1 + 1, ow), (L + 1, oa)] ++ news) = nw₀ at N S₀ ca mw
  have hal := hg.len
  have hg₀ := hg.sub S₀
  walk_at "gos"
  refine len_L hg₀.head N Sub.refl (by simp only [List.length_map]; omega) fun tl => ?_
  rw [show (as.map Value.ref).length = n by simp [hal, hl]]
  walk_at "gos"
  rename Fr _ _ _ _ => F₁
  rename News _ _ _ _ => N₁
  rename Fresh ((_, _) :: nw₀) _ => fT
  rename Fresh nw₀ _ => fD
  generalize hnw : ((_ : Addr × Obj) :: (_ : Addr × Obj) :: nw₀) = nw₁ at N₁
  have S₁ : Sub nw₀ nw₁ := hnw ▸ (by walk_at "sub")
  obtain ⟨D₀, eD, x₁, fD⟩ : ∃ D₀, D₀ = _ ∧ IsP nw₁ D₀ [] ∧ Fresh nw₀ D₀ := ⟨_, rfl, ⟨_, hnw ▸ List.mem_cons_of_mem _ (.head _)⟩, fD⟩
  subst eD
  clear hnw fT
  have dc : D₀ ≠ L + 1 + 1 := fun e => fD _ mw e.symm
  have dca : D₀ ≠ L + 1 := fun e => ca.fresh fD e.symm
  have lca : L + 1 ≠ L + 1 + 1 := fun e => by have := eqN e; omega
  have hg₁ := hg₀.sub S₁
  refine wpAny_For ?_ ?hs
  case hs => intro _; exact rfl
  walk_at "gos"
  rename IsRange _ _ _ _ _ _ _ _ => R'
  rename Fr _ _ _ _ => F'
  rename News _ _ _ _ => N'
  refine' for_rangeC (c := L + 1 + 1) n [] (fun i u nx => AdjJ (L + 1 + 1) D₀ nw₁ (fun r => (List.range n).map fun c => adjE n M r c) i nx) rfl R' (small_one ?a1 ?a2 ?a3 ?a4) ?a5 ?hE ?hk ?hx ?hc F' N' ?hJ ?hJc ?turn ?done
  case a1 => omega
  case a2 => omega
  case a3 => omega
  case a4 => omega
  case a5 => omega
  case hE => passes_own
  case hk => exact rfl
  case hx => exact rfl
  case hc => with_unfolding_all rfl
  case hJ => exact ⟨Sub.refl.but, ⟨ow, _, S₁ _ mw, dw⟩, [], x₁, rfl, List.nodup_nil, fun _ h => (nomatch h), fun k a h => by simp at h⟩
  case hJc => exact fun i u nx h => h.2.1
  case turn =>
    clear R' F' N'
    rintro I i t u news₁ news₂ own h tk₂ hi ⟨hS, _, cs, hP, hcl, hnd, hfr, hrw⟩ hS₂ hO₂ hC₂ hoff hown ⟨oI, hIo⟩ hcI F' N'
    have hP₂ := hP.but hS₂ (fun e => dc (List.mem_singleton.mp e))
    have hfc : ∀ a ∈ cs, a ≠ L + 1 + 1 := fun a ha e => hfr a ha _ (S₁ _ mw) e.symm
    have hfd : ∀ a ∈ cs, a ≠ D₀ := fun a ha e => by obtain ⟨_, m⟩ := x₁; exact hfr a ha _ m e.symm
    have hrw₂ : ∀ (k : Nat) (a : Addr), cs[k]? = some a → Ints news₂ a ((List.range n).map fun c => adjE n M k c) := fun k a hk => (hrw k a hk).but hS₂ fun e => hfc a (List.mem_of_getElem? hk) (List.mem_singleton.mp e)
    have S₁₂ : SubBut [L + 1 + 1, D₀] nw₁ news₂ := fun p hp hn => hS₂ p (hS p hp hn) fun e => hn (List.mem_cons.mpr (.inl (List.mem_singleton.mp e)))
    have So : Sub own (own ++ news₂) := by walk_at "sub"
    have Sn : Sub news₂ (own ++ news₂) := by walk_at "sub"
    generalize own ++ news₂ = nw₂ at N' So Sn
    have hC₃ := hC₂.sub Sn
    have ca₂ : CellIn nw₂ (L + 1) (.ref g) := ((ca.sub S₁).but S₁₂ (two_nin.mpr ⟨lca, Ne.symm dca⟩)).sub Sn
    have SN : Sub news nw₂ := fun p hp => Sn p (S₁₂ p (S₁ p (S₀ p hp)) (two_nin.mpr ⟨nb p hp, fD.sub S₀ p hp⟩))
    rw [show (0 : Int) + (i : Int) = (i : Int) by omega] at hC₃
    walk_at "gos"
    refine method_P slot_list_append type_list_append hP₂ N' Sn ?_
    walk_at "gos"
    rename IsRange _ _ _ _ _ _ _ _ => R'
    rename Fr _ _ _ _ => F'
    rename News _ _ _ _ => N'
    refine' comp_range_l (x := "column") n (fun j ys nx => Nums nw₂ (fun c => adjE n M i c) j ys nx) rfl R' (small_one ?b1 ?b2 ?b3 ?b4) ?b5 ?b6 (fun _ => rfl) (fun _ => rfl) rfl rfl F' N' Nums.zero ?turn2 ?use2
    case b1 => omega
    case b2 => omega
    case b3 => omega
    case b4 => omega
    case b5 => omega
    case b6 => simp only [sizeLine]; omega
    case turn2 =>
      clear R' F' N'
      rintro j tj C oC m₂ D W O ys news₃ h tk₃ hj hys hR ho hO hW hCm hm hx F' N'
      have SO : Sub (O ++ [(D, LCg.lst ys)]) (O ++ (D, LCg.lst ys) :: news₃) := by walk_at "sub"
      have Soo : Sub O (O ++ (D, LCg.lst ys) :: news₃) := by walk_at "sub"
      have Sn₃ : Sub news₃ (O ++ (D, LCg.lst ys) :: news₃) := by walk_at "sub"
      generalize (O ++ (D, LCg.lst ys) :: news₃) = nw₃ at N' SO Soo Sn₃
      have hC₄ := (hC₃.sub hR.1).sub Sn₃
      have ca₄ := (ca₂.sub hR.1).sub Sn₃
      have hg₄ := ((hg.sub SN).sub hR.1).sub Sn₃
      rw [show (0 : Int) + (j : Int) = (j : Int) by omega] at hx
      unfold CompTurn
      walk_at "gos"
      refine mod_i (by decide) fun t1 tk1 => ?_
      rw [show ((i : Int) + (j : Int)).fmod 2 = ((i : Int) + (j : Int)) % 2 from Int.fmod_eq_emod_of_nonneg _ (by decide)]
      walk_at "gos"
      refine mul_i (mul_ok (m := 2) (by decide) (by omega) (by decide)) fun t3 tk3 => ?_
      walk_at "gos"
      refine minor_ok hg₄ hs hl h4 hj hi _ _ _ _ _ _ _ _ _ _ F' X T N' (by omega) (by omega) ?_
      rintro v nw₄ h₄ tk₄ F₄ N₄ ⟨S₄, Dm, cm, rfl, ng⟩
      clear F' N'
      walk_at "gos"
      refine det_ok ng.grid mnr_sq mnr_len (by omega) (mnr_bits hB) hb1 hb _ _ _ _ _ _ _ _ _ _ F₄ X T N₄ (by omega) (by omega) ?_
      rintro r nw₅ h₅ tk₅ F₅ N₅ ⟨S₅, tt, rfl⟩
      have hsg : (1 - 2 * (((i : Int) + (j : Int)) % 2)).natAbs = 1 := by omega
      refine mul_i (mul_ok (m := 500) (by rw [hsg]; exact Nat.one_lt_two_pow (by decide)) (det_lt (by omega) hb (mnr_bits hB)) (by decide)) fun t5 tk5 => ?_
      exact EltEnd.intro F₅ N₅ (SO.trans (S₄.trans S₅)) (hR.step (sub_offs ho (Sn₃.trans (S₄.trans S₅))) rfl)
    case use2 =>
      intro g'
      refine UsePost.expr ?_
      clear F' N'
      intro D h tk₃ ys news₃ hR F N hf
      have hxD := hR.done (D := D)
      have S₃ : Sub nw₂ ((D, LCg.lst ys) :: news₃) := hR.1.trans Sub.cons
      have fN : Fresh nw₂ D := hf.sub hR.1
      generalize ((D, LCg.lst ys) :: news₃) = nw₃ at N hxD S₃
      have hP₃ := (hP₂.sub Sn).sub S₃
      dsimp only
      walk_at "gos"
      refine append_P hP₃ F N Sub.refl (by simp only [List.length_map, sizeLine]; omega) fun h₄ nw₄ F₄ N₄ x₄ S₄ _ => ?_
      clear F N
      walk_at "gos"
      have dD : D₀ ≠ D := hP₂.l.fresh (fN.sub Sn)
      have cD : L + 1 + 1 ≠ D := hC₂.fresh (fN.sub Sn)
      have nI : ∀ {a : Addr} {vs : List Value}, IsL news₂ a vs → a ≠ I := fun hl => by obtain ⟨_, _, m, _⟩ := hl; exact hoff _ m
      have S₂₄ : SubBut [D₀] news₂ (off I nw₄) := fun p hp hn => mem_off.mpr ⟨S₄ p (S₃ p (Sn p hp)) hn, hoff p hp⟩
      refine TurnEnd.next F₄ N₄ (fun p hp => S₄ p (S₃ p (So p hp)) fun e => nI hP₂.l ((List.mem_singleton.mp e).symm.trans (hown p hp))) ⟨by walk_at "keep", fun p hp hn => ?_, ?_, cs ++ [D], ?_, by simp [hcl], ?_, fun a ha => ?_, fun k a hk => ?_⟩
      · exact S₂₄ p (S₁₂ p hp hn) fun e => hn (List.mem_cons_of_mem _ e)
      · obtain ⟨o, ho, hd⟩ := hC₂
        exact ⟨o, _, S₂₄ _ ho fun e => dc (List.mem_singleton.mp e).symm, hd⟩
      · obtain ⟨k, hk⟩ := x₄
        rw [List.map_append]
        exact ⟨k, mem_off.mpr ⟨hk, nI hP₂.l⟩⟩
      · refine List.nodup_append.mpr ⟨hnd, List.pairwise_singleton _ _, fun a ha c hc e => ?_⟩
        rw [List.mem_singleton.mp hc] at e
        obtain ⟨k, hk, ek⟩ := List.mem_iff_getElem.mp ha
        exact (hrw₂ k a (by simp [hk, ek])).fresh (fN.sub Sn) e
      · rcases List.mem_append.mp ha with ha | ha
        · exact hfr a ha
        · rw [List.mem_singleton.mp ha]
          exact fresh_but S₁₂ (fN.sub Sn) (two_nin.mpr ⟨Ne.symm cD, Ne.symm dD⟩)
      · by_cases hlt : k < cs.length
        · rw [List.getElem?_append_left hlt] at hk
          exact (hrw₂ k a hk).but S₂₄ fun e => hfd a (List.mem_of_getElem? hk) (List.mem_singleton.mp e)
        · rw [List.getElem?_append_right (Nat.not_lt.mp hlt)] at hk
          obtain ⟨h1', h2'⟩ := List.getElem?_eq_some_iff.mp hk
          have e1 : k = i := by simp at h1'; omega
          have e2 : a = D := by simpa using h2'.symm
          subst e1; subst e2
          exact (hxD.but S₄ fun e => dD (List.mem_singleton.mp e).symm).off fun e => fN _ (So _ hIo) e.symm
  case done =>
    clear R' F' N'
    rintro u nx h tk₂ ⟨hS, _, cs, hP, hcl, hnd, hfr, hrw⟩ F' N'
    walk_at "gos"
    refine BodyEnd.intro F' N' ⟨fun p hp => hS p (S₁ p (S₀ p hp)) (two_nin.mpr ⟨nb p hp, fD.sub S₀ p hp⟩), D₀, cs, rfl, ⟨hP.l, by simp [hcl, adjM], fun k a r h1 h2 => ?_⟩, hnd, fun hm => by obtain ⟨_, m⟩ := x₁; exact hfr _ hm _ m rfl, fD.sub S₀, fun a ha => (hfr a ha).sub (S₀.trans S₁)⟩
    have e : (List.range n).map (fun c => adjE n M k c) = r := by
      obtain ⟨h3, h4⟩ := List.getElem?_eq_some_iff.mp h2
      simpa [adjM] using h4
    rw [← e]
    exact hrw k a h1

theorem prod_mk {n : Nat} {A B : List (List Int)} : prod n A B = mk n fun i j => sumTo n fun k => ent A i k * ent B k j := rfl
theorem prod_det {n : Nat} (h : n ≤ 4) {A B : List (List Int)} : det n (ent (prod n A B)) = det n (ent A) * det n (ent B) := by rw [prod_mk, mk_det, det_mul h]
theorem prod_bits {n b : Nat} (h : n ≤ 4) {A B : List (List Int)} (hA : Bits b A) (hB : Bits b B) : Bits (2 * b + 3) (prod n A B) := mk_bits fun i j _ _ => sum_bits h (fun k => hA i k) (fun k => hB k j)
theorem adj_mk {n : Nat} {A : List (List Int)} : adjM n A = mk n (adjF n (ent A)) := by
  show mk n (adjE n A) = _
  refine mk_congr fun i j _ _ => ?_
  unfold adjE adjF
  rw [show mnr n A j i = mk (n - 1) (fun k l => ent A (skp j k) (skp i l)) from rfl, mk_det]
theorem prod_adj {n : Nat} (h : n ≤ 3) {A : List (List Int)} : prod n A (adjM n A) = mk n fun i j => if j = i then det n (ent A) else 0 := by
  rw [adj_mk, prod_mk]
  refine mk_congr fun i j hi hj => ?_
  rw [← adj_right h hi hj]
  exact sumTo_congr fun k hk => by rw [mk_ent, if_pos ⟨hk, hj⟩]
theorem adj_prod {n : Nat} (h : n ≤ 3) {A : List (List Int)} : prod n (adjM n A) A = mk n fun i j => if j = i then det n (ent A) else 0 := by
  rw [adj_mk, prod_mk]
  refine mk_congr fun i j hi hj => ?_
  rw [← adj_left h hi hj]
  exact sumTo_congr fun k hk => by rw [mk_ent, if_pos ⟨hi, hk⟩]
theorem adj_bits {n : Nat} (h : n ≤ 4) {A : List (List Int)} (hA : Bits 6 A) : Bits 40 (adjM n A) := by
  rw [adj_mk]
  refine mk_bits fun i j _ _ => ?_
  unfold adjF
  rw [Int.natAbs_mul, show (1 - 2 * (((i : Int) + (j : Int)) % 2)).natAbs = 1 by omega, Nat.one_mul]
  refine Nat.lt_of_le_of_lt (det_le (b := 6) (by omega) fun r c => hA _ _) (Nat.pow_lt_pow_right (by decide) ?_)
  have : (n - 1) * (6 + 2) ≤ 3 * 8 := Nat.mul_le_mul (by omega) (by decide)
  omega
theorem turned_det {n : Nat} (h : n ≤ 4) {A : List (List Int)} : det n (ent (mk n fun i j => ent A j i)) = det n (ent A) := by rw [mk_det]; exact det_turned h (ent A)

set_option maxHeartbeats 8000000 in
theorem law_top (w : World) {sc : Addr} {vs : List Value} {ns : List Int} (hi : IntsAre vs ns) (hlen : ns.length ≤ 63) : TopDoes w 109 40 1000 [.ref sc] sc vs.toArray := by
  refine' top_cells (binds := [("script", .ref sc)]) ?ho ?hcd ?hbind ?hkind ?hnd ?hco ?hgen ?hk ?h ?hd0
  walk_at "cells"
  intro dp un fr gd g L h₁ tk s cells hdp hun F X T HS N Y
  obtain ⟨ow, oo, os, rfl, dw, do', ds⟩ := CellsAre.three (n₁ := "worth") (n₂ := "one") (n₃ := "size") (c₁ := L + 1 + 1 + 1) (c₂ := L + 1 + 1) (c₃ := L + 1) Y
  clear Y
  have hvl : vs.length ≤ 63 := by rw [hi.length]; exact hlen
  have n12 : L + 1 ≠ L + 1 + 1 := fun e => by have := eqN e; omega
  have n13 : L + 1 ≠ L + 1 + 1 + 1 := fun e => by have := eqN e; omega
  have n23 : L + 1 + 1 ≠ L + 1 + 1 + 1 := fun e => by have := eqN e; omega
  have mw : (L + 1 + 1 + 1, ow) ∈ [(L + 1 + 1 + 1, ow), (L + 1 + 1, oo), (L + 1, os)] := by simp
  have mo : (L + 1 + 1, oo) ∈ [(L + 1 + 1 + 1, ow), (L + 1 + 1, oo), (L + 1, os)] := by simp
  have ms : (L + 1, os) ∈ [(L + 1 + 1 + 1, ow), (L + 1 + 1, oo), (L + 1, os)] := by simp
  generalize [(L + 1 + 1 + 1, ow), (L + 1 + 1, oo), (L + 1, os)] = nw₀ at N mw mo ms
  walk_at "gos"
  refine box_ok hi (by omega) _ _ _ _ _ _ _ _ _ _ F X T HS N (by omega) (by omega) ?_
  rintro r nw₁ h₁ tk₁ F₁ N₁ ⟨S₁, b, q, rfl, hb₁, fb, fq⟩
  clear F N
  walk_at "gos"
  rename Fr _ _ _ _ => F₂
  rename News _ _ _ _ => N₂
  refine take_ok hb₁ (by decide) _ _ _ _ _ _ _ _ _ _ F₂ X T N₂ (by omega) (by omega) ?_
  rintro r nw₃ h₃ tk₃ F₃ N₃ ⟨S₃, hb₃, z, tz, rfl, hz0, hz1⟩
  clear F₂ N₂
  walk_at "gos"
  obtain ⟨n, hn⟩ : ∃ n : Nat, 1 + z = (n : Int) := ⟨(1 + z).toNat, by omega⟩
  rw [hn]
  have hn1 : 1 ≤ n := by omega
  have hn4 : n ≤ 4 := by omega
  have nb1 : L + 1 ∉ [b, q] := two_nin.mpr ⟨fb _ ms, fq _ ms⟩
  have nb2 : L + 1 + 1 ∉ [b, q] := two_nin.mpr ⟨fb _ mo, fq _ mo⟩
  have nb3 : L + 1 + 1 + 1 ∉ [b, q] := two_nin.mpr ⟨fb _ mw, fq _ mw⟩
  have mo₃ := S₃ _ (S₁ _ mo) nb2
  have mw₃ := S₃ _ (S₁ _ mw) nb3
  refine' st_c (v := .int (n : Nat) _) F₃ N₃ (S₃ _ (S₁ _ ms) nb1) ds ?sk ?sx ?sc ?_
  case sk => exact rfl
  case sx => exact rfl
  case sc => with_unfolding_all rfl
  intro h₄ nw₄ F₄ N₄ cs S₄ _
  clear F₃ N₃
  have hb₄ := hb₃.but S₄ (fun e => nb1 (by rw [← List.mem_singleton.mp e]; simp)) (fun e => nb1 (by rw [← List.mem_singleton.mp e]; simp))
  have mo₄ := S₄ _ mo₃ (fun e => n12 (List.mem_singleton.mp e).symm)
  have mw₄ := S₄ _ mw₃ (fun e => n13 (List.mem_singleton.mp e).symm)
  walk_at "gos"
  refine grid_ok hb₄ hn1 hn4 _ _ _ _ _ _ _ _ _ _ F₄ X T N₄ (by omega) (by omega) ?_
  rintro r nw₅ h₅ tk₅ F₅ N₅ ⟨S₅, hb₅, g1, as1, A, rfl, hgA, fg1, fas1, hlA, hA⟩
  have cs₅ := cs.but S₅ nb1
  have mo₅ := S₅ _ mo₄ nb2
  have mw₅ := S₅ _ mw₄ nb3
  clear F₄ N₄
  walk_at "gos"
  refine grid_ok hb₅ hn1 hn4 _ _ _ _ _ _ _ _ _ _ F₅ X T N₅ (by omega) (by omega) ?_
  rintro r nw₆ h₆ tk₆ F₆ N₆ ⟨S₆, hb₆, g2, as2, B, rfl, hgB, fg2, fas2, hlB, hB⟩
  have hgA₆ := hgA.but S₆ (hb₄.dnin fg1) fun a ha => hb₄.dnin (fas1 a ha)
  have cs₆ := cs₅.but S₆ nb1
  have mo₆ := S₆ _ mo₅ nb2
  have mw₆ := S₆ _ mw₅ nb3
  clear F₅ N₅
  walk_at "gos"
  rename Fr _ _ _ _ => F₇
  rename News _ _ _ _ => N₇
  rename Fresh nw₆ _ => f₇
  generalize hnw : ((_ : Addr × Obj) :: nw₆) = nw₇ at N₇
  have S₇ : Sub nw₆ nw₇ := hnw ▸ Sub.cons
  clear hnw f₇
  have mo₇ := S₇ _ mo₆
  refine' st_c (v := .ref g1) F₇ N₇ mo₇ do' ?sk ?sx ?sc ?_
  case sk => exact rfl
  case sx => exact rfl
  case sc => with_unfolding_all rfl
  intro h₈ nw₈ F₈ N₈ co S₈ _
  clear F₇ N₇
  have S₆₈ : SubBut [L + 1 + 1] nw₆ nw₈ := SubBut.left S₇ S₈
  have cs₈ := cs₆.but S₆₈ (cells_ne n12)
  have mw₈ := S₆₈ _ mw₆ (cells_ne (Ne.symm n23))
  have hgA₈ := hgA₆.but S₆₈ (cells_ne fun e => fg1 _ mo₄ e.symm) fun a ha => cells_ne fun e => fas1 a ha _ mo₄ e.symm
  have hgB₈ := hgB.but S₆₈ (cells_ne fun e => fg2 _ mo₅ e.symm) fun a ha => cells_ne fun e => fas2 a ha _ mo₅ e.symm
  have sA := sq_of hlA hA
  have sB := sq_of hlB hB
  have bA := bits_of hA
  have bB := bits_of hB
  walk_at "gos"
  rename Fr _ _ _ _ => F₉
  rename News _ _ _ _ => N₉
  refine ldet_ok (b := 6) (by decide) n hn4 hgA₈ sA hlA bA _ _ _ _ _ _ _ _ _ _ F₉ X T N₉ (by omega) (by omega) ?_
  rintro r nwa ha tka Fa Na ⟨Sa, tD, rfl⟩
  clear F₉ N₉
  have hgAa := hgA₈.sub Sa
  have coa := co.sub Sa
  walk_at "gos"
  have hal := hgA.len
  refine' comp_list_l (fun i ys nx => Rows nwa (fun i => A.getD i []) i ys nx) rfl hgAa.head.src ?z (fun _ => rfl) (fun _ => rfl) rfl rfl Fa Na Rows.zero ?turn ?use
  case z => simp only [List.length_map, sizeLine]; omega
  case turn =>
    clear Fa Na
    rintro i v C oC m₂ D W O ys news₂ h tk₂ hv hys hR ho hO hW hC hm hx F' N'
    obtain ⟨ai, hai, rfl⟩ : ∃ ai, as1[i]? = some ai ∧ v = .ref ai := by
      obtain ⟨h1, h2⟩ := List.getElem?_eq_some_iff.mp hv
      exact ⟨as1[i]'(by simpa using h1), by simp, by simpa using h2.symm⟩
    have hil : i < A.length := by rw [← hal]; exact (List.getElem?_eq_some_iff.mp hai).1
    obtain ⟨vs', hvs, hints⟩ := (hgAa.sub hR.1).row i ai (A.getD i []) hai (by simp [hil])
    have hrl := sA i hil
    have hvl' := hints.length
    unfold CompTurn
    walk_at "gos"
    refine copy_L hvs F' N' (by walk_at "sub") (by simp only [sizeLine]; omega) fun D₃ h₃ nw₃ F₃ N₃ S₃ x₃ f₃ => ?_
    exact EltEnd.intro F₃ N₃ (Sub.trans (by walk_at "sub") S₃) (hR.step (sub_offs ho (Sub.trans (by walk_at "sub") S₃)) (by walk_at "sub") f₃ (Ints.offs ⟨vs', x₃.l, hints⟩ (hW.off (by walk_at "sub") f₃)))
  case use =>
  intro g'
  refine UsePost.expr ?_
  clear Fa Na
  intro gk h tk₂ ys news₂ hR F N hf
  obtain ⟨ask, ng⟩ := hR.done hf
  have eA : (List.range (as1.map Value.ref).length).map (fun i => A.getD i []) = A := List.ext_getElem (by simp [hal]) fun i h1 h2 => by simp [h2]
  rw [eA] at ng
  have Sb : Sub nwa ((gk, LCg.lst ys) :: news₂) := Sub.trans hR.1 Sub.cons
  generalize ((gk, LCg.lst ys) :: news₂) = nwb at N Sb ng
  dsimp only
  walk_at "gos"
  have mwb : (L + 1 + 1 + 1, ow) ∈ nwb := Sb _ (Sa _ mw₈)
  have mwa : (L + 1 + 1 + 1, ow) ∈ nwa := Sa _ mw₈
  rename Fr _ _ _ _ => Fc
  rename News _ _ _ _ => Nc
  rename Fresh nwb _ => fc
  generalize hnw : ((_ : Addr × Obj) :: nwb) = nwc at Nc
  have Sc : Sub nwb nwc := hnw ▸ Sub.cons
  clear hnw fc
  refine' st_c (v := .int (det n (ent A)) tD) Fc Nc (Sc _ mwb) dw ?sk ?sx ?sc ?_
  case sk => exact rfl
  case sx => exact rfl
  case sc => with_unfolding_all rfl
  intro hd' nwd Fd Nd cw Sd _
  clear Fc Nc
  have S₈d : SubBut [L + 1 + 1 + 1] nw₈ nwd := SubBut.left (Sa.trans (Sb.trans Sc)) Sd
  have Sbd : SubBut [L + 1 + 1 + 1] nwb nwd := SubBut.left Sc Sd
  have csd := cs₈.but S₈d (cells_ne n13)
  have cod := co.but S₈d (cells_ne n23)
  have hA1 := hgA₈.but S₈d (cells_ne fun e => fg1 _ mw₄ e.symm) fun a ha => cells_ne fun e => fas1 a ha _ mw₄ e.symm
  have hB1 := hgB₈.but S₈d (cells_ne fun e => fg2 _ mw₅ e.symm) fun a ha => cells_ne fun e => fas2 a ha _ mw₅ e.symm
  have hK1 := ng.grid.but Sbd (cells_ne fun e => ng.fresh _ mwa e.symm) fun a ha => cells_ne fun e => ng.freshes a ha _ mwa e.symm
  clear hgA hgB hgA₆ hgA₈ hgB₈ hgAa ng hb₁ hb₃ hb₄ hb₅ hb₆ cs cs₅ cs₆ cs₈ co coa mo mo₃ mo₄ mo₅ mo₆ mo₇ mw mw₃ mw₄ mw₅ mw₆ mw₈ mwb mwa
  clear S₁ S₃ S₄ S₅ S₆ S₇ S₈ S₆₈ Sa Sb Sc Sd S₈d Sbd fg1 fas1 fg2 fas2 hR hf eA
  walk_at "gos"
  rename Fr _ _ _ _ => Fe
  rename News _ _ _ _ => Ne
  have sA := sq_of hlA hA
  refine det_ok (b := 6) hA1 sA hlA hn4 bA (by decide) (by decide) _ _ _ _ _ _ _ _ _ _ Fe X T Ne (by omega) (by omega) ?_
  rintro r nwf hf' tkf Ff Nf ⟨Sf, t6, rfl⟩
  clear Fe Ne
  have csf := csd.sub Sf
  have cof := cod.sub Sf
  have cwf := cw.sub Sf
  have hAf := hA1.sub Sf
  have hBf := hB1.sub Sf
  have hKf := hK1.sub Sf
  clear csd cod cw hA1 hB1 hK1
  walk_at "gos"
  refine if_not (bne_no rfl) ?_
  walk_at "gos"
  rename IsRange _ _ _ _ _ _ _ _ => R'
  rename Fr _ _ _ _ => F'
  rename News _ _ _ _ => N'
  refine' comp_range_c (x := "spot") n (fun j ys nx => Rows nwf (fun j => (List.range n).map fun i => ent A i j) j ys nx) rfl R' (small_one ?b1 ?b2 ?b3 ?b4) ?b5 ?b6 (fun _ => rfl) (fun _ => rfl) rfl (fun _ _ => rfl) F' N' Rows.zero ?turn ?use
  case b1 => omega
  case b2 => omega
  case b3 => omega
  case b4 => omega
  case b5 => omega
  case b6 => simp only [sizeLine]; omega
  case turn =>
    clear R' F' N'
    rintro j tj C c D W O ys news₃ h tk₃ hj hys hR ho hO hW hcl F' N'
    have SO : Sub (O ++ [(D, LCg.lst ys)]) (O ++ (D, LCg.lst ys) :: news₃) := by walk_at "sub"
    have Sn : Sub news₃ (O ++ (D, LCg.lst ys) :: news₃) := by walk_at "sub"
    have hcl₃ : CellIn (O ++ (D, LCg.lst ys) :: news₃) c (.int (0 + (j : Int)) tj) := hcl.sub (by walk_at "sub")
    generalize (O ++ (D, LCg.lst ys) :: news₃) = nw₃ at N' SO Sn hcl₃
    have cof₃ := (cof.sub hR.1).sub Sn
    have hA₃ := (hAf.sub hR.1).sub Sn
    rw [show (0 : Int) + (j : Int) = (j : Int) by omega] at hcl₃
    unfold CompTurn
    walk_at "gos"
    refine' comp_list_l (x := "line") (fun i ys nx => Nums nw₃ (fun i => ent A i j) i ys nx) rfl hA₃.head.src ?z (fun _ => rfl) (fun _ => rfl) rfl rfl F' N' Nums.zero ?turn2 ?use2
    case z => simp only [List.length_map, sizeLine]; omega
    case turn2 =>
      clear F' N'
      rintro i v C₂ oC₂ m₃ D₂ W₂ O₂ ys₂ news₄ h tk₄ hv hys₂ hR₂ ho₂ hO₂ hW₂ hC₂ hm₂ hx₂ F' N'
      obtain ⟨ai, hai, rfl⟩ : ∃ ai, as1[i]? = some ai ∧ v = .ref ai := by
        obtain ⟨h1, h2⟩ := List.getElem?_eq_some_iff.mp hv
        exact ⟨as1[i]'(by simpa using h1), by simp, by simpa using h2.symm⟩
      have hil : i < A.length := by rw [← hal]; exact (List.getElem?_eq_some_iff.mp hai).1
      have hrow := (hA₃.sub hR₂.1).row i ai (A.getD i []) hai (by simp [hil])
      have hrl := sA i hil
      have hcl₄ := hcl₃.sub hR₂.1
      unfold CompTurn
      walk_at "gos"
      refine' item_N j hrow N' (by walk_at "sub") rfl (by rw [hrl]; omega) (by rw [hrl]; omega) ?_
      intro t1
      exact EltEnd.intro F' N' (by walk_at "sub") (hR₂.step (sub_offs ho₂ (by walk_at "sub")) rfl)
    case use2 =>
      intro g'
      refine UsePost.expr ?_
      clear F' N'
      intro D₂ h tk₄ ys₂ news₄ hR₂ F N hf₂
      rw [show (as1.map Value.ref).length = n by simp [hal, hlA]] at hR₂
      have S₄ : Sub nw₃ ((D₂, LCg.lst ys₂) :: news₄) := hR₂.1.trans Sub.cons
      have fD : Fresh nw₃ D₂ := hf₂.sub hR₂.1
      exact EltEnd.intro F N (SO.trans S₄) (hR.step (sub_offs ho (Sn.trans S₄)) Sn fD ((hR₂.done (D := D₂)).offs (hW.off SO fD)))
  case use =>
  clear R' F' N'
  intro g'
  refine UsePost.expr ?_
  intro Dt h tk₂ ys news₂ hR F N hf
  obtain ⟨ast, ng⟩ := hR.done hf
  have Sg : Sub nwf ((Dt, LCg.lst ys) :: news₂) := Sub.trans hR.1 Sub.cons
  have hT : Grid ((Dt, LCg.lst ys) :: news₂) Dt ast (mk n fun i j => ent A j i) := ng.grid
  generalize ((Dt, LCg.lst ys) :: news₂) = nwg at N Sg hT
  have csg := csf.sub Sg
  have cog := cof.sub Sg
  have cwg := cwf.sub Sg
  have hAg := hAf.sub Sg
  have hBg := hBf.sub Sg
  have hKg := hKf.sub Sg
  clear csf cof cwf hAf hBf hKf hR hf ng
  dsimp only
  walk_at "gos"
  refine det_ok (b := 6) hT mk_sq mk_len hn4 (mk_bits fun i j _ _ => bA j i) (by decide) (by decide) _ _ _ _ _ _ _ _ _ _ F X T N (by omega) (by omega) ?_
  rintro r nwh hh' tkh Fh Nh ⟨Sh, t7, rfl⟩
  rw [turned_det hn4]
  have csh := csg.sub Sh
  have coh := cog.sub Sh
  have cwh := cwg.sub Sh
  have hAh := hAg.sub Sh
  have hBh := hBg.sub Sh
  have hKh := hKg.sub Sh
  clear csg cog cwg hAg hBg hKg hT F N
  walk_at "gos"
  refine if_not (bne_no rfl) ?_
  walk_at "gos"
  refine ne_G hAh hKh Nh Sub.refl (by show un + 64 < cLine; omega) ?_
  walk_at "gos"
  refine if_not (by simp) ?_
  walk_at "gos"
  refine times_ok (b := 6) hAh hBh sA sB hlA hlB hn1 hn4 bA bB (by decide) _ _ _ _ _ _ _ _ _ _ Fh X T Nh (by omega) (by omega) ?_
  rintro r nwi hi' tki Fi Ni ⟨Si, Dp, csp, rfl, ngp⟩
  have hP := ngp.grid
  have csi := csh.sub Si
  have coi := coh.sub Si
  have cwi := cwh.sub Si
  have hAi := hAh.sub Si
  have hBi := hBh.sub Si
  clear csh coh cwh hAh hBh
  clear hKh Fh Nh ngp
  walk_at "gos"
  refine det_ok (b := 15) hP mk_sq mk_len hn4 (prod_bits hn4 bA bB) (by decide) (by decide) _ _ _ _ _ _ _ _ _ _ Fi X T Ni (by omega) (by omega) ?_
  rintro r nwj hj' tkj Fj Nj ⟨Sj, t8, rfl⟩
  rw [prod_det hn4]
  have csj := csi.sub Sj
  have coj := coi.sub Sj
  have cwj := cwi.sub Sj
  have hAj := hAi.sub Sj
  have hBj := hBi.sub Sj
  clear csi coi cwi hAi hBi
  clear hP Fi Ni
  walk_at "gos"
  refine ldet_ok (b := 6) (by decide) n hn4 hBj sB hlB bB _ _ _ _ _ _ _ _ _ _ Fj X T Nj (by omega) (by omega) ?_
  rintro r nwk hk' tkk Fk Nk ⟨Sk, t9, rfl⟩
  have csk := csj.sub Sk
  have cok := coj.sub Sk
  have cwk := cwj.sub Sk
  have hAk := hAj.sub Sk
  have hBk := hBj.sub Sk
  clear csj coj cwj hAj hBj
  clear Fj Nj
  walk_at "gos"
  refine mul_i (mul_ok (m := 500) (det_lt hn4 (by decide) bA) (det_lt hn4 (by decide) bB) (by decide)) fun t10 tk10 => ?_
  walk_at "gos"
  refine if_not (bne_no rfl) ?_
  walk_at "gos"
  rename Fr _ _ _ _ => Fl
  rename News _ _ _ _ => Nl
  rename Fresh nwk _ => fl
  refine det_ok (n := 0) (b := 6) (IsL.nilG (IsP.l ⟨_, .head _⟩)) (fun i hi => absurd hi (Nat.not_lt_zero _)) rfl (by decide) (fun i j => by rw [ent_len (Nat.zero_le _)]; decide) (by decide) (by decide) _ _ _ _ _ _ _ _ _ _ Fl X T Nl (by omega) (by omega) ?_
  rintro r nwl hl' tkl Fm Nm ⟨Sl, t11, rfl⟩
  rw [det0]
  have Sl' : Sub nwk nwl := Sub.trans Sub.cons Sl
  have csl := csk.sub Sl'
  have col := cok.sub Sl'
  have cwl := cwk.sub Sl'
  have hAl := hAk.sub Sl'
  have hBl := hBk.sub Sl'
  clear csk cok cwk hAk hBk
  clear Fl Nl fl Sl Sl'
  walk_at "gos"
  refine if_not (by decide) ?_
  walk_at "gos"
  rename Fr _ _ _ _ => Fl
  rename News _ _ _ _ => Nl
  refine lead_ok (b := 6) hAl sA hlA hn1 hn4 bA (by decide) (by decide) _ _ _ _ _ _ _ _ _ _ Fl X T Nl (by omega) (by omega) ?_
  rintro r nwm hm' tkm Fm Nm ⟨Sm, Dm, rfl, hlead⟩
  have csm := csl.sub Sm
  have com := col.sub Sm
  have cwm := cwl.sub Sm
  have hAm := hAl.sub Sm
  have hBm := hBl.sub Sm
  clear csl col cwl hAl hBl
  clear Fl Nl
  walk_at "gos"
  rename IsRange _ _ _ _ _ _ _ _ => R'
  rename Fr _ _ _ _ => F'
  rename News _ _ _ _ => N'
  refine' comp_range_c (x := "many") n (fun k ys nx => Nums nwm (fun k => det (k + 1) (ent A)) k ys nx) rfl R' (small_one ?b1 ?b2 ?b3 ?b4) ?b5 ?b6 (fun _ => rfl) (fun _ => rfl) rfl (fun _ _ => rfl) F' N' Nums.zero ?turn ?use
  case b1 => omega
  case b2 => omega
  case b3 => omega
  case b4 => omega
  case b5 => omega
  case b6 => simp only [sizeLine]; omega
  case turn =>
    clear R' F' N'
    rintro k tk' C c D W O ys news₃ h tk₃ hk hys hR ho hO hW hcl F' N'
    have SO : Sub (O ++ [(D, LCg.lst ys)]) (O ++ (D, LCg.lst ys) :: news₃) := by walk_at "sub"
    have Sn : Sub news₃ (O ++ (D, LCg.lst ys) :: news₃) := by walk_at "sub"
    have hcl₃ : CellIn (O ++ (D, LCg.lst ys) :: news₃) c (.int (1 + (k : Int)) tk') := hcl.sub (by walk_at "sub")
    have ca₃ := (com.sub hR.1).sub Sn
    have hg₃ := (hAm.sub hR.1).sub Sn
    generalize (O ++ (D, LCg.lst ys) :: news₃) = nw₃ at N' SO Sn hcl₃ ca₃ hg₃
    rw [show (1 + (k : Int)) = ((k + 1 : Nat) : Int) by omega] at hcl₃
    unfold CompTurn
    walk_at "gos"
    refine upto_A (hg₃.head.list N') F' N' (by simp only [List.length_map, sizeLine]; omega) (by omega) fun D₄ h₄ nw₄ F₄ N₄ S₄ x₄ f₄ => ?_
    clear F' N'
    rw [show ((k + 1 : Nat) : Int).toNat = k + 1 from rfl] at x₄
    have hcl₄ := hcl₃.sub S₄
    have hg₄ := hg₃.sub S₄
    have hdl : (List.take (k + 1) (as1.map Value.ref)).length = k + 1 := by simp [hal, hlA]; omega
    walk_at "gos"
    refine' comp_list_l (x := "line") (fun i ys nx => Rows nw₄ (fun i => (A.getD i []).take (k + 1)) i ys nx) rfl x₄.l.src ?z (fun _ => rfl) (fun _ => rfl) rfl rfl F₄ N₄ Rows.zero ?turn2 ?use2
    case z => rw [hdl]; simp only [sizeLine]; omega
    case turn2 =>
      clear F₄ N₄
      rintro i v C₂ oC₂ m₃ D₂ W₂ O₂ ys₂ news₅ h tk₅ hv hys₂ hR₂ ho₂ hO₂ hW₂ hC₂ hm₂ hx₂ F' N'
      have hi : i < k + 1 := by rw [← hdl]; exact (List.getElem?_eq_some_iff.mp hv).1
      rw [List.getElem?_take, if_pos hi] at hv
      obtain ⟨ai, hai, rfl⟩ : ∃ ai, as1[i]? = some ai ∧ v = .ref ai := by
        obtain ⟨h1, h2⟩ := List.getElem?_eq_some_iff.mp hv
        exact ⟨as1[i]'(by simpa using h1), by simp, by simpa using h2.symm⟩
      have hil : i < A.length := by omega
      obtain ⟨vs', hvs, hints⟩ := (hg₄.sub hR₂.1).row i ai (A.getD i []) hai (by simp [hil])
      have hrl := sA i hil
      have hvl' := hints.length
      have hcl₅ := hcl₄.sub hR₂.1
      unfold CompTurn
      walk_at "gos"
      refine upto_A ((hvs.sub (by walk_at "sub")).list N') F' N' (by simp only [sizeLine]; omega) (by omega) fun D₆ h₆ nw₆ F₆ N₆ S₆ x₆ f₆ => ?_
      have S₆' : Sub news₅ nw₆ := Sub.trans (by walk_at "sub") S₆
      have SO₆ : Sub (O₂ ++ [(D₂, LCg.lst ys₂)]) nw₆ := Sub.trans (by walk_at "sub") S₆
      exact EltEnd.intro F₆ N₆ SO₆ (hR₂.step (sub_offs ho₂ S₆') (by walk_at "sub") f₆ (Ints.offs ⟨_, x₆.l, hints.take _⟩ (hW₂.off (by walk_at "sub") f₆)))
    case use2 =>
      intro g'
      refine UsePost.expr ?_
      clear F₄ N₄
      intro D₂ h tk₅ ys₂ news₅ hR₂ F N hf₂
      obtain ⟨cs, ng⟩ := hR₂.done hf₂
      rw [hdl] at ng
      have S₅ : Sub nw₄ ((D₂, LCg.lst ys₂) :: news₅) := hR₂.1.trans Sub.cons
      generalize ((D₂, LCg.lst ys₂) :: news₅) = nw₅ at N ng S₅
      dsimp only
      walk_at "gos"
      have hgt : Grid nw₅ D₂ cs (topl A (k + 1)) := ng.grid
      refine ldet_ok (b := 6) (by decide) (k + 1) (by omega) hgt (topl_sq sA (by omega)) topl_len (topl_bits bA) _ _ _ _ _ _ _ _ _ _ F X T N (by omega) (by omega) ?_
      rintro r nw₆ h₆ tk₆ F₆ N₆ ⟨S₆, tt, rfl⟩
      exact EltEnd.intro F₆ N₆ (SO.trans (S₄.trans (S₅.trans S₆))) (hR.step (sub_offs ho (Sn.trans (S₄.trans (S₅.trans S₆)))) topl_det)
  case use =>
  clear R' F' N'
  intro g'
  refine UsePost.expr ?_
  intro Dt h tk₂ ys news₂ hR F N hf
  have hl2 := hR.done (D := Dt)
  have Sg : Sub nwm ((Dt, LCg.lst ys) :: news₂) := Sub.trans hR.1 Sub.cons
  generalize ((Dt, LCg.lst ys) :: news₂) = nwn at N Sg hl2
  have hl1 := hlead.sub Sg
  have csn := csm.sub Sg
  have con := com.sub Sg
  have cwn := cwm.sub Sg
  have hAn := hAm.sub Sg
  have hBn := hBm.sub Sg
  clear csm com cwm hAm hBm
  clear hR hf hlead
  dsimp only
  walk_at "gos"
  refine ne_I hl1 hl2 N Sub.refl (by show un + 64 < cLine; omega) ?_
  walk_at "gos"
  refine if_not (by simp) ?_
  clear hl1 hl2
  walk_at "gos"
  by_cases h4 : n = 4
  case pos =>
    refine if_yes (by simp [h4]) ?_
    walk_at "gos"
    exact BodyEnd.intro F N rfl
  case neg =>
  refine if_not (beq_no (by omega)) ?_
  have hn3 : n ≤ 3 := by omega
  walk_at "gos"
  rename IsRange _ _ _ _ _ _ _ _ => R'
  rename Fr _ _ _ _ => F'
  rename News _ _ _ _ => N'
  refine' comp_range_c (x := "line") n (fun l ys nx => Rows nwn (fun l => (List.range n).map fun j => if j = l then det n (ent A) else 0) l ys nx) rfl R' (small_one ?b1 ?b2 ?b3 ?b4) ?b5 ?b6 (fun _ => rfl) (fun _ => rfl) rfl (fun _ _ => rfl) F' N' Rows.zero ?turn ?use
  case b1 => omega
  case b2 => omega
  case b3 => omega
  case b4 => omega
  case b5 => omega
  case b6 => simp only [sizeLine]; omega
  case turn =>
    clear R' F' N'
    rintro l tl C c D W O ys news₃ h tk₃ hl hys hR ho hO hW hcl F' N'
    have SO : Sub (O ++ [(D, LCg.lst ys)]) (O ++ (D, LCg.lst ys) :: news₃) := by walk_at "sub"
    have Sn : Sub news₃ (O ++ (D, LCg.lst ys) :: news₃) := by walk_at "sub"
    have hcl₃ : CellIn (O ++ (D, LCg.lst ys) :: news₃) c (.int (0 + (l : Int)) tl) := hcl.sub (by walk_at "sub")
    generalize (O ++ (D, LCg.lst ys) :: news₃) = nw₃ at N' SO Sn hcl₃
    have cs₃ := (csn.sub hR.1).sub Sn
    have cw₃ := (cwn.sub hR.1).sub Sn
    rw [show (0 : Int) + (l : Int) = (l : Int) by omega] at hcl₃
    unfold CompTurn
    walk_at "gos"
    rename IsRange _ _ _ _ _ _ _ _ => R'
    rename Fr _ _ _ _ => F'
    rename News _ _ _ _ => N'
    refine' comp_range_l (x := "spot") n (fun j ys nx => Nums nw₃ (fun j => if j = l then det n (ent A) else 0) j ys nx) rfl R' (small_one ?d1 ?d2 ?d3 ?d4) ?d5 ?d6 (fun _ => rfl) (fun _ => rfl) rfl rfl F' N' Nums.zero ?turn2 ?use2
    case d1 => omega
    case d2 => omega
    case d3 => omega
    case d4 => omega
    case d5 => omega
    case d6 => simp only [sizeLine]; omega
    case turn2 =>
      clear R' F' N'
      rintro j tj C₂ oC₂ m₃ D₂ W₂ O₂ ys₂ news₄ h tk₄ hj hys₂ hR₂ ho₂ hO₂ hW₂ hC₂ hm₂ hx₂ F' N'
      rw [show (0 : Int) + (j : Int) = (j : Int) by omega] at hx₂
      have hcl₄ := hcl₃.sub hR₂.1
      have cw₄ := cw₃.sub hR₂.1
      unfold CompTurn
      walk_at "gos"
      by_cases e : j = l
      · refine if_yes (by simp [e]) ?_
        walk_at "gos"
        exact EltEnd.intro F' N' (by walk_at "sub") (hR₂.step (sub_offs ho₂ (by walk_at "sub")) (if_pos e).symm)
      · refine if_not (beq_no (by omega)) ?_
        walk_at "gos"
        exact EltEnd.intro F' N' (by walk_at "sub") (hR₂.step (sub_offs ho₂ (by walk_at "sub")) (if_neg e).symm)
    case use2 =>
      intro g'
      refine UsePost.expr ?_
      clear F' N'
      intro D₂ h tk₄ ys₂ news₄ hR₂ F N hf₂
      have S₄ : Sub nw₃ ((D₂, LCg.lst ys₂) :: news₄) := hR₂.1.trans Sub.cons
      have fD : Fresh nw₃ D₂ := hf₂.sub hR₂.1
      exact EltEnd.intro F N (SO.trans S₄) (hR.step (sub_offs ho (Sn.trans S₄)) Sn fD ((hR₂.done (D := D₂)).offs (hW.off SO fD)))
  case use =>
  clear R' F' N'
  intro g'
  refine' UsePost.asgS ?uL ?ux ?up ?_
  case uL => exact rfl
  case ux => kernel_rfl
  case up => kernel_rfl
  intro Dd h tk₂ ys news₂ hR F N hf
  obtain ⟨asd, ng⟩ := hR.done hf
  have Sg : Sub nwn ((Dd, LCg.lst ys) :: news₂) := Sub.trans hR.1 Sub.cons
  have hDo : Grid ((Dd, LCg.lst ys) :: news₂) Dd asd (mk n fun i j => if j = i then det n (ent A) else 0) := ng.grid
  generalize ((Dd, LCg.lst ys) :: news₂) = nwo at N Sg hDo
  have cso := csn.sub Sg
  have coo := con.sub Sg
  have cwo := cwn.sub Sg
  have hAo := hAn.sub Sg
  have hBo := hBn.sub Sg
  clear csn con cwn hAn hBn
  clear hR hf ng
  have bA40 := bA.mono (c := 40) (by decide)
  have aB := adj_bits hn4 bA
  dsimp only
  walk_at "gos"
  refine adj_ok (b := 6) hAo sA hlA hn1 hn4 bA (by decide) (by decide) _ _ _ _ _ _ _ _ _ _ F X T N (by omega) (by omega) ?_
  rintro r nwp hp' tkp Fp Np ⟨Sp, Da, asa, rfl, nga⟩
  have hJ : Grid nwp Da asa (adjM n A) := nga.grid
  have csp := cso.sub Sp
  have cop := coo.sub Sp
  have cwp := cwo.sub Sp
  have hAp := hAo.sub Sp
  have hDp := hDo.sub Sp
  clear cso coo cwo hAo hDo
  clear F N nga
  walk_at "gos"
  refine times_ok (b := 40) hAp hJ sA mk_sq hlA mk_len hn1 hn4 bA40 aB (by decide) _ _ _ _ _ _ _ _ _ _ Fp X T Np (by omega) (by omega) ?_
  rintro r nwq hq' tkq Fq Nq ⟨Sq, Db, asb, rfl, ngb⟩
  have hQ : Grid nwq Db asb (prod n A (adjM n A)) := ngb.grid
  have csq := csp.sub Sq
  have coq := cop.sub Sq
  have cwq := cwp.sub Sq
  have hAq := hAp.sub Sq
  have hDq := hDp.sub Sq
  clear csp cop cwp hAp hDp
  clear Fp Np ngb hJ
  walk_at "gos"
  refine eq_G hQ hDq Nq Sub.refl (by show un + 64 < cLine; omega) ?_
  walk_at "gos"
  refine if_yes (decide_eq_true (prod_adj hn3)) ?_
  walk_at "gos"
  refine adj_ok (b := 6) hAq sA hlA hn1 hn4 bA (by decide) (by decide) _ _ _ _ _ _ _ _ _ _ Fq X T Nq (by omega) (by omega) ?_
  rintro r nwr hr' tkr Fr' Nr ⟨Sr, Dc, asc, rfl, ngc⟩
  have hJ : Grid nwr Dc asc (adjM n A) := ngc.grid
  have csr := csq.sub Sr
  have cor := coq.sub Sr
  have cwr := cwq.sub Sr
  have hAr := hAq.sub Sr
  have hDr := hDq.sub Sr
  clear csq coq cwq hAq hDq
  clear Fq Nq ngc hQ
  walk_at "gos"
  refine times_ok (b := 40) hJ hAr mk_sq sA mk_len hlA hn1 hn4 aB bA40 (by decide) _ _ _ _ _ _ _ _ _ _ Fr' X T Nr (by omega) (by omega) ?_
  rintro r nws hs' tks Fs Ns ⟨Ss, De, ase, rfl, nge⟩
  have hQ : Grid nws De ase (prod n (adjM n A) A) := nge.grid
  have css := csr.sub Ss
  have cos := cor.sub Ss
  have cws := cwr.sub Ss
  have hAs := hAr.sub Ss
  have hDs := hDr.sub Ss
  clear csr cor cwr hAr hDr
  clear Fr' Nr nge hJ
  walk_at "gos"
  refine eq_G hQ hDs Ns Sub.refl (by show un + 64 < cLine; omega) ?_
  walk_at "gos"
  refine BodyEnd.intro Fs Ns ?_
  show Value.bool _ = Value.bool true
  rw [decide_eq_true (adj_prod hn3)]

end Mine

set_option maxRecDepth 100000 in
set_option maxHeartbeats 8000000 in
theorem PySem.Challenge.cw_nn0245_01_holds : PySem.Challenge.rw_nn0245_01.Holds := by
  refine Mine.hd ?_
  k_fill
  intro w s₀ s₁ mg mb G Y fa o pm cd doc dV kV ho hd hcd hD hmg hg args vals as hpre hlay hrd hwl hlo
  have KX := kIn_of Y
  have X := (Ground.X G).1
  have V := (Ground.X G).2
  refine Ground.open G ?_
  intro T B D TE TW
  try (refine guard_noD D (by decide +kernel) ?_; clear D)
  have e : mg "law" = some (.ref 109) := mg_of KX T.g (by kernel_rfl)
  have e2 : (Value.ref fa) = .ref 109 := Option.some.inj (hmg.symm.trans e)
  injection e2 with e2
  subst e2
  clear hmg e
  wrow_args hpre hlay hrd hwl hlo
  rename IntsAre _ _ => hI
  rename Heap.IsList _ _ _ => hL
  rename ¬ ((_ : Int) < _) => hc
  refine Mine.law_top w hI (by omega) _ _ _ _ _ _ _ KX ⟨_, _, _, _, _, T⟩ hL (by decide) (by decide) fun h' tk' L m F => ?_
  refine GoodW.toG (goodW_bool F hg (raisesW_false ?hn) ?hp)
  case hn => wrow_none_raised
  case hp => first | wrow_post | kc_post
