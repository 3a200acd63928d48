import PyProof.Rows.All
import Wide.All
import OpenK.AllK
import Wide.FinOn
import PySem.Challenge.RW_nz0292_01
open PySem PySem.W PyProof.Rows PySem.Calls PySem.Spec PyProof.V
set_option Elab.async false
set_option compiler.extract_closed false
set_option maxRecDepth 100000
set_option maxHeartbeats 8000000
namespace Mine
noncomputable def Hold (P : Prop) : Prop := P
theorem Hold.mk {P : Prop} (h : Hold P) : P := h
noncomputable abbrev tapeObj (c : Addr) (pl : Int) (t : Tok) : Obj := PySem.W.listOf #[.ref c, .int pl t] 0

noncomputable def DrawTells (prog : Program) (w : World) (K : Frag) (p : Program) (loose : List Str) (mean : ExcName → Option Value) (mg mb : Str → Option Value) (f : Addr) : Prop :=
  ∀ (dp un : Nat) (gd : Option (List Code)) (cn : Str) (cs : Scope) (a : Addr) (ccd : Value) (cl : List (Str × Addr)) (outer : List Env) (A₀ : Around) (base h₀ : Heap) (L : Addr) (m : Str → Option Value) (s : Shared)
    (tp c : Addr) (pl : Int) (t tm : Tok) (n : Nat) (vs : List Value) (ns : List Int) (many : Int) (Q E : Value → Shared → Prop),
    Below A₀ base outer h₀ → Fr h₀ L s.heap m → K.In h₀ → News h₀ L s.heap [(tp, tapeObj c pl t), (c, PySem.W.listOf vs.toArray n)] → Top p loose mean mg mb h₀ → cs.kind = .function → @Ne Nat tp c →
    IntsAre vs ns → 0 < ns.length → ns.length ≤ 50 → 0 ≤ pl → pl ≤ 1000 → 0 < many → many ≤ 1000 → dp + 1 < recursionLimit → un + 8 < cLine →
    (∀ v t1 t2 h' tk', 0 ≤ v → v < many → Fr h₀ L h' m → h'.get? tp = some (tapeObj c (pl + 1) t2) → (∀ b o, b ≠ tp → s.heap.get? b = some o → h'.get? b = some o) → Q (.int v t1) { s with heap := h', toks := tk' }) →
    wpAny (model prog w) (ktrTop dp un gd cn cs L a ccd cl outer) (call (.ref f) [.ref tp, .int many tm]) Q E s

theorem with_draw {α : Type} {prog : Program} {w : World} {A : Around} {t : Sem α} {Q : α → Shared → Prop} {E : Value → Shared → Prop} {s : Shared} {K : Frag} {p : Program} {loose : List Str} {mean : ExcName → Option Value} {mg mb : Str → Option Value} {h₀ : Heap} (f : Addr)
    (X : K.In h₀) (T : Top p loose mean mg mb h₀) (C : DrawTells prog w K p loose mean mg mb f) (k : DrawTells prog w K p loose mean mg mb f → wpAny (model prog w) A t Q E s) : wpAny (model prog w) A t Q E s := k C

theorem news_head {h₀ h : Heap} {L a : Addr} {o : Obj} {r : List (Addr × Obj)} (N : News h₀ L h ((a, o) :: r)) : h.get? a = some o := (N _ (.head _)).1
theorem draw_keeps {g h₀ hs h' : Heap} {L L' tp c : Addr} {m' : Str → Option Value} {o1 o2 oc : Obj} (F' : Fr g L' h' m') (N' : News g L' h' [(tp, o2), (c, oc)]) (N : News h₀ L hs [(tp, o1), (c, oc)])
    (kG : GSub hs g (List.map (fun x => x.fst) [(tp, o1), (c, oc)])) : ∀ b o, b ≠ tp → hs.get? b = some o → h'.get? b = some o := by
  intro b o hb e
  by_cases hc : b = c
  · subst hc
    have e1 := (N _ (.tail _ (.head _))).1
    have e2 := (N' _ (.tail _ (.head _))).1
    exact e2.trans (e1.symm.trans e)
  · refine F'.keep b o (kG b o e ?_)
    intro hm
    rcases List.mem_cons.mp hm with rfl | hm
    · exact hb rfl
    · rcases List.mem_cons.mp hm with rfl | hm
      · exact hc rfl
      · cases hm

theorem updF_self {d : Addr} {o : Obj} {l : List (Addr × Obj)} {g : Obj → List (Addr × Obj)} (U : UpdF d o l g) : l = g o := by
  obtain ⟨pre, post, rfl, hg, _, _⟩ := U.split
  rw [hg]
theorem updF_news {d : Addr} {o o' : Obj} {l : List (Addr × Obj)} {g : Obj → List (Addr × Obj)} {h₀ h h' : Heap} {L : Addr} (U : UpdF d o l g) (N : News h₀ L h l) (e : h'.get? d = some o') (k : ∀ b x, b ≠ d → h.get? b = some x → h'.get? b = some x) : News h₀ L h' (g o') := by
  obtain ⟨pre, post, rfl, hg, h1, h2⟩ := U.split
  rw [hg]
  intro p hp
  rcases List.mem_append.mp hp with q | q
  · have P := N p (List.mem_append_left _ q); exact ⟨k _ _ (h1 p q) P.1, P.2⟩
  · rcases List.mem_cons.mp q with rfl | q
    · have P := N (d, o) (List.mem_append_right _ (.head _)); exact ⟨e, P.2⟩
    · have P := N p (List.mem_append_right _ (.tail _ q)); exact ⟨k _ _ (h2 p q) P.1, P.2⟩
theorem off_upd {I C D d : Addr} {o o1 o2 : Obj} {l : List (Addr × Obj)} {g : Obj → List (Addr × Obj)} (U : UpdF d o l g) (h : LCg.Off3 I C D (g o1)) : LCg.Off3 I C D (g o2) := by
  obtain ⟨pre, post, rfl, hg, h1, h2⟩ := U.split
  rw [hg] at h ⊢
  refine LCg.Off3.of fun p hp => ?_
  rcases List.mem_append.mp hp with q | q
  · exact h.mem p (List.mem_append_left _ q)
  · rcases List.mem_cons.mp q with rfl | q
    · exact h.mem (d, o1) (List.mem_append_right _ (.head _))
    · exact h.mem p (List.mem_append_right _ (.tail _ q))

theorem draw_use {prog : Program} {w : World} {K : Frag} {p : Program} {loose : List Str} {mean : ExcName → Option Value} {mg mb : Str → Option Value} {f : Addr} (C : DrawTells prog w K p loose mean mg mb f)
    {dp un : Nat} {gd : Option (List Code)} {cn : Str} {cs : Scope} {a : Addr} {ccd : Value} {cl : List (Str × Addr)} {outer : List Env} {A₀ : Around} {base h₀ : Heap} {L : Addr} {m : Str → Option Value} {s : Shared}
    {tp c : Addr} {pl : Int} {t tm : Tok} {n : Nat} {vs : List Value} {ns : List Int} {many : Int} {Q E : Value → Shared → Prop} {news : List (Addr × Obj)} {g : Obj → List (Addr × Obj)}
    (B : Below A₀ base outer h₀) (F : Fr h₀ L s.heap m) (X : K.In h₀) (N : News h₀ L s.heap news) (T : Top p loose mean mg mb h₀) (hk : cs.kind = .function)
    (U : UpdF tp (tapeObj c pl t) news g) (hc : (c, PySem.W.listOf vs.toArray n) ∈ news) (hne : @Ne Nat tp c)
    (hI : IntsAre vs ns) (h0 : 0 < ns.length) (h50 : ns.length ≤ 50) (hp0 : 0 ≤ pl) (hp1 : pl ≤ 1000) (hm0 : 0 < many) (hm1 : many ≤ 1000) (hd : dp + 1 < recursionLimit) (hu : un + 8 < cLine)
    (ret : ∀ v t1 t2 h' tk', 0 ≤ v → v < many → Fr h₀ L h' m → News h₀ L h' (g (tapeObj c (pl + 1) t2)) → Q (.int v t1) { s with heap := h', toks := tk' }) :
    wpAny (model prog w) (ktrTop dp un gd cn cs L a ccd cl outer) (call (.ref f) [.ref tp, .int many tm]) Q E s := by
  have ht : (tp, tapeObj c pl t) ∈ news := by
    obtain ⟨pre, post, rfl, hg, h1, h2⟩ := U.split
    exact List.mem_append_right _ (.head _)
  refine C _ _ _ _ _ _ _ _ _ _ _ _ _ _ _ tp c pl t tm n vs ns many _ _ B F X (fun q hq => ?_) T hk hne hI h0 h50 hp0 hp1 hm0 hm1 hd hu fun v t1 t2 h' tk' hv0 hv1 F' e k => ret v t1 t2 h' tk' hv0 hv1 F' (updF_news U N e k)
  rcases List.mem_cons.mp hq with rfl | hq
  · exact N _ ht
  · rcases List.mem_cons.mp hq with rfl | hq
    · exact N _ hc
    · cases hq

theorem ints_of {lo hi : Int} : ∀ {ys : List Value}, (∀ y ∈ ys, ∃ v t, y = .int v t ∧ lo ≤ v ∧ v < hi) → ∃ ns, IntsAre ys ns ∧ ∀ v ∈ ns, lo ≤ v ∧ v < hi
  | [], _ => ⟨[], .nil, fun _ h => nomatch h⟩
  | y :: r, h => by
    obtain ⟨v, t, rfl, h1, h2⟩ := h y (.head _)
    obtain ⟨ns, hi', hb⟩ := ints_of (ys := r) fun y hy => h y (.tail _ hy)
    refine ⟨v :: ns, .cons _ _ hi', fun x hx => ?_⟩
    rcases List.mem_cons.mp hx with rfl | hx
    · exact ⟨h1, h2⟩
    · exact hb x hx

section
variable {prog : Program} {w : World} {A : Around} {E : Value → Shared → Prop} {s : Shared} {h₀ : Heap} {L : Addr} {m : Str → Option Value} {env : Env}
theorem turn_end {I C D : Addr} {oI oC oD : Obj} {news' : List (Addr × Obj)} {s₁ : Shared} {rest : Value → List (Addr × Obj) → Prop} {y : Value} {h' : Heap} {tk : Nat}
    (F : Fr h₀ L h' m) (N : News h₀ L h' ((I, oI) :: (C, oC) :: (D, oD) :: news')) (off : LCg.Off3 I C D news') (r : rest y news') :
    LCg.CompEnd h₀ L m s₁ I oI C oC D oD (fun _ => True) rest y { s₁ with heap := h', toks := tk } :=
  LCg.CompEnd.intro F N news' (fun _ h => h) off trivial r

theorem draws_rest {elt : Expr} {x : Str} {scope : Scope} {cl : List (Str × Addr)} {P : Nat → Value → Prop} {Fin : List Value → List (Addr × Obj) → Prop} {n : Nat} {news : List (Addr × Obj)} {g : Obj → List (Addr × Obj)} {tp c : Addr} {pl : Int} {t : Tok} (lo hi : Int)
    (U : UpdF tp (tapeObj c pl t) news g)
    (turn : ∀ (i : Nat) ys t' v I oI C oC D m₂ h tk (E' : Value → Shared → Prop), i < n → P i v → LCg.NsObj oC m₂ → m₂ x = some v → Fr h₀ L h m → News h₀ L h ((I, oI) :: (C, oC) :: (D, LCg.lst ys) :: g (tapeObj c (pl + (i : Int)) t')) → LCg.Off3 I C D (g (tapeObj c (pl + (i : Int)) t')) → ((@Ne Nat I C) ∧ (@Ne Nat I D) ∧ (@Ne Nat C D)) →
      wpAny (model prog w) A (eval elt (compEnvC scope cl C env)) (LCg.CompEnd h₀ L m { s with heap := h, toks := tk } I oI C oC D (LCg.lst ys) (fun _ => True) (fun y news' => (∃ z t2, y = .int z t2 ∧ lo ≤ z ∧ z < hi) ∧ ∃ t2, news' = g (tapeObj c (pl + (i : Int) + 1) t2))) E' { s with heap := h, toks := tk })
    (fin : ∀ ys ns t', IntsAre ys ns → ns.length = n → (∀ v ∈ ns, lo ≤ v ∧ v < hi) → Fin ys (g (tapeObj c (pl + (n : Int)) t'))) :
    LCg.CompRest prog w A h₀ L m env elt x scope cl s (fun _ => True) P Fin n 0 [] news := by
  have key : ∀ (j i : Nat) (ys : List Value) (t' : Tok), i + j = n → ys.length = i → (∀ y ∈ ys, ∃ v t, y = .int v t ∧ lo ≤ v ∧ v < hi) → LCg.CompRest prog w A h₀ L m env elt x scope cl s (fun _ => True) P Fin j i ys (g (tapeObj c (pl + (i : Int)) t')) := by
    intro j
    induction j with
    | zero =>
      intro i ys t' hi' hl hy
      obtain ⟨ns, hns, hb⟩ := ints_of hy
      have e : i = n := by omega
      subst e
      exact LCg.CompRest.zero (fin ys ns t' hns (by rw [← hl]; exact hns.length.symm) hb)
    | succ j ih =>
      intro i ys t' hi' hl hy
      refine LCg.CompRest.succ ?_
      intro v I oI C oC D m₂ h tk E' hv hC hx F N off ne
      refine wpAny_mono (turn i ys t' v I oI C oC D m₂ h tk E' (by omega) hv hC hx F N off ne) (fun y s₂ hq => ?_) fun _ _ e => e
      obtain ⟨h', tk', nw, e, F', N', off', hS, ⟨z, t2, rfl, hz1, hz2⟩, t3, rfl⟩ := hq
      refine ⟨h', tk', _, e, F', N', off', hS, ?_⟩
      have := ih (i + 1) (ys ++ [.int z t2]) t3 (by omega) (by simp [hl]) (fun y hy' => by
        rcases List.mem_append.mp hy' with q | q
        · exact hy y q
        · rw [List.mem_singleton.mp q]; exact ⟨z, t2, rfl, hz1, hz2⟩)
      have e2 : pl + ((i + 1 : Nat) : Int) = pl + (i : Int) + 1 := by omega
      rw [e2] at this
      exact this
  have k0 := key n 0 [] t (by omega) rfl (fun _ h => nomatch h)
  rw [updF_self U]
  have e3 : pl + ((0 : Nat) : Int) = pl := by omega
  rw [e3] at k0
  exact k0
end
theorem three {lo hi : Int} {v : List Value} {n n2 : List Int} (h : IntsAre v n) (hl : n.length = 3) (p : n.Perm n2) (hb : ∀ x ∈ n2, lo ≤ x ∧ x < hi) :
    ∃ x y z tx ty tz, v = [.int x tx, .int y ty, .int z tz] ∧ n = [x, y, z] ∧ (lo ≤ x ∧ x < hi) ∧ (lo ≤ y ∧ y < hi) ∧ (lo ≤ z ∧ z < hi) := by
  cases h with
  | nil => cases hl
  | cons x tx h =>
    cases h with
    | nil => cases hl
    | cons y ty h =>
      cases h with
      | nil => cases hl
      | cons z tz h =>
        cases h with
        | nil => exact ⟨x, y, z, tx, ty, tz, rfl, rfl, hb _ (p.mem_iff.mp (by simp)), hb _ (p.mem_iff.mp (by simp)), hb _ (p.mem_iff.mp (by simp))⟩
        | cons _ _ h => simp at hl
end Mine
namespace Mine
section
variable {prog : Program} {w : World} {A₀ A : Around} {s : Shared} {base h₀ : Heap} {outer : List Env} {L : Addr} {m : Str → Option Value} {env : Env} {news : List (Addr × Obj)} {K : Frag}
  {p : Program} {loose : List Str} {mean : ExcName → Option Value} {mg mb : Str → Option Value}
  {R : Result → Shared → Prop} {name qual : Str} {params : Arguments} {body : List Stmt} {scope : Scope} {dV kV doc pm cdv ct oc : Value} {an od : Option Addr} {osl : Array (Option Value)} {f : Addr} {args : Args} {binds : List (Str × Value)}

/-- a def with cells of its own, entered; told besides: all that stood is in the new ground, but for what the ledger names -/
theorem enter_cells (B : Below A₀ base outer h₀) (F : Fr h₀ L s.heap m) (X₀ : K.In h₀) (N : News h₀ L s.heap news) (T : Top p loose mean mg mb h₀) (hA : A.frames = some (env :: outer)) (hf : env.frame = some L) (hke : env.scope.kind = .function)
    (ho : K.lookup f = some ⟨oc, od, .func (fnOf name qual params body scope dV kV doc pm an cdv ct), osl⟩) (hcd : codeIn K cdv qual = true) (hroom : A.depth < recursionLimit)
    (hbind : BindsTo s (fnOf name qual params body scope dV kV doc pm an cdv ct) args binds) (hkind : (binds.all fun y => scope.names.lookup y.1 == some .local || scope.names.lookup y.1 == some .cell) = true)
    (hnd : ((cellsFrom 0 scope.names []).map (·.1)).Nodup)
    (h : ∀ g L' h₁ tk cells, Fr h₀ L g m → Fr g L' h₁ (bindL (envOfC qual scope L' f cdv).kindOf binds fun _ => none) → News g L' h₁ (cells ++ news) →
      CellsAre (bindC (envOfC qual scope L' f cdv).kindOf binds fun _ => none) (cellsFrom (L' + 1) scope.names []) cells → Below A base (env :: outer) g → K.In g → Top p loose mean mg mb g → (∀ q ∈ news, q.1 < L') →
      GSub s.heap g (news.map (·.1)) → s.heap.objs.size = L' →
      wpAny (model prog w) (A.deeper (envOfC qual scope L' f cdv)) (execs body (envOfC qual scope L' f cdv))
        (fun fl s' => LeaveK h₀ L m g R (match fl with | .ret v => v | _ => .none) s')
        (fun e s' => wpAny (model prog w) (A.deeper (envOfC qual scope L' f cdv)) (leaving (envOfC qual scope L' f cdv) e) (fun _ s'' => R (.error e) s'') (fun e' s'' => R (.error e') s'') s')
        { s with heap := h₁, toks := tk })
    (hco : scope.isCoroutine = false) (hgen : scope.isGenerator = false) (hk : scope.kind = .function) : codeAny (model prog w) A (.call (.ref f) args) R s := by
  obtain ⟨ground, below, stays, leave⟩ := groundX (R := R) B F N hA hf hke
  have inHeap := X₀.keeps F.keep
  refine codeAny_call_function hroom (inHeap _ _ ho) rfl hco hgen rfl (codeRec_of inHeap hcd) (hbind _ _ _ _ ?_)
  refine wpAny_newFunctionEnv_cells hk (kindsX hkind _) fun env' he s' made => ?_
  subst he
  refine ⟨(T.nolimit.keeps F.keep).keeps made.toInCall.keep, codeAny_func ?_⟩
  obtain ⟨h₁, tk, rfl, _⟩ := made.done
  have kept := made.toInCall.keep
  have nodup := cellsFrom_names scope.names 0 (s.heap.objs.size + 1) [] [] rfl ▸ hnd
  obtain ⟨cells, ledger, are⟩ := Cl.news (h₀ := s.heap) (Nat.le_refl _) fun n c hm => ⟨made.cell n c (lookup_of_mem_nodup nodup hm), made.above n c hm⟩
  have gone : ∀ b, s.heap.get? b = none → (hideAll s.heap (news.map (·.1))).get? b = none := fun b e => by
    cases q : (hideAll s.heap (news.map (·.1))).get? b with
    | none => rfl
    | some o => rw [of_hideAll _ q] at e; cases e
  have frame : Fr (hideAll s.heap (news.map (·.1))) s.heap.objs.size h₁ (bindL (envOfC qual scope s.heap.objs.size f cdv).kindOf binds fun _ => none) :=
    ⟨made.toInCall.ns, fun b o e => kept b o (of_hideAll _ e), Nat.le_of_eq (hideAll_size _ _)⟩
  have all : News (hideAll s.heap (news.map (·.1))) s.heap.objs.size h₁ (cells ++ news) := fun q hq => by
    rcases List.mem_append.mp hq with hq | hq
    · exact ⟨(ledger q hq).1, (ledger q hq).2.1, gone _ (ledger q hq).2.2⟩
    · exact ⟨kept _ _ (N q hq).1, Nat.ne_of_lt (Heap.lt_size (N q hq).1), hideAll_none _ (List.mem_map_of_mem hq)⟩
  exact wpAny_mono (h _ _ h₁ tk cells ground frame all are below (X₀.keeps stays) (T.keeps stays) (fun q hq => Heap.lt_size (N q hq).1) (fun b o e n => hideAll_get _ e n) rfl) (fun fl s' hl => leave _ _ hl) fun _ _ y => y
end
end Mine
namespace Mine
section
variable {prog : Program} {w : World} {A : Around} {E : Value → Shared → Prop} {s : Shared} {h₀ : Heap} {L : Addr} {m : Str → Option Value} {env : Env}

noncomputable def SignSrc (prog : Program) (w : World) (A : Around) (h₀ : Heap) (L : Addr) (m : Str → Option Value) (env : Env) (elt : Expr) (x : Str) (scope : Scope) (cl : List (Str × Addr)) (Q : Value → Shared → Prop) (xv : Value) (s₁ : Shared) : Prop :=
  ∃ y t news, xv = .str y t ∧ y.cps.all (· < 128) = true ∧ y.cps.size ≤ sizeLine ∧ Fr h₀ L s₁.heap m ∧ News h₀ L s₁.heap news ∧
    ∀ g, LCg.CompRest prog w A h₀ L m env elt x scope cl { s₁ with heap := g } (fun _ => True) (SignAt y) (LCg.FinE h₀ L m { s₁ with heap := g } Q) y.cps.size 0 [] news

theorem ListComp_signs {elt iter : Expr} {x : Str} {px : Pos} {scope : Scope} {cl : List (Str × Addr)} {pos : Pos} {Q : Value → Shared → Prop} (_ : Fr h₀ L s.heap m) (hh : A.handled = none)
    (hclos : closureFor scope env = pure cl) (hcell : ∀ y ∈ scope.names, y.2 ≠ .cell) (hkind : scope.kind = .function)
    (hnames : ∀ y ∈ scope.names, y.2 = .local → scope.names.lookup y.1 = some .local) (hx : scope.names.lookup x = some .local)
    (h : wpAny (model prog w) A (eval iter env) (SignSrc prog w A h₀ L m env elt x scope cl Q) E s)
    (hs : ∀ x, foldedSetIterable iter env x = pure x := by intro _; rfl) :
    wpAny (model prog w) A (eval (.ListComp elt [⟨.Name x px, iter, [], 0⟩] scope pos) env) Q E s := by
  rw [eval_ListComp]
  refine wpAny_comprehension_free (use := none) rfl hs hclos hkind hnames (wpAny_mono h (fun xv s₁ h₁ => ?_) fun _ _ e => e)
  obtain ⟨y, t, news, rfl, ha, hsz, F, N, R⟩ := h₁
  refine wpAny_pyIter_ascii ha ?_
  have up : ∀ b o, s₁.heap.get? b = some o → (s₁.heap.push { cls := .type "str_ascii_iterator", data := .fields #[.str y t, .int 0 0] }).get? b = some o := fun b o e => Heap.get?_push_of_some _ e
  refine LCg.block_U (Walks.strAscii hh s₁.heap.objs.size y t) hsz (fun i h st => by obtain ⟨o, e, _⟩ := st; exact ⟨o, e⟩)
    (fun i h h' o nw st e e' _ _ _ => by obtain ⟨o', q, r⟩ := st; rw [e] at q; cases q; exact ⟨o, e', r⟩) hcell hkind hx ⟨_, Heap.get?_push_size _ rfl, rfl, rfl⟩ (fun b hb => ?_)
    (F.keeps up) (N.grown up) (Nat.ne_of_lt F.ns.lt) (next_is_new F) (fun p hp => Nat.ne_of_lt (Heap.lt_size (N p hp).1)) trivial (R _) ?_
  · rw [List.mem_singleton.mp hb]
    show s₁.heap.objs.size < (s₁.heap.push _).objs.size
    rw [Heap.size_push]; exact Nat.lt_succ_self _
  · intro D C h tk m' ys news' F' N' o1 hn hC₀ hD₀ hCL hDL hCD offC fin
    refine ⟨m', hn, fun h'' hs'' => fin D h'' tk (F'.change hs'' hCL hC₀) (fun p hp => ?_) o1⟩
    refine ⟨hs''.extBut _ _ ?_ (N' p hp).1, (N' p hp).2⟩
    rcases List.mem_cons.mp hp with rfl | hp
    · exact Ne.symm hCD
    · exact offC p hp

theorem strs_snoc {y : Str} {t : Tok} : ∀ {vs : List Value} {ys : List Str}, StrsAre vs ys → StrsAre (vs ++ [.str y t]) (ys ++ [y])
  | _, _, .nil => .cons y t .nil
  | _, _, .cons z u r => .cons z u (strs_snoc r)

theorem signs_rest {elt : Expr} {x : Str} {scope : Scope} {cl : List (Str × Addr)} {y : Str} {Fin : List Value → List (Addr × Obj) → Prop} {news : List (Addr × Obj)} (ha : y.cps.all (· < 128) = true)
    (turn : ∀ (c : Nat) (u : Tok) I oI C oC D m₂ ys h tk (E' : Value → Shared → Prop), c < 128 → LCg.NsObj oC m₂ → m₂ x = some (.str ⟨#[c]⟩ u) → Fr h₀ L h m → News h₀ L h ((I, oI) :: (C, oC) :: (D, LCg.lst ys) :: news) → LCg.Off3 I C D news → ((@Ne Nat I C) ∧ (@Ne Nat I D) ∧ (@Ne Nat C D)) →
      wpAny (model prog w) A (eval elt (compEnvC scope cl C env)) (LCg.CompEnd h₀ L m { s with heap := h, toks := tk } I oI C oC D (LCg.lst ys) (fun _ => True) (fun z news' => (∃ k t, z = .str ⟨#[k]⟩ t) ∧ news' = news)) E' { s with heap := h, toks := tk })
    (fin : ∀ ys xs, StrsAre ys xs → (∀ z ∈ xs, z.length = 1) → xs.length = y.cps.size → Fin ys news) :
    LCg.CompRest prog w A h₀ L m env elt x scope cl s (fun _ => True) (SignAt y) Fin y.cps.size 0 [] news := by
  have key : ∀ (j i : Nat) (ys : List Value) (xs : List Str), i + j = y.cps.size → xs.length = i → StrsAre ys xs → (∀ z ∈ xs, z.length = 1) → LCg.CompRest prog w A h₀ L m env elt x scope cl s (fun _ => True) (SignAt y) Fin j i ys news := by
    intro j
    induction j with
    | zero => exact fun i ys xs hi hl hy h1 => LCg.CompRest.zero (fin ys xs hy h1 (by omega))
    | succ j ih =>
      intro i ys xs hi hl hy h1
      refine LCg.CompRest.succ ?_
      intro v I oI C oC D m₂ h tk E' hv hC hx F N off ne
      obtain ⟨c, u, hc, rfl⟩ := hv
      have hc8 : c < 128 := by
        have := Array.all_eq_true.mp ha i (by omega)
        rw [Array.getElem?_eq_getElem (by omega)] at hc
        cases hc
        simpa using this
      refine wpAny_mono (turn c u I oI C oC D m₂ ys h tk E' hc8 hC hx F N off ne) (fun z s₂ hq => ?_) fun _ _ e => e
      obtain ⟨h', tk', nw, e, F', N', off', hS, ⟨k, t2, rfl⟩, rfl⟩ := hq
      refine ⟨h', tk', _, e, F', N', off', hS, ?_⟩
      exact ih (i + 1) _ (xs ++ [⟨#[k]⟩]) (by omega) (by simp [hl]) (strs_snoc hy) fun z hz => by
        rcases List.mem_append.mp hz with q | q
        · exact h1 z q
        · rw [List.mem_singleton.mp q]; rfl
  exact key _ 0 [] [] (by omega) rfl .nil fun _ h => nomatch h

noncomputable def LowTells (prog : Program) (w : World) (K : Frag) (p : Program) (loose : List Str) (mean : ExcName → Option Value) (mg mb : Str → Option Value) (f : Addr) : Prop :=
  ∀ (dp un : Nat) (gd : Option (List Code)) (cn : Str) (cs : Scope) (a : Addr) (ccd : Value) (cl : List (Str × Addr)) (outer : List Env) (A₀ : Around) (base h₀ : Heap) (L : Addr) (m : Str → Option Value) (s : Shared)
    (y : Str) (t : Tok) (Q E : Value → Shared → Prop),
    Below A₀ base outer h₀ → Fr h₀ L s.heap m → K.In h₀ → Top p loose mean mg mb h₀ → cs.kind = .function →
    y.cps.all (· < 128) = true → y.cps.size ≤ 1000 → dp + 4 < recursionLimit → un + 32 < cLine →
    (∀ z t1 h' tk', Fr h₀ L h' m → (∀ b o, s.heap.get? b = some o → h'.get? b = some o) → Q (.str z t1) { s with heap := h', toks := tk' }) →
    wpAny (model prog w) (ktrTop dp un gd cn cs L a ccd cl outer) (call (.ref f) [.str y t]) Q E s
theorem kept_all {hs g h' : Heap} {L' : Addr} {m' : Str → Option Value} (F' : Fr g L' h' m') (kG : GSub hs g (List.map (fun x => x.fst) ([] : List (Addr × Obj)))) : ∀ b o, hs.get? b = some o → h'.get? b = some o :=
  fun b o e => F'.keep b o (kG b o e (fun h => nomatch h))
end
theorem units_make (A : Around) (C : Addr) (l : List Value) (kw : List (Str × Value)) : (A.under (.builtin "type.__call__" ⟨.ref C :: l, kw⟩)).units = A.units + 1 := by
  show A.units + Code.cUnits _ = _
  rfl
theorem low_use {prog : Program} {w : World} {K : Frag} {p : Program} {loose : List Str} {mean : ExcName → Option Value} {mg mb : Str → Option Value} {f : Addr} (C : LowTells prog w K p loose mean mg mb f)
    {dp un : Nat} {gd : Option (List Code)} {cn : Str} {cs : Scope} {a : Addr} {ccd : Value} {cl : List (Str × Addr)} {outer : List Env} {A₀ : Around} {base h₀ : Heap} {L : Addr} {m : Str → Option Value} {s : Shared}
    {y : Str} {t : Tok} {Q E : Value → Shared → Prop} {news : List (Addr × Obj)}
    (B : Below A₀ base outer h₀) (F : Fr h₀ L s.heap m) (X : K.In h₀) (N : News h₀ L s.heap news) (T : Top p loose mean mg mb h₀) (hk : cs.kind = .function)
    (ha : y.cps.all (· < 128) = true) (hy : y.cps.size ≤ 1000) (hd : dp + 4 < recursionLimit) (hu : un + 32 < cLine)
    (ret : ∀ z t1 h' tk', Fr h₀ L h' m → News h₀ L h' news → Q (.str z t1) { s with heap := h', toks := tk' }) :
    wpAny (model prog w) (ktrTop dp un gd cn cs L a ccd cl outer) (call (.ref f) [.str y t]) Q E s :=
  C _ _ _ _ _ _ _ _ _ _ _ _ _ _ _ _ _ _ _ B F X T hk ha hy hd hu fun z t1 h' tk' F' k => ret z t1 h' tk' F' (N.grown k)
end Mine
namespace Mine
noncomputable abbrev ent (P : Params) (k : String) (t : Tok) (v : Value) : DictEntry := { hash := PyData.keyHash P (Str.ofString k), key := .str (Str.ofString k) t, val := v }
noncomputable abbrev partDict (P : Params) (x y z : Int) (fv kv ev sv : Value) (k1 k2 k3 k4 k5 k6 k7 k8 tx ty tz : Tok) : Obj :=
  dictOf [ent P "begin" k1 (.int x tx), ent P "body" k2 (.int y ty), ent P "end" k3 (.int z tz), ent P "fields" k4 fv, ent P "kind" k5 kv, ent P "encoding" k6 ev, ent P "kids" k7 sv, ent P "inner" k8 .none] 8

noncomputable def PartTells (prog : Program) (w : World) (K : Frag) (p : Program) (loose : List Str) (mean : ExcName → Option Value) (mg mb : Str → Option Value) (C f : Addr) : Prop :=
  ∀ (dp un : Nat) (gd : Option (List Code)) (cn : Str) (cs : Scope) (a : Addr) (ccd : Value) (cl : List (Str × Addr)) (outer : List Env) (A₀ : Around) (base h₀ : Heap) (L : Addr) (m : Str → Option Value) (s : Shared)
    (tp c : Addr) (pl : Int) (t tm : Tok) (n : Nat) (vs : List Value) (ns : List Int) (size : Int) (Q E : Value → Shared → Prop),
    Below A₀ base outer h₀ → Fr h₀ L s.heap m → K.In h₀ → News h₀ L s.heap [(tp, tapeObj c pl t), (c, PySem.W.listOf vs.toArray n)] → Top p loose mean mg mb h₀ → cs.kind = .function → @Ne Nat tp c →
    IntsAre vs ns → 0 < ns.length → ns.length ≤ 50 → 0 ≤ pl → pl ≤ 900 → 0 ≤ size → size ≤ 100 → dp + 16 < recursionLimit → un + 128 < cLine →
    (∀ r d x y z fv kv ev sv k1 k2 k3 k4 k5 k6 k7 k8 tx ty tz t2 h' tk', 0 ≤ x ∧ x < 256 → 0 ≤ y ∧ y < 256 → 0 ≤ z ∧ z < 256 → Fr h₀ L h' m →
      News h₀ L h' [(r, instObj C d), (d, partDict w.params x y z fv kv ev sv k1 k2 k3 k4 k5 k6 k7 k8 tx ty tz)] → h'.get? tp = some (tapeObj c (pl + 3) t2) → (∀ b o, b ≠ tp → s.heap.get? b = some o → h'.get? b = some o) →
      @LE.le Nat _ s.heap.objs.size d → @LT.lt Nat _ d r → Q (.ref r) { s with heap := h', toks := tk' }) →
    wpAny (model prog w) (ktrTop dp un gd cn cs L a ccd cl outer) (call (.ref f) [.ref tp, .int size tm]) Q E s

theorem news2 {h₀ h : Heap} {L : Addr} {news : List (Addr × Obj)} {a b : Addr × Obj} (N : News h₀ L h news) (ha : a ∈ news) (hb : b ∈ news) : News h₀ L h [a, b] := fun p hp => by
  rcases List.mem_cons.mp hp with rfl | hp
  · exact N _ ha
  · rw [List.mem_singleton.mp hp]; exact N _ hb
theorem news_at {h₀ h : Heap} {L a : Addr} {o : Obj} {news : List (Addr × Obj)} (N : News h₀ L h news) (ha : (a, o) ∈ news) : h.get? a = some o := (N _ ha).1

theorem part_use {prog : Program} {w : World} {K : Frag} {p : Program} {loose : List Str} {mean : ExcName → Option Value} {mg mb : Str → Option Value} {f cls : Addr} (C : PartTells prog w K p loose mean mg mb cls f)
    {dp un : Nat} {gd : Option (List Code)} {cn : Str} {cs : Scope} {a : Addr} {ccd : Value} {cl : List (Str × Addr)} {outer : List Env} {A₀ : Around} {base h₀ : Heap} {L : Addr} {m : Str → Option Value} {s : Shared}
    {tp c : Addr} {pl : Int} {t tm : Tok} {n : Nat} {vs : List Value} {ns : List Int} {size : Int} {Q E : Value → Shared → Prop} {news : List (Addr × Obj)} {g : Obj → List (Addr × Obj)}
    (B : Below A₀ base outer h₀) (F : Fr h₀ L s.heap m) (X : K.In h₀) (N : News h₀ L s.heap news) (T : Top p loose mean mg mb h₀) (hk : cs.kind = .function)
    (U : UpdF tp (tapeObj c pl t) news g) (hc : (c, PySem.W.listOf vs.toArray n) ∈ news) (hne : @Ne Nat tp c)
    (hI : IntsAre vs ns) (h0 : 0 < ns.length) (h50 : ns.length ≤ 50) (hp0 : 0 ≤ pl) (hp1 : pl ≤ 900) (hm0 : 0 ≤ size) (hm1 : size ≤ 100) (hd : dp + 16 < recursionLimit) (hu : un + 128 < cLine)
    (ret : ∀ r d x y z fv kv ev sv k1 k2 k3 k4 k5 k6 k7 k8 tx ty tz t2 h' tk', 0 ≤ x ∧ x < 256 → 0 ≤ y ∧ y < 256 → 0 ≤ z ∧ z < 256 → Fr h₀ L h' m →
      News h₀ L h' ((r, instObj cls d) :: (d, partDict w.params x y z fv kv ev sv k1 k2 k3 k4 k5 k6 k7 k8 tx ty tz) :: g (tapeObj c (pl + 3) t2)) → (∀ p ∈ news, p.1 < d) → (∀ p ∈ news, p.1 < r) → @LT.lt Nat _ d r → Q (.ref r) { s with heap := h', toks := tk' }) :
    wpAny (model prog w) (ktrTop dp un gd cn cs L a ccd cl outer) (call (.ref f) [.ref tp, .int size tm]) Q E s := by
  have ht : (tp, tapeObj c pl t) ∈ news := by
    obtain ⟨pre, post, rfl, hg, h1, h2⟩ := U.split
    exact List.mem_append_right _ (.head _)
  refine C _ _ _ _ _ _ _ _ _ _ _ _ _ _ _ tp c pl t tm n vs ns size _ _ B F X (news2 N ht hc) T hk hne hI h0 h50 hp0 hp1 hm0 hm1 hd hu
    fun r d x y z fv kv ev sv k1 k2 k3 k4 k5 k6 k7 k8 tx ty tz t2 h' tk' hx hy hz F' N' e k hsz hdr => ret r d x y z fv kv ev sv k1 k2 k3 k4 k5 k6 k7 k8 tx ty tz t2 h' tk' hx hy hz F' (fun q hq => ?_) (fun q hq => Nat.lt_of_lt_of_le (Heap.lt_size (N q hq).1) hsz) (fun q hq => Nat.lt_trans (Nat.lt_of_lt_of_le (Heap.lt_size (N q hq).1) hsz) hdr) hdr
  rcases List.mem_cons.mp hq with rfl | hq
  · exact N' _ (.head _)
  · rcases List.mem_cons.mp hq with rfl | hq
    · exact N' _ (.tail _ (.head _))
    · exact updF_news U N e k q hq
theorem with_tells {α : Type} {prog : Program} {w : World} {A : Around} {t : Sem α} {Q : α → Shared → Prop} {E : Value → Shared → Prop} {s : Shared} {K : Frag} {p : Program} {loose : List Str} {mean : ExcName → Option Value} {mg mb : Str → Option Value} {h₀ : Heap} (cls fp fd fl : Addr)
    (_ : K.In h₀) (_ : Top p loose mean mg mb h₀) (CD : DrawTells prog w K p loose mean mg mb fd) (CL : LowTells prog w K p loose mean mg mb fl)
    (CP : DrawTells prog w K p loose mean mg mb fd → LowTells prog w K p loose mean mg mb fl → PartTells prog w K p loose mean mg mb cls fp)
    (k : DrawTells prog w K p loose mean mg mb fd → PartTells prog w K p loose mean mg mb cls fp → wpAny (model prog w) A t Q E s) : wpAny (model prog w) A t Q E s := k CD (CP CD CL)
end Mine
namespace Mine
theorem cut {M : Model} {A : Around} {E : Value → Shared → Prop} {s : Shared} {env : Env} {st : Stmt} {rest : List Stmt} {Q : Flow → Shared → Prop} (R : Shared → Prop)
    (h1 : wpAny M A (exec st env) (fun f s' => f = .next ∧ R s') E s) (h2 : ∀ s', R s' → wpAny M A (execs rest env) Q E s') : wpAny M A (execs (st :: rest) env) Q E s :=
  wpAny_execs_cons (wpAny_mono h1 (fun f s' h => by obtain ⟨rfl, r⟩ := h; exact h2 s' r) fun _ _ e => e)
theorem viaLt {x y z : Nat} {R : Prop} (h : z < y ∧ R) (k : z < y ∧ R → x < y) : x < y := k h
theorem viaNe {x y z : Nat} {R : Prop} (h : x ≠ z ∧ R) (k : x ≠ z ∧ R → x ≠ y) : x ≠ y := k h
end Mine
namespace Mine
noncomputable def Opq (s : Shared) : Prop := ∃ x : Nat, x = s.toks
section
variable {M : Model} {A : Around} {E : Value → Shared → Prop} {s : Shared} {env : Env} {st : Stmt} {rest : List Stmt} {Q : Flow → Shared → Prop} {h₀ : Heap} {L : Addr} {m : Str → Option Value} {tail : List (Addr × Obj)} {a b : Addr} {o o5 : Obj}

/-- behind «tape = [cells, 0]» -/
noncomputable def After1 (h₀ : Heap) (L : Addr) (m : Str → Option Value) (a b : Addr) (tail : List (Addr × Obj)) (s s' : Shared) : Prop :=
  ∀ R : Shared → Prop, (∀ (D l : Addr) (ws : List Value) (ns : List Int) (c : Nat) (h : Heap) (tk : Nat) (t : Tok) (o : Obj), IntsAre ws ns → 0 < ns.length → ns.length ≤ 50 → @LT.lt Nat _ b D → @LT.lt Nat _ D l → o.data = .cell (some (.ref l)) → Fr h₀ L h m →
    News h₀ L h ((l, tapeObj D 0 t) :: (D, PySem.W.listOf ws.toArray c) :: (tail ++ [(a, o), (263, tabObj #[])])) → R { s with heap := h, toks := tk }) → R s'

theorem After1.of {D l : Addr} {ws : List Value} {ns : List Int} {c : Nat} {h : Heap} {tk : Nat} {t : Tok} (N : News h₀ L h ((l, tapeObj D 0 t) :: (D, PySem.W.listOf ws.toArray c) :: (tail ++ [(a, o), (263, tabObj #[])]))) (F : Fr h₀ L h m)
    (d : o.data = .cell (some (.ref l))) (i : IntsAre ws ns) (h0 : 0 < ns.length) (h1 : ns.length ≤ 50) (l1 : @LT.lt Nat _ b D) (l2 : @LT.lt Nat _ D l) : After1 h₀ L m a b tail s { s with heap := h, toks := tk } :=
  fun _ k => k D l ws ns c h tk t o i h0 h1 l1 l2 d F N
theorem cut1 {c5 c4 c3 c2 c1 : Addr} {o4 o3 o2 o1 : Obj} {m₁ : Str → Option Value} (F : Fr h₀ L s.heap m) (N : News h₀ L s.heap [(c5, o5), (c4, o4), (c3, o3), (c2, o2), (c1, o1), (263, tabObj #[])]) (ho : @LT.lt Nat _ 263 c1 ∧ @LT.lt Nat _ c1 c2 ∧ @LT.lt Nat _ c2 c3 ∧ @LT.lt Nat _ c3 c4 ∧ @LT.lt Nat _ c4 c5)
    (hm : m = m₁)
    (h1 : wpAny M A (exec st env) (fun f s' => f = .next ∧ After1 h₀ L m c1 c5 [(c5, o5), (c4, o4), (c3, o3), (c2, o2)] s s') E s)
    (h2 : ∀ (D l : Addr) ws ns c h tk t o, IntsAre ws ns → 0 < ns.length → ns.length ≤ 50 → @LT.lt Nat _ c5 D → @LT.lt Nat _ D l → o.data = .cell (some (.ref l)) → (@LT.lt Nat _ 263 c1) → (@LT.lt Nat _ 263 c2 ∧ @LT.lt Nat _ c1 c2) → (@LT.lt Nat _ 263 c3 ∧ @LT.lt Nat _ c1 c3 ∧ @LT.lt Nat _ c2 c3) → (@LT.lt Nat _ 263 c4 ∧ @LT.lt Nat _ c1 c4 ∧ @LT.lt Nat _ c2 c4 ∧ @LT.lt Nat _ c3 c4) → (@LT.lt Nat _ 263 c5 ∧ @LT.lt Nat _ c1 c5 ∧ @LT.lt Nat _ c2 c5 ∧ @LT.lt Nat _ c3 c5 ∧ @LT.lt Nat _ c4 c5) → (@LT.lt Nat _ c5 D ∧ @LT.lt Nat _ c4 D ∧ @LT.lt Nat _ c3 D ∧ @LT.lt Nat _ c2 D ∧ @LT.lt Nat _ c1 D ∧ @LT.lt Nat _ 263 D) → (@LT.lt Nat _ D l ∧ @LT.lt Nat _ c5 l ∧ @LT.lt Nat _ c4 l ∧ @LT.lt Nat _ c3 l ∧ @LT.lt Nat _ c2 l ∧ @LT.lt Nat _ c1 l ∧ @LT.lt Nat _ 263 l) → Fr h₀ L h m₁ →
      News h₀ L h [(l, tapeObj D 0 t), (D, PySem.W.listOf ws.toArray c), (c5, o5), (c4, o4), (c3, o3), (c2, o2), (c1, o), (263, tabObj #[])] → wpAny M A (execs rest env) Q E { s with heap := h, toks := tk }) :
    wpAny M A (execs (st :: rest) env) Q E s :=
  cut _ h1 fun s' h => by
    subst hm
    refine h (fun s' => wpAny M A (execs rest env) Q E s') fun D l ws ns c h tk t o e1 e2 e3 e4 e5 e6 e7 e8 => ?_
    obtain ⟨q1, q2, q3, q4, q5⟩ := ho
    have a2 := Nat.lt_trans q1 q2
    have a3 := Nat.lt_trans a2 q3
    have b3 := Nat.lt_trans q2 q3
    have a4 := Nat.lt_trans a3 q4
    have b4 := Nat.lt_trans b3 q4
    have c4' := Nat.lt_trans q3 q4
    have a5 := Nat.lt_trans a4 q5
    have b5 := Nat.lt_trans b4 q5
    have c5' := Nat.lt_trans c4' q5
    have d5' := Nat.lt_trans q4 q5
    have e4' : @LT.lt Nat _ c5 D := e4
    have e5' : @LT.lt Nat _ D l := e5
    have up : ∀ {x : Nat}, @LT.lt Nat _ x c5 → @LT.lt Nat _ x D := fun k => Nat.lt_trans k e4'
    have up2 : ∀ {x : Nat}, @LT.lt Nat _ x D → @LT.lt Nat _ x l := fun k => Nat.lt_trans k e5'
    exact h2 D l ws ns c h tk t o e1 e2 e3 e4 e5 e6 q1 ⟨a2, q2⟩ ⟨a3, b3, q3⟩ ⟨a4, b4, c4', q4⟩ ⟨a5, b5, c5', d5', q5⟩ ⟨e4, up q5, up d5', up c5', up b5, up a5⟩
      ⟨e5, up2 e4, up2 (up q5), up2 (up d5'), up2 (up c5'), up2 (up b5), up2 (up a5)⟩ e7 e8
/-- behind «way, word = ..» -/
noncomputable def IsWord (W : Str) : Prop := W = Str.ofString "" ∨ W = Str.ofString "HEADER" ∨ W = Str.ofString "TEXT" ∨ W = Str.ofString "MIME"
theorem word0 : IsWord (Str.ofString "") := .inl rfl
theorem word1 : IsWord (Str.ofString "HEADER") := .inr (.inl rfl)
theorem word2 : IsWord (Str.ofString "TEXT") := .inr (.inr (.inl rfl))
theorem word3 : IsWord (Str.ofString "MIME") := .inr (.inr (.inr rfl))
noncomputable def After2 (h₀ : Heap) (L : Addr) (m : Str → Option Value) (l D c5 : Addr) (od : Obj) (tail : List (Addr × Obj)) (s s' : Shared) : Prop :=
  ∀ R : Shared → Prop, (∀ (W : Str) (tW tw u : Tok) (way pl : Int) (h : Heap) (tk : Nat) (o : Obj), IsWord W → 0 ≤ way → way < 4 → 0 ≤ pl → pl ≤ 2 → o.data = .cell (some (.int way tw)) →
    Fr h₀ L h (fun y => if y = Str.ofString "word" then some (.str W tW) else m y) → News h₀ L h ((l, tapeObj D pl u) :: (D, od) :: (c5, o) :: tail) → R { s with heap := h, toks := tk }) → R s'
theorem After2.of {l D c5 : Addr} {od : Obj} {W : Str} {tW tw u : Tok} {way pl : Int} {h : Heap} {tk : Nat} (N : News h₀ L h ((l, tapeObj D pl u) :: (D, od) :: (c5, o) :: tail)) (F : Fr h₀ L h (fun y => if y = Str.ofString "word" then some (.str W tW) else m y))
    (d : o.data = .cell (some (.int way tw))) (hW : IsWord W) (h0 : 0 ≤ way) (h1 : way < 4) (p0 : 0 ≤ pl) (p1 : pl ≤ 2) : After2 h₀ L m l D c5 od tail s { s with heap := h, toks := tk } :=
  fun _ k => k W tW tw u way pl h tk o hW h0 h1 p0 p1 d F N
theorem cut2 {l D c5 : Addr} {o5 od ot : Obj} (_ : Fr h₀ L s.heap m) (_ : News h₀ L s.heap ((l, ot) :: (D, od) :: (c5, o5) :: tail))
    (h1 : wpAny M A (exec st env) (fun f s' => f = .next ∧ After2 h₀ L m l D c5 od tail s s') E s)
    (h2 : ∀ (W : Str) (tW tw u : Tok) (way pl : Int) (h : Heap) (tk : Nat) (o : Obj), IsWord W → 0 ≤ way → way < 4 → 0 ≤ pl → pl ≤ 2 → o.data = .cell (some (.int way tw)) →
      Fr h₀ L h (fun y => if y = Str.ofString "word" then some (.str W tW) else m y) → News h₀ L h ((l, tapeObj D pl u) :: (D, od) :: (c5, o) :: tail) → wpAny M A (execs rest env) Q E { s with heap := h, toks := tk }) :
    wpAny M A (execs (st :: rest) env) Q E s :=
  cut _ h1 fun _ h => h (fun s' => wpAny M A (execs rest env) Q E s') h2
noncomputable abbrev tupObj (vs : List Value) : Obj := { cls := .type "tuple", data := .seq vs.toArray }
theorem apart_data {h : Heap} {news : List (Addr × Obj)} {p q : Addr} {o1 o2 : Obj} (N : News h₀ L h news) (h1 : (p, o1) ∈ news) (h2 : (q, o2) ∈ news) (k : o1.data ≠ o2.data) : @Ne Nat p q := fun e => by
  have e1 := (N _ h1).1
  have e2 := (N _ h2).1
  have e' : p = q := e
  subst e'
  rw [e1] at e2
  exact k (by have e3 : o1 = o2 := Option.some.inj e2; rw [e3])
theorem apart_cls {h : Heap} {news : List (Addr × Obj)} {p q : Addr} {o1 o2 : Obj} (N : News h₀ L h news) (h1 : (p, o1) ∈ news) (h2 : (q, o2) ∈ news) (k : o1.cls ≠ o2.cls) : @Ne Nat p q := fun e => by
  have e1 := (N _ h1).1
  have e2 := (N _ h2).1
  have e' : p = q := e
  subst e'
  rw [e1] at e2
  exact k (by have e3 : o1 = o2 := Option.some.inj e2; rw [e3])
theorem apart_cell {h : Heap} {news : List (Addr × Obj)} {p q : Addr} {vs : List Value} {o2 : Obj} {x : Option Value} (N : News h₀ L h news) (h1 : (p, tupObj vs) ∈ news) (h2 : (q, o2) ∈ news) (k : o2.data = .cell x) : @Ne Nat p q :=
  apart_data N h1 h2 (by rw [k]; intro h; cases h)
theorem apart_list {h : Heap} {news : List (Addr × Obj)} {p q : Addr} {vs : List Value} {ws : Array Value} {n : Nat} (N : News h₀ L h news) (h1 : (p, tupObj vs) ∈ news) (h2 : (q, PySem.W.listOf ws n) ∈ news) : @Ne Nat p q :=
  apart_cls N h1 h2 (by intro h; injection h with h; revert h; decide)
theorem apart_tab {h : Heap} {news : List (Addr × Obj)} {p q : Addr} {vs : List Value} {ws : Array Value} (N : News h₀ L h news) (h1 : (p, tupObj vs) ∈ news) (h2 : (q, tabObj ws) ∈ news) : @Ne Nat p q :=
  apart_cls N h1 h2 (by intro h; cases h)
/-- behind «is_letter, path = ..» -/
noncomputable def After3 (h₀ : Heap) (L : Addr) (m : Str → Option Value) (l D : Addr) (od : Obj) (tail : List (Addr × Obj)) (s s' : Shared) : Prop :=
  ∀ R : Shared → Prop, (∀ (b : Bool) (P : Addr) (ys : List Value) (ps : List Int) (u : Tok) (pl : Int) (h : Heap) (tk : Nat), IntsAre ys ps → ps.length ≤ 3 → 0 ≤ pl → pl ≤ 20 →
    Fr h₀ L h (fun y => if y = Str.ofString "is_letter" then some (.bool b) else if y = Str.ofString "path" then some (.ref P) else m y) → News h₀ L h ((P, tupObj ys) :: (l, tapeObj D pl u) :: (D, od) :: tail) → R { s with heap := h, toks := tk }) → R s'
theorem After3.of {l D P : Addr} {od : Obj} {b : Bool} {ys : List Value} {ps : List Int} {u : Tok} {pl : Int} {h : Heap} {tk : Nat} (i : IntsAre ys ps) (N : News h₀ L h ((P, tupObj ys) :: (l, tapeObj D pl u) :: (D, od) :: tail))
    (F : Fr h₀ L h (fun y => if y = Str.ofString "is_letter" then some (.bool b) else if y = Str.ofString "path" then some (.ref P) else m y))
    (h0 : ps.length ≤ 3) (p0 : 0 ≤ pl) (p1 : pl ≤ 20) : After3 h₀ L m l D od tail s { s with heap := h, toks := tk } :=
  fun _ k => k b P ys ps u pl h tk i h0 p0 p1 F N
theorem cut3 {l D c5 c4 c3 c2 c1 : Addr} {o5 o4 o3 o2 o1 ot : Obj} {wa : Array Value} {n : Nat} {v5 v4 v3 v2 v1 : Option Value}
    (_ : Fr h₀ L s.heap m) (_ : News h₀ L s.heap [(l, ot), (D, PySem.W.listOf wa n), (c5, o5), (c4, o4), (c3, o3), (c2, o2), (c1, o1), (263, tabObj #[])])
    (d5 : o5.data = .cell v5) (d4 : o4.data = .cell v4) (d3 : o3.data = .cell v3) (d2 : o2.data = .cell v2) (d1 : o1.data = .cell v1)
    (h1 : wpAny M A (exec st env) (fun f s' => f = .next ∧ After3 h₀ L m l D (PySem.W.listOf wa n) [(c5, o5), (c4, o4), (c3, o3), (c2, o2), (c1, o1), (263, tabObj #[])] s s') E s)
    (h2 : ∀ (b : Bool) (P : Addr) (ys : List Value) (ps : List Int) (u : Tok) (pl : Int) (h : Heap) (tk : Nat), IntsAre ys ps → ps.length ≤ 3 → 0 ≤ pl → pl ≤ 20 →
      (@Ne Nat P l ∧ @Ne Nat P D ∧ @Ne Nat P c5 ∧ @Ne Nat P c4 ∧ @Ne Nat P c3 ∧ @Ne Nat P c2 ∧ @Ne Nat P c1 ∧ @Ne Nat P 263) →
      Fr h₀ L h (fun y => if y = Str.ofString "is_letter" then some (.bool b) else if y = Str.ofString "path" then some (.ref P) else m y) →
      News h₀ L h [(P, tupObj ys), (l, tapeObj D pl u), (D, PySem.W.listOf wa n), (c5, o5), (c4, o4), (c3, o3), (c2, o2), (c1, o1), (263, tabObj #[])] → wpAny M A (execs rest env) Q E { s with heap := h, toks := tk }) :
    wpAny M A (execs (st :: rest) env) Q E s :=
  cut _ h1 fun _ h => h (fun s' => wpAny M A (execs rest env) Q E s') fun b P ys ps u pl h tk e1 e2 e3 e4 e5 N =>
    h2 b P ys ps u pl h tk e1 e2 e3 e4 ⟨apart_list N (by k_mem) (by k_mem), apart_list N (by k_mem) (by k_mem), apart_cell N (by k_mem) (by k_mem) d5, apart_cell N (by k_mem) (by k_mem) d4,
      apart_cell N (by k_mem) (by k_mem) d3, apart_cell N (by k_mem) (by k_mem) d2, apart_cell N (by k_mem) (by k_mem) d1, apart_tab N (by k_mem) (by k_mem)⟩ e5 N
/-- behind «data = ..» -/
noncomputable def After4 (h₀ : Heap) (L : Addr) (m : Str → Option Value) (P l D : Addr) (op od : Obj) (tail : List (Addr × Obj)) (s s' : Shared) : Prop :=
  ∀ R : Shared → Prop, (∀ (ds : List Int) (t u : Tok) (pl : Int) (h : Heap) (tk : Nat), KBa.In ds → 12 ≤ ds.length → ds.length ≤ 31 → 0 ≤ pl → pl ≤ 60 →
    Fr h₀ L h (fun y => if y = Str.ofString "data" then some (.bytes (byteArr ds) t) else m y) → News h₀ L h ((P, op) :: (l, tapeObj D pl u) :: (D, od) :: tail) → R { s with heap := h, toks := tk }) → R s'
theorem After4.of {P l D : Addr} {op od : Obj} {ds : List Int} {t u : Tok} {pl : Int} {h : Heap} {tk : Nat} (N : News h₀ L h ((P, op) :: (l, tapeObj D pl u) :: (D, od) :: tail))
    (F : Fr h₀ L h (fun y => if y = Str.ofString "data" then some (.bytes (byteArr ds) t) else m y)) (i : KBa.In ds)
    (h0 : 12 ≤ ds.length) (h1 : ds.length ≤ 31) (p0 : 0 ≤ pl) (p1 : pl ≤ 60) : After4 h₀ L m P l D op od tail s { s with heap := h, toks := tk } :=
  fun _ k => k ds t u pl h tk i h0 h1 p0 p1 F N
theorem cut4 {P l D : Addr} {op od ot : Obj} (_ : Fr h₀ L s.heap m) (_ : News h₀ L s.heap ((P, op) :: (l, ot) :: (D, od) :: tail))
    (h1 : wpAny M A (exec st env) (fun f s' => f = .next ∧ After4 h₀ L m P l D op od tail s s') E s)
    (h2 : ∀ (ds : List Int) (t u : Tok) (pl : Int) (h : Heap) (tk : Nat), KBa.In ds → 12 ≤ ds.length → ds.length ≤ 31 → 0 ≤ pl → pl ≤ 60 →
      Fr h₀ L h (fun y => if y = Str.ofString "data" then some (.bytes (byteArr ds) t) else m y) → News h₀ L h ((P, op) :: (l, tapeObj D pl u) :: (D, od) :: tail) → wpAny M A (execs rest env) Q E { s with heap := h, toks := tk }) :
    wpAny M A (execs (st :: rest) env) Q E s :=
  cut _ h1 fun _ h => h (fun s' => wpAny M A (execs rest env) Q E s') h2
theorem news_sub {h : Heap} {big small : List (Addr × Obj)} (N : News h₀ L h big) (k : ∀ p ∈ small, p ∈ big) : News h₀ L h small := fun p hp => N p (k p hp)
theorem sub_nil {big : List (Addr × Obj)} : ∀ p ∈ ([] : List (Addr × Obj)), p ∈ big := fun _ h => nomatch h
theorem sub_cons {x : Addr × Obj} {big small : List (Addr × Obj)} (h : x ∈ big) (k : ∀ p ∈ small, p ∈ big) : ∀ p ∈ x :: small, p ∈ big := fun p hp => by
  rcases List.mem_cons.mp hp with rfl | hp
  · exact h
  · exact k p hp
end
end Mine
namespace Mine
set_option genInjectivity false in
set_option genSizeOfSpec false in
/-- what a Part holds -/
structure PD where
  (x y z : Int) (fv kv ev sv : Value) (k1 k2 k3 k4 k5 k6 k7 k8 tx ty tz : Tok)
noncomputable abbrev PD.obj (P : Params) (p : PD) (v : Value) : Obj :=
  dictOf [ent P "begin" p.k1 (.int p.x p.tx), ent P "body" p.k2 (.int p.y p.ty), ent P "end" p.k3 (.int p.z p.tz), ent P "fields" p.k4 p.fv, ent P "kind" p.k5 p.kv, ent P "encoding" p.k6 p.ev, ent P "kids" p.k7 p.sv, ent P "inner" p.k8 v] 8
noncomputable def PD.Ok (p : PD) : Prop := (0 ≤ p.x ∧ p.x < 256) ∧ (0 ≤ p.y ∧ p.y < 256) ∧ (0 ≤ p.z ∧ p.z < 256)
section
variable {prog : Program} {w : World} {M : Model} {A : Around} {E : Value → Shared → Prop} {s : Shared} {env : Env} {st : Stmt} {rest : List Stmt} {Q : Flow → Shared → Prop} {h₀ : Heap} {L : Addr} {m : Str → Option Value} {C : Addr} {pm : Params}
theorem news_app {h : Heap} {a b : List (Addr × Obj)} (Na : News h₀ L h a) (Nb : News h₀ L h b) : News h₀ L h (a ++ b) := fun p hp => (List.mem_append.mp hp).elim (Na p) (Nb p)
/-- behind «root, here, inner = ..» -/
noncomputable def After5 (C : Addr) (pm : Params) (h₀ : Heap) (L : Addr) (m : Str → Option Value) (P c5 c4 c3 c2 : Addr) (op o5 o2 : Obj) (s s' : Shared) : Prop :=
  ∀ R : Shared → Prop, (∀ (p1 p2 p3 : PD) (r1 d1 r2 d2 r3 d3 : Addr) (o4 o3 : Obj) (h : Heap) (tk : Nat), p1.Ok → p2.Ok → p3.Ok → (@LT.lt Nat _ P d1 ∧ @LT.lt Nat _ c5 d1 ∧ @LT.lt Nat _ c4 d1 ∧ @LT.lt Nat _ c3 d1 ∧ @LT.lt Nat _ c2 d1 ∧ @LT.lt Nat _ 263 d1) → (@LT.lt Nat _ d1 r1 ∧ @LT.lt Nat _ P r1 ∧ @LT.lt Nat _ c5 r1 ∧ @LT.lt Nat _ c4 r1 ∧ @LT.lt Nat _ c3 r1 ∧ @LT.lt Nat _ c2 r1 ∧ @LT.lt Nat _ 263 r1) → (@LT.lt Nat _ r1 d2 ∧ @LT.lt Nat _ d1 d2 ∧ @LT.lt Nat _ P d2 ∧ @LT.lt Nat _ c5 d2 ∧ @LT.lt Nat _ c4 d2 ∧ @LT.lt Nat _ c3 d2 ∧ @LT.lt Nat _ c2 d2 ∧ @LT.lt Nat _ 263 d2) → (@LT.lt Nat _ d2 r2 ∧ @LT.lt Nat _ r1 r2 ∧ @LT.lt Nat _ d1 r2 ∧ @LT.lt Nat _ P r2 ∧ @LT.lt Nat _ c5 r2 ∧ @LT.lt Nat _ c4 r2 ∧ @LT.lt Nat _ c3 r2 ∧ @LT.lt Nat _ c2 r2 ∧ @LT.lt Nat _ 263 r2) → (@LT.lt Nat _ r2 d3 ∧ @LT.lt Nat _ d2 d3 ∧ @LT.lt Nat _ r1 d3 ∧ @LT.lt Nat _ d1 d3 ∧ @LT.lt Nat _ P d3 ∧ @LT.lt Nat _ c5 d3 ∧ @LT.lt Nat _ c4 d3 ∧ @LT.lt Nat _ c3 d3 ∧ @LT.lt Nat _ c2 d3 ∧ @LT.lt Nat _ 263 d3) → (@LT.lt Nat _ d3 r3 ∧ @LT.lt Nat _ r2 r3 ∧ @LT.lt Nat _ d2 r3 ∧ @LT.lt Nat _ r1 r3 ∧ @LT.lt Nat _ d1 r3 ∧ @LT.lt Nat _ P r3 ∧ @LT.lt Nat _ c5 r3 ∧ @LT.lt Nat _ c4 r3 ∧ @LT.lt Nat _ c3 r3 ∧ @LT.lt Nat _ c2 r3 ∧ @LT.lt Nat _ 263 r3) →
    o4.data = .cell (some (.ref r1)) → o3.data = .cell (some (.ref r2)) → Fr h₀ L h (fun y => if y = Str.ofString "inner" then some (.ref r3) else m y) →
    News h₀ L h [(r3, instObj C d3), (d3, p3.obj pm .none), (r2, instObj C d2), (d2, p2.obj pm .none), (r1, instObj C d1), (d1, p1.obj pm .none), (P, op), (c5, o5), (c4, o4), (c3, o3), (c2, o2), (263, tabObj #[])] → R { s with heap := h, toks := tk }) → R s'
theorem After5.of {P c5 c4 c3 c2 : Addr} {op o5 o2 : Obj} {r1 d1 r2 d2 r3 d3 : Addr} {o4 o3 : Obj} {h : Heap} {tk : Nat}
    {x1 y1 z1 x2 y2 z2 x3 y3 z3 : Int} {fv1 kv1 ev1 sv1 fv2 kv2 ev2 sv2 fv3 kv3 ev3 sv3 : Value} {k11 k21 k31 k41 k51 k61 k71 k81 tx1 ty1 tz1 k12 k22 k32 k42 k52 k62 k72 k82 tx2 ty2 tz2 k13 k23 k33 k43 k53 k63 k73 k83 tx3 ty3 tz3 : Tok}
    (Na : News h₀ L h [(P, op), (c5, o5), (c4, o4), (c3, o3), (c2, o2), (263, tabObj #[])]) (e4 : o4.data = .cell (some (.ref r1))) (e3 : o3.data = .cell (some (.ref r2))) (F : Fr h₀ L h (fun y => if y = Str.ofString "inner" then some (.ref r3) else m y))
    (Nb : News h₀ L h [(r3, instObj C d3), (d3, partDict pm x3 y3 z3 fv3 kv3 ev3 sv3 k13 k23 k33 k43 k53 k63 k73 k83 tx3 ty3 tz3), (r2, instObj C d2), (d2, partDict pm x2 y2 z2 fv2 kv2 ev2 sv2 k12 k22 k32 k42 k52 k62 k72 k82 tx2 ty2 tz2),
      (r1, instObj C d1), (d1, partDict pm x1 y1 z1 fv1 kv1 ev1 sv1 k11 k21 k31 k41 k51 k61 k71 k81 tx1 ty1 tz1)])
    (b1 : (0 ≤ x1 ∧ x1 < 256) ∧ (0 ≤ y1 ∧ y1 < 256) ∧ (0 ≤ z1 ∧ z1 < 256)) (b2 : (0 ≤ x2 ∧ x2 < 256) ∧ (0 ≤ y2 ∧ y2 < 256) ∧ (0 ≤ z2 ∧ z2 < 256)) (b3 : (0 ≤ x3 ∧ x3 < 256) ∧ (0 ≤ y3 ∧ y3 < 256) ∧ (0 ≤ z3 ∧ z3 < 256))
    (l1 : @LT.lt Nat _ P d1 ∧ @LT.lt Nat _ c5 d1 ∧ @LT.lt Nat _ c4 d1 ∧ @LT.lt Nat _ c3 d1 ∧ @LT.lt Nat _ c2 d1 ∧ @LT.lt Nat _ 263 d1) (l2 : @LT.lt Nat _ d1 r1 ∧ @LT.lt Nat _ P r1 ∧ @LT.lt Nat _ c5 r1 ∧ @LT.lt Nat _ c4 r1 ∧ @LT.lt Nat _ c3 r1 ∧ @LT.lt Nat _ c2 r1 ∧ @LT.lt Nat _ 263 r1) (l3 : @LT.lt Nat _ r1 d2 ∧ @LT.lt Nat _ d1 d2 ∧ @LT.lt Nat _ P d2 ∧ @LT.lt Nat _ c5 d2 ∧ @LT.lt Nat _ c4 d2 ∧ @LT.lt Nat _ c3 d2 ∧ @LT.lt Nat _ c2 d2 ∧ @LT.lt Nat _ 263 d2) (l4 : @LT.lt Nat _ d2 r2 ∧ @LT.lt Nat _ r1 r2 ∧ @LT.lt Nat _ d1 r2 ∧ @LT.lt Nat _ P r2 ∧ @LT.lt Nat _ c5 r2 ∧ @LT.lt Nat _ c4 r2 ∧ @LT.lt Nat _ c3 r2 ∧ @LT.lt Nat _ c2 r2 ∧ @LT.lt Nat _ 263 r2) (l5 : @LT.lt Nat _ r2 d3 ∧ @LT.lt Nat _ d2 d3 ∧ @LT.lt Nat _ r1 d3 ∧ @LT.lt Nat _ d1 d3 ∧ @LT.lt Nat _ P d3 ∧ @LT.lt Nat _ c5 d3 ∧ @LT.lt Nat _ c4 d3 ∧ @LT.lt Nat _ c3 d3 ∧ @LT.lt Nat _ c2 d3 ∧ @LT.lt Nat _ 263 d3) (l6 : @LT.lt Nat _ d3 r3 ∧ @LT.lt Nat _ r2 r3 ∧ @LT.lt Nat _ d2 r3 ∧ @LT.lt Nat _ r1 r3 ∧ @LT.lt Nat _ d1 r3 ∧ @LT.lt Nat _ P r3 ∧ @LT.lt Nat _ c5 r3 ∧ @LT.lt Nat _ c4 r3 ∧ @LT.lt Nat _ c3 r3 ∧ @LT.lt Nat _ c2 r3 ∧ @LT.lt Nat _ 263 r3) :
    After5 C pm h₀ L m P c5 c4 c3 c2 op o5 o2 s { s with heap := h, toks := tk } :=
  fun _ k => k ⟨x1, y1, z1, fv1, kv1, ev1, sv1, k11, k21, k31, k41, k51, k61, k71, k81, tx1, ty1, tz1⟩ ⟨x2, y2, z2, fv2, kv2, ev2, sv2, k12, k22, k32, k42, k52, k62, k72, k82, tx2, ty2, tz2⟩
    ⟨x3, y3, z3, fv3, kv3, ev3, sv3, k13, k23, k33, k43, k53, k63, k73, k83, tx3, ty3, tz3⟩ r1 d1 r2 d2 r3 d3 o4 o3 h tk b1 b2 b3 l1 l2 l3 l4 l5 l6 e4 e3 F (news_app Nb Na)
theorem cut5 {P l D c5 c4 c3 c2 c1 : Addr} {op ol od o5 o4 o3 o2 o1 : Obj} (C : Addr) (_ : Fr h₀ L s.heap m) (_ : News h₀ L s.heap [(P, op), (l, ol), (D, od), (c5, o5), (c4, o4), (c3, o3), (c2, o2), (c1, o1), (263, tabObj #[])])
    (h1 : wpAny (model prog w) A (exec st env) (fun f s' => f = .next ∧ After5 C w.params h₀ L m P c5 c4 c3 c2 op o5 o2 s s') E s)
    (h2 : ∀ (p1 p2 p3 : PD) (r1 d1 r2 d2 r3 d3 : Addr) (o4 o3 : Obj) (h : Heap) (tk : Nat), p1.Ok → p2.Ok → p3.Ok → (@LT.lt Nat _ P d1 ∧ @LT.lt Nat _ c5 d1 ∧ @LT.lt Nat _ c4 d1 ∧ @LT.lt Nat _ c3 d1 ∧ @LT.lt Nat _ c2 d1 ∧ @LT.lt Nat _ 263 d1) → (@LT.lt Nat _ d1 r1 ∧ @LT.lt Nat _ P r1 ∧ @LT.lt Nat _ c5 r1 ∧ @LT.lt Nat _ c4 r1 ∧ @LT.lt Nat _ c3 r1 ∧ @LT.lt Nat _ c2 r1 ∧ @LT.lt Nat _ 263 r1) → (@LT.lt Nat _ r1 d2 ∧ @LT.lt Nat _ d1 d2 ∧ @LT.lt Nat _ P d2 ∧ @LT.lt Nat _ c5 d2 ∧ @LT.lt Nat _ c4 d2 ∧ @LT.lt Nat _ c3 d2 ∧ @LT.lt Nat _ c2 d2 ∧ @LT.lt Nat _ 263 d2) → (@LT.lt Nat _ d2 r2 ∧ @LT.lt Nat _ r1 r2 ∧ @LT.lt Nat _ d1 r2 ∧ @LT.lt Nat _ P r2 ∧ @LT.lt Nat _ c5 r2 ∧ @LT.lt Nat _ c4 r2 ∧ @LT.lt Nat _ c3 r2 ∧ @LT.lt Nat _ c2 r2 ∧ @LT.lt Nat _ 263 r2) → (@LT.lt Nat _ r2 d3 ∧ @LT.lt Nat _ d2 d3 ∧ @LT.lt Nat _ r1 d3 ∧ @LT.lt Nat _ d1 d3 ∧ @LT.lt Nat _ P d3 ∧ @LT.lt Nat _ c5 d3 ∧ @LT.lt Nat _ c4 d3 ∧ @LT.lt Nat _ c3 d3 ∧ @LT.lt Nat _ c2 d3 ∧ @LT.lt Nat _ 263 d3) → (@LT.lt Nat _ d3 r3 ∧ @LT.lt Nat _ r2 r3 ∧ @LT.lt Nat _ d2 r3 ∧ @LT.lt Nat _ r1 r3 ∧ @LT.lt Nat _ d1 r3 ∧ @LT.lt Nat _ P r3 ∧ @LT.lt Nat _ c5 r3 ∧ @LT.lt Nat _ c4 r3 ∧ @LT.lt Nat _ c3 r3 ∧ @LT.lt Nat _ c2 r3 ∧ @LT.lt Nat _ 263 r3) →
      o4.data = .cell (some (.ref r1)) → o3.data = .cell (some (.ref r2)) → Fr h₀ L h (fun y => if y = Str.ofString "inner" then some (.ref r3) else m y) →
      News h₀ L h [(r3, instObj C d3), (d3, p3.obj w.params .none), (r2, instObj C d2), (d2, p2.obj w.params .none), (r1, instObj C d1), (d1, p1.obj w.params .none), (P, op), (c5, o5), (c4, o4), (c3, o3), (c2, o2), (263, tabObj #[])] →
      wpAny (model prog w) A (execs rest env) Q E { s with heap := h, toks := tk }) :
    wpAny (model prog w) A (execs (st :: rest) env) Q E s :=
  cut _ h1 fun _ h => h (fun s' => wpAny (model prog w) A (execs rest env) Q E s') h2
/-- behind «if is_letter: ..» -/
noncomputable def InnerIs (b : Bool) (r : Addr) (v : Value) : Prop := (b = true ∧ v = .ref r) ∨ (b = false ∧ v = .none)
noncomputable def After6 (pm : Params) (b : Bool) (h₀ : Heap) (L : Addr) (m : Str → Option Value) (r3 : Addr) (a1 a2 a3 : Addr × Obj) (d2 : Addr) (p2 : PD) (tail : List (Addr × Obj)) (s s' : Shared) : Prop :=
  ∀ R : Shared → Prop, (∀ (v : Value) (h : Heap) (tk : Nat), InnerIs b r3 v → Fr h₀ L h m → News h₀ L h (a1 :: a2 :: a3 :: (d2, p2.obj pm v) :: tail) → R { s with heap := h, toks := tk }) → R s'
theorem After6.yes {b : Bool} {r3 : Addr} {a1 a2 a3 : Addr × Obj} {d2 : Addr} {p2 : PD} {tail : List (Addr × Obj)} {h : Heap} {tk : Nat} (e : b = true) (F : Fr h₀ L h m) (N : News h₀ L h (a1 :: a2 :: a3 :: (d2, p2.obj pm (.ref r3)) :: tail)) :
    After6 pm b h₀ L m r3 a1 a2 a3 d2 p2 tail s { s with heap := h, toks := tk } := fun _ k => k _ h tk (.inl ⟨e, rfl⟩) F N
theorem After6.no {b : Bool} {r3 : Addr} {a1 a2 a3 : Addr × Obj} {d2 : Addr} {p2 : PD} {tail : List (Addr × Obj)} {h : Heap} {tk : Nat} (e : b = false) (F : Fr h₀ L h m) (N : News h₀ L h (a1 :: a2 :: a3 :: (d2, p2.obj pm .none) :: tail)) :
    After6 pm b h₀ L m r3 a1 a2 a3 d2 p2 tail s { s with heap := h, toks := tk } := fun _ k => k _ h tk (.inr ⟨e, rfl⟩) F N
theorem cut6 {r3 : Addr} {o3 : Obj} {a2 a3 : Addr × Obj} {d2 : Addr} {p2 : PD} {tail : List (Addr × Obj)} (b : Bool) (_ : Fr h₀ L s.heap m) (_ : News h₀ L s.heap ((r3, o3) :: a2 :: a3 :: (d2, p2.obj w.params .none) :: tail))
    (h1 : wpAny (model prog w) A (exec st env) (fun f s' => f = .next ∧ After6 w.params b h₀ L m r3 (r3, o3) a2 a3 d2 p2 tail s s') E s)
    (h2 : ∀ (v : Value) (h : Heap) (tk : Nat), InnerIs b r3 v → Fr h₀ L h m → News h₀ L h ((r3, o3) :: a2 :: a3 :: (d2, p2.obj w.params v) :: tail) → wpAny (model prog w) A (execs rest env) Q E { s with heap := h, toks := tk }) :
    wpAny (model prog w) A (execs (st :: rest) env) Q E s :=
  cut _ h1 fun _ h => h (fun s' => wpAny (model prog w) A (execs rest env) Q E s') h2
noncomputable def SomeVal (h₀ : Heap) (L : Addr) (m : Str → Option Value) (news : List (Addr × Obj)) (s s' : Shared) : Prop := ∀ R : Shared → Prop, (∀ (h : Heap) (tk : Nat), Fr h₀ L h m → News h₀ L h news → R { s with heap := h, toks := tk }) → R s'
theorem SomeVal.of {news : List (Addr × Obj)} {h : Heap} {tk : Nat} (F : Fr h₀ L h m) (N : News h₀ L h news) : SomeVal h₀ L m news s { s with heap := h, toks := tk } := fun _ k => k h tk F N
theorem ifexp_any {test a b : Expr} {pos : Pos} {Q : Value → Shared → Prop} {news : List (Addr × Obj)} (_ : Fr h₀ L s.heap m) (_ : News h₀ L s.heap news)
    (h1 : wpAny M A (isTrue test env (eval test env)) (fun k s₁ => if k then wpAny M A (eval a env) (fun _ s' => SomeVal h₀ L m news s s') E s₁ else wpAny M A (eval b env) (fun _ s' => SomeVal h₀ L m news s s') E s₁) E s)
    (h2 : ∀ v h tk, Fr h₀ L h m → News h₀ L h news → Q v { s with heap := h, toks := tk }) : wpAny M A (eval (.IfExp test a b pos) env) Q E s :=
  wpAny_mono (wpAny_IfExp h1) (fun v _ h => h (Q v) (h2 v)) fun _ _ e => e
end
end Mine
namespace Mine
section
variable {prog : Program} {w : World} {A : Around} {E : Value → Shared → Prop} {s : Shared} {Q : Value → Shared → Prop} {h₀ : Heap} {L : Addr} {news : List (Addr × Obj)} {P D : Addr} {ys : List Value} {ps : List Int}
theorem path_reads {h : Heap} (N : News h₀ L h news) (m1 : (P, tupObj ys) ∈ news) (hI : IntsAre ys ps) : Reads h (.ref P) (.tuple (ps.map PyData.int)) [] :=
  reads_tuple_at (N _ m1).1 rfl rfl (by simpa using readsAll_of_ints hI)
theorem nil_reads {h : Heap} (N : News h₀ L h news) (m1 : (D, tupObj []) ∈ news) : Reads h (.ref D) (.tuple []) [] := reads_tuple_at (N _ m1).1 rfl rfl .nil
theorem path_shaped (ps : List Int) : SeqAt.shaped (.tuple (ps.map PyData.int)) = true := by
  simp [SeqAt.shaped, PyData.canLay0, PyData.depth, ke_canLayAll0, ke_depthAll]
theorem path_eqv (ps : List Int) : PyData.eqv (.tuple (ps.map PyData.int)) (.tuple []) = decide (ps = []) := by
  cases ps <;> simp [PyData.eqv, PyData.eqvAll]
theorem path_Eq (N : News h₀ L s.heap news) (m1 : (P, tupObj ys) ∈ news) (m2 : (D, tupObj []) ∈ news) (hI : IntsAre ys ps) (hu : A.units + 64 < cLine) (h : Q (.bool (decide (ps = []))) s) :
    wpAny (model prog w) A (compareOp .Eq (.ref P) (.ref D)) Q E s :=
  eq_dataH (path_reads N m1 hI) (nil_reads N m2) (path_shaped _) (path_shaped []) hu (by rw [path_eqv]; exact h)
theorem path_Ne (N : News h₀ L s.heap news) (m1 : (P, tupObj ys) ∈ news) (m2 : (D, tupObj []) ∈ news) (hI : IntsAre ys ps) (hu : A.units + 64 < cLine) (h : Q (.bool (!decide (ps = []))) s) :
    wpAny (model prog w) A (compareOp .NotEq (.ref P) (.ref D)) Q E s :=
  ne_dataH (path_reads N m1 hI) (nil_reads N m2) (path_shaped _) (path_shaped []) hu (by rw [path_eqv]; exact h)
theorem path_Eq1 (N : News h₀ L s.heap news) (m1 : (P, tupObj ys) ∈ news) (m2 : (D, tupObj []) ∈ news) (hI : IntsAre ys ps) (hE : ps ≠ []) (hu : A.units + 64 < cLine) (h : Q (.bool false) s) :
    wpAny (model prog w) A (compareOp .Eq (.ref P) (.ref D)) Q E s := path_Eq N m1 m2 hI hu (by simpa [hE] using h)
theorem path_Eq0 (N : News h₀ L s.heap news) (m1 : (P, tupObj ys) ∈ news) (m2 : (D, tupObj []) ∈ news) (hI : IntsAre ys ps) (hE : ps = []) (hu : A.units + 64 < cLine) (h : Q (.bool true) s) :
    wpAny (model prog w) A (compareOp .Eq (.ref P) (.ref D)) Q E s := path_Eq N m1 m2 hI hu (by simpa [hE] using h)
theorem path_Ne1 (N : News h₀ L s.heap news) (m1 : (P, tupObj ys) ∈ news) (m2 : (D, tupObj []) ∈ news) (hI : IntsAre ys ps) (hE : ps ≠ []) (hu : A.units + 64 < cLine) (h : Q (.bool true) s) :
    wpAny (model prog w) A (compareOp .NotEq (.ref P) (.ref D)) Q E s := path_Ne N m1 m2 hI hu (by simpa [hE] using h)
theorem path_Ne0 (N : News h₀ L s.heap news) (m1 : (P, tupObj ys) ∈ news) (m2 : (D, tupObj []) ∈ news) (hI : IntsAre ys ps) (hE : ps = []) (hu : A.units + 64 < cLine) (h : Q (.bool false) s) :
    wpAny (model prog w) A (compareOp .NotEq (.ref P) (.ref D)) Q E s := path_Ne N m1 m2 hI hu (by simpa [hE] using h)
/-- «asked != [(True, path)]» -/
theorem asked_eqv (ps : List Int) : PyData.eqv (.list [.tuple [.bool true, .tuple (ps.map PyData.int)]]) (.list [.tuple [.bool true, .tuple (ps.map PyData.int)]]) = true := by
  simp [PyData.eqv, PyData.eqvAll, ked_eqvAll]
theorem asked_shaped (ps : List Int) : SeqAt.shaped (.list [.tuple [.bool true, .tuple (ps.map PyData.int)]]) = true := by
  simp [SeqAt.shaped, PyData.canLay0, PyData.canLayAll0, PyData.depth, PyData.depthAll, ke_canLayAll0, ke_depthAll]
theorem asked_reads {h : Heap} {a t : Addr} {n : Nat} (N : News h₀ L h news) (m1 : (P, tupObj ys) ∈ news) (ma : (a, PySem.W.listOf #[.ref t] n) ∈ news) (mt : (t, tupObj [.bool true, .ref P]) ∈ news) (hI : IntsAre ys ps) :
    Reads h (.ref a) (.list [.tuple [.bool true, .tuple (ps.map PyData.int)]]) [a] :=
  reads_list_at (N _ ma).1 rfl rfl (.cons (reads_tuple_at (N _ mt).1 rfl rfl (.cons (.bool true) (.cons (path_reads N m1 hI) .nil))) .nil)
theorem asked_Ne {a b t u : Addr} {n k : Nat} (N : News h₀ L s.heap news) (m1 : (P, tupObj ys) ∈ news) (ma : (a, PySem.W.listOf #[.ref t] n) ∈ news) (mt : (t, tupObj [.bool true, .ref P]) ∈ news)
    (mb : (b, PySem.W.listOf #[.ref u] k) ∈ news) (mu : (u, tupObj [.bool true, .ref P]) ∈ news) (hI : IntsAre ys ps) (hu : A.units + 64 < cLine) (h : Q (.bool false) s) :
    wpAny (model prog w) A (compareOp .NotEq (.ref a) (.ref b)) Q E s :=
  ne_dataH (asked_reads N m1 ma mt hI) (asked_reads N m1 mb mu hI) (asked_shaped _) (asked_shaped _) hu (by rw [asked_eqv]; exact h)
/-- «asked != []» -/
theorem asked_Ne0 {a b : Addr} {n k : Nat} (N : News h₀ L s.heap news) (ma : (a, PySem.W.listOf #[] n) ∈ news) (mb : (b, PySem.W.listOf #[] k) ∈ news) (hu : A.units + 64 < cLine) (h : Q (.bool false) s) :
    wpAny (model prog w) A (compareOp .NotEq (.ref a) (.ref b)) Q E s :=
  ne_dataH (reads_list_at (N _ ma).1 rfl rfl .nil) (reads_list_at (N _ mb).1 rfl rfl .nil) rfl rfl hu h
theorem in_yes {t : Addr} {items : Array Value} {zs : List Str} {x X : Str} {u : Tok} (e : x = X) (ht : IsTup s.heap t items) (hi : StrsAre items.toList zs) (d : zs.any (· == X) = true) (h : Q (.bool true) s) :
    wpAny (model prog w) A (compareOp .In (.str x u) (.ref t)) Q E s := in_tuple_strs ht hi (by subst e; rw [d]; exact h)
theorem in_no {t : Addr} {items : Array Value} {zs : List Str} {x X : Str} {u : Tok} (e : x = X) (ht : IsTup s.heap t items) (hi : StrsAre items.toList zs) (d : zs.any (· == X) = false) (h : Q (.bool false) s) :
    wpAny (model prog w) A (compareOp .In (.str x u) (.ref t)) Q E s := in_tuple_strs ht hi (by subst e; rw [d]; exact h)
theorem gt_way {x : Int} {t u : Tok} {b : Bool} (e : decide (0 < x) = b) (h : Q (.bool b) s) : wpAny (model prog w) A (compareOp .Gt (.int x t) (.int 0 u)) Q E s := gt_int (by rw [e]; exact h)
theorem eq_way {x : Int} {t u : Tok} {b : Bool} (e : (x == 0) = b) (h : Q (.bool b) s) : wpAny (model prog w) A (compareOp .Eq (.int x t) (.int 0 u)) Q E s := eq_int (by rw [e]; exact h)
theorem toks_any {M : Model} {α : Type} {t : Sem α} {Q : α → Shared → Prop} (a : Heap) (b c) (k : Nat) (d) (h : ∀ j, wpAny M A t Q E (Shared.mk a b c j d)) : wpAny M A t Q E (Shared.mk a b c k d) := h k
theorem news_tl {h : Heap} {a : Addr × Obj} {t : List (Addr × Obj)} (N : News h₀ L h (a :: t)) : News h₀ L h t := fun p hp => N p (.tail _ hp)
theorem nk {h : Heap} {a : Addr × Obj} {t u : List (Addr × Obj)} (N : News h₀ L h (a :: t)) (f : News h₀ L h t → News h₀ L h u) : News h₀ L h (a :: u) := fun p hp => by
  rcases List.mem_cons.mp hp with rfl | hp
  · exact N _ (.head _)
  · exact f (fun q hq => N q (.tail _ hq)) _ hp
theorem nn {h : Heap} : News h₀ L h [] := fun _ hp => nomatch hp
theorem dropP {h : Heap} {a b k1 k2 k3 l s1 s2 c1 c2 : Addr × Obj} {t : List (Addr × Obj)} (N : News h₀ L h (a :: b :: k1 :: k2 :: k3 :: l :: s1 :: s2 :: c1 :: c2 :: t)) : News h₀ L h (a :: b :: l :: t) :=
  nk N fun N => nk N fun N => nk (news_tl (news_tl (news_tl N))) fun N => news_tl (news_tl (news_tl (news_tl N)))
theorem drop56 {h : Heap} {a b c d e f : Addr × Obj} {t : List (Addr × Obj)} (N : News h₀ L h (a :: b :: c :: d :: e :: f :: t)) : News h₀ L h (a :: b :: c :: d :: t) :=
  nk N fun N => nk N fun N => nk N fun N => nk N fun N => news_tl (news_tl N)
theorem news_add {h : Heap} {p : Addr × Obj} {t l : List (Addr × Obj)} (N : News h₀ L h t) (m : p ∈ t) (S : News h₀ L h l) : News h₀ L h (p :: l) := fun q hq => by
  rcases List.mem_cons.mp hq with rfl | hq
  · exact N _ m
  · exact S _ hq
end
end Mine
namespace Mine
/-- what «found» is, the path empty -/
noncomputable def OkA (W : Str) (ds : List Int) (p1 : PD) (v : Value) : Prop :=
  (W = Str.ofString "" ∧ ∃ t, v = .bytes (KBy.picked (byteArr ds) (some p1.x) (some p1.z)) t) ∨ (W = Str.ofString "HEADER" ∧ ∃ t, v = .bytes (KBy.picked (byteArr ds) (some p1.x) (some p1.y)) t) ∨
  (W = Str.ofString "TEXT" ∧ ∃ t, v = .bytes (KBy.picked (byteArr ds) (some p1.y) (some p1.z)) t) ∨ W = Str.ofString "MIME"
/-- what it is, the path not empty -/
noncomputable def OkB (W : Str) (ds : List Int) (p2 p3 : PD) (way : Int) (b : Bool) (v : Value) : Prop :=
  (way = 0 ∧ v = .none) ∨ (0 < way ∧ ((W = Str.ofString "" ∧ ∃ t, v = .bytes (KBy.picked (byteArr ds) (some p2.y) (some p2.z)) t) ∨ (W = Str.ofString "MIME" ∧ ∃ t, v = .bytes (KBy.picked (byteArr ds) (some p2.x) (some p2.y)) t) ∨
    (W = Str.ofString "HEADER" ∧ b = true ∧ ∃ t, v = .bytes (KBy.picked (byteArr ds) (some p3.x) (some p3.y)) t) ∨ (W = Str.ofString "TEXT" ∧ b = true ∧ ∃ t, v = .bytes (KBy.picked (byteArr ds) (some p3.y) (some p3.z)) t) ∨
    (W = Str.ofString "HEADER" ∧ b = false ∧ v = .none) ∨ (W = Str.ofString "TEXT" ∧ b = false ∧ v = .none)))
section
variable {prog : Program} {w : World} {M : Model} {A : Around} {E : Value → Shared → Prop} {s : Shared} {env : Env} {st : Stmt} {rest : List Stmt} {Q : Flow → Shared → Prop} {h₀ : Heap} {L : Addr} {m : Str → Option Value}
/-- behind «found = ..» -/
noncomputable def After7 (h₀ : Heap) (L : Addr) (m : Str → Option Value) (P l : Addr) (k0 : Nat) (ps : List Int) (tail : List (Addr × Obj)) (okA okB : Value → Prop) (s s' : Shared) : Prop :=
  ∀ R : Shared → Prop, (∀ (v : Value) (h : Heap) (tk : Nat), ps = [] → okA v → Fr h₀ L h (fun y => if y = Str.ofString "found" then some v else m y) → News h₀ L h ((l, PySem.W.listOf #[] k0) :: tail) → R { s with heap := h, toks := tk }) →
    (∀ (v : Value) (h : Heap) (tk : Nat) (t : Addr) (n : Nat), ps ≠ [] → okB v → Fr h₀ L h (fun y => if y = Str.ofString "found" then some v else m y) → News h₀ L h ((t, tupObj [.bool true, .ref P]) :: (l, PySem.W.listOf #[.ref t] n) :: tail) → R { s with heap := h, toks := tk }) → R s'
theorem After7.a {P l : Addr} {k0 : Nat} {ps : List Int} {tail : List (Addr × Obj)} {okA okB : Value → Prop} {v : Value} {h : Heap} {tk : Nat} (F : Fr h₀ L h (fun y => if y = Str.ofString "found" then some v else m y))
    (e : ps = []) (o : okA v) (N : News h₀ L h ((l, PySem.W.listOf #[] k0) :: tail)) : After7 h₀ L m P l k0 ps tail okA okB s { s with heap := h, toks := tk } := fun _ k _ => k v h tk e o F N
theorem After7.b {P l : Addr} {k0 : Nat} {ps : List Int} {tail : List (Addr × Obj)} {okA okB : Value → Prop} {v : Value} {h : Heap} {tk : Nat} {t : Addr} {n : Nat} (F : Fr h₀ L h (fun y => if y = Str.ofString "found" then some v else m y))
    (e : ps ≠ []) (o : okB v) (N : News h₀ L h ((t, tupObj [.bool true, .ref P]) :: (l, PySem.W.listOf #[.ref t] n) :: tail)) : After7 h₀ L m P l k0 ps tail okA okB s { s with heap := h, toks := tk } :=
  fun _ _ k => k v h tk t n e o F N
theorem cut7 {a b : Addr × Obj} {l : Addr} {k0 : Nat} {tail : List (Addr × Obj)} (P : Addr) (ps : List Int) (okA okB : Value → Prop) (_ : Fr h₀ L s.heap m) (_ : News h₀ L s.heap (a :: b :: (l, PySem.W.listOf #[] k0) :: tail))
    (h1 : wpAny M A (exec st env) (fun f s' => f = .next ∧ After7 h₀ L m P l k0 ps tail okA okB s s') E s)
    (h2 : ps = [] → ∀ (v : Value) (h : Heap) (tk : Nat), okA v → Fr h₀ L h (fun y => if y = Str.ofString "found" then some v else m y) → News h₀ L h ((l, PySem.W.listOf #[] k0) :: tail) → wpAny M A (execs rest env) Q E { s with heap := h, toks := tk })
    (h3 : ps ≠ [] → ∀ (v : Value) (h : Heap) (tk : Nat) (t : Addr) (n : Nat), okB v → Fr h₀ L h (fun y => if y = Str.ofString "found" then some v else m y) →
      News h₀ L h ((t, tupObj [.bool true, .ref P]) :: (l, PySem.W.listOf #[.ref t] n) :: tail) → wpAny M A (execs rest env) Q E { s with heap := h, toks := tk }) : wpAny M A (execs (st :: rest) env) Q E s :=
  cut _ h1 fun _ h => h (fun s' => wpAny M A (execs rest env) Q E s') (fun v h tk e => h2 e v h tk) (fun v h tk t n e => h3 e v h tk t n)
end
end Mine
local macro_rules | `(tactic| walk_at $s:str) => `(tactic| k_extra $s)
local macro_rules | `(tactic| k_updF) => `(tactic| first | (refine' UpdF.head ?a; (case a => k_all)) | (refine' UpdF.tail ?a ?b; (case b => k_updF); (case a => k_ne)))
local macro_rules | `(tactic| k_room) => `(tactic| ktr_room)
local macro_rules | `(tactic| k_units) => `(tactic| ktr_units)
local macro_rules | `(tactic| ktr_units) => `(tactic| k_extra "ktr_units")
local macro_rules | `(tactic| ktr_room) => `(tactic| k_extra "ktr_room")
local macro_rules | `(tactic| k_ne) => `(tactic| k_extra "k_ne")
local macro_rules | `(tactic| k_lt $h) => `(tactic| (replace $h := allLt_of $h; dsimp only [AllLt] at $h:ident))
namespace Mine
open_top hd for PySem.Challenge.rw_nz0292_01
end Mine
theorem PySem.Challenge.cw_nz0292_01_holds : PySem.Challenge.rw_nz0292_01.Holds := by
  refine Mine.hd ?_
  k_with_none
  k_with "lt" => (first | with_reducible assumption | exact And.left (by with_reducible assumption) | exact And.left (And.right (by with_reducible assumption)) | exact And.left (And.right (And.right (by with_reducible assumption))) | exact And.left (And.right (And.right (And.right (by with_reducible assumption)))) | exact And.left (And.right (And.right (And.right (And.right (by with_reducible assumption))))) | exact And.left (And.right (And.right (And.right (And.right (And.right (by with_reducible assumption)))))) | exact And.left (And.right (And.right (And.right (And.right (And.right (And.right (by with_reducible assumption))))))) | exact And.left (And.right (And.right (And.right (And.right (And.right (And.right (And.right (by with_reducible assumption)))))))) | exact And.left (And.right (And.right (And.right (And.right (And.right (And.right (And.right (And.right (by with_reducible assumption))))))))) | exact And.left (And.right (And.right (And.right (And.right (And.right (And.right (And.right (And.right (And.right (by with_reducible assumption)))))))))) | exact And.left (And.right (And.right (And.right (And.right (And.right (And.right (And.right (And.right (And.right (And.right (by with_reducible assumption))))))))))) | exact And.left (And.right (And.right (And.right (And.right (And.right (And.right (And.right (And.right (And.right (And.right (And.right (by with_reducible assumption)))))))))))) | exact And.left (And.right (And.right (And.right (And.right (And.right (And.right (And.right (And.right (And.right (And.right (And.right (And.right (by with_reducible assumption))))))))))))) | exact And.left (And.right (And.right (And.right (And.right (And.right (And.right (And.right (And.right (And.right (And.right (And.right (And.right (And.right (by with_reducible assumption)))))))))))))) | exact And.left (And.right (And.right (And.right (And.right (And.right (And.right (And.right (And.right (And.right (And.right (And.right (And.right (And.right (And.right (by with_reducible assumption))))))))))))))) | exact And.left (And.right (And.right (And.right (And.right (And.right (And.right (And.right (And.right (And.right (And.right (And.right (And.right (And.right (And.right (And.right (by with_reducible assumption)))))))))))))))) | exact And.left (And.right (And.right (And.right (And.right (And.right (And.right (And.right (And.right (And.right (And.right (And.right (And.right (And.right (And.right (And.right (And.right (by with_reducible assumption))))))))))))))))) | exact And.left (And.right (And.right (And.right (And.right (And.right (And.right (And.right (And.right (And.right (And.right (And.right (And.right (And.right (And.right (And.right (And.right (And.right (by with_reducible assumption)))))))))))))))))) | exact And.left (And.right (And.right (And.right (And.right (And.right (And.right (And.right (And.right (And.right (And.right (And.right (And.right (And.right (And.right (And.right (And.right (And.right (And.right (by with_reducible assumption))))))))))))))))))) | exact And.left (And.right (And.right (And.right (And.right (And.right (And.right (And.right (And.right (And.right (And.right (And.right (And.right (And.right (And.right (And.right (And.right (And.right (And.right (And.right (by with_reducible assumption)))))))))))))))))))) | exact And.left (And.right (And.right (And.right (And.right (And.right (And.right (And.right (And.right (And.right (And.right (And.right (And.right (And.right (And.right (And.right (And.right (And.right (And.right (And.right (And.right (by with_reducible assumption))))))))))))))))))))) | exact And.left (And.right (And.right (And.right (And.right (And.right (And.right (And.right (And.right (And.right (And.right (And.right (And.right (And.right (And.right (And.right (And.right (And.right (And.right (And.right (And.right (And.right (by with_reducible assumption)))))))))))))))))))))) | exact And.left (And.right (And.right (And.right (And.right (And.right (And.right (And.right (And.right (And.right (And.right (And.right (And.right (And.right (And.right (And.right (And.right (And.right (And.right (And.right (And.right (And.right (And.right (by with_reducible assumption))))))))))))))))))))))) | exact And.left (And.right (And.right (And.right (And.right (And.right (And.right (And.right (And.right (And.right (And.right (And.right (And.right (And.right (And.right (And.right (And.right (And.right (And.right (And.right (And.right (And.right (And.right (And.right (by with_reducible assumption)))))))))))))))))))))))) | exact And.right (by with_reducible assumption) | exact And.right (And.right (by with_reducible assumption)) | exact And.right (And.right (And.right (by with_reducible assumption))) | exact And.right (And.right (And.right (And.right (by with_reducible assumption)))) | exact And.right (And.right (And.right (And.right (And.right (by with_reducible assumption))))) | exact And.right (And.right (And.right (And.right (And.right (And.right (by with_reducible assumption)))))) | exact And.right (And.right (And.right (And.right (And.right (And.right (And.right (by with_reducible assumption))))))))
  k_with "ne1" => (first | exact And.left (by with_reducible assumption) | exact And.left (And.right (by with_reducible assumption)) | exact And.left (And.right (And.right (by with_reducible assumption))) | exact And.left (And.right (And.right (And.right (by with_reducible assumption)))) | exact And.left (And.right (And.right (And.right (And.right (by with_reducible assumption))))) | exact And.left (And.right (And.right (And.right (And.right (And.right (by with_reducible assumption)))))) | exact And.left (And.right (And.right (And.right (And.right (And.right (And.right (by with_reducible assumption))))))) | exact And.left (And.right (And.right (And.right (And.right (And.right (And.right (And.right (by with_reducible assumption)))))))) | exact And.left (And.right (And.right (And.right (And.right (And.right (And.right (And.right (And.right (by with_reducible assumption))))))))) | exact And.right (by with_reducible assumption) | exact And.right (And.right (by with_reducible assumption)) | exact And.right (And.right (And.right (by with_reducible assumption))) | exact And.right (And.right (And.right (And.right (by with_reducible assumption)))) | exact And.right (And.right (And.right (And.right (And.right (by with_reducible assumption))))) | exact And.right (And.right (And.right (And.right (And.right (And.right (by with_reducible assumption)))))) | exact And.right (And.right (And.right (And.right (And.right (And.right (And.right (by with_reducible assumption))))))) | exact And.right (And.right (And.right (And.right (And.right (And.right (And.right (And.right (by with_reducible assumption)))))))))
  k_with "ne3" => ((with_reducible rename (_ ≠ _ ∧ _) ∧ _ => hz); first | with_reducible exact hz.1.1 | with_reducible exact hz.1.2.1 | with_reducible exact hz.1.2.2 | with_reducible exact hz.2.1.1 | with_reducible exact hz.2.1.2.1 | with_reducible exact hz.2.1.2.2 | with_reducible exact hz.2.1 | with_reducible exact hz.2.2.1 | with_reducible exact hz.2.2.2 | with_reducible exact hz.2.2.1.1 | with_reducible exact hz.2.2.1.2.1 | with_reducible exact hz.2.2.1.2.2 | with_reducible exact hz.2.2.1 | with_reducible exact hz.2.2.2.1 | with_reducible exact hz.2.2.2.2 | with_reducible exact hz.2.2.2.1.1 | with_reducible exact hz.2.2.2.1.2.1 | with_reducible exact hz.2.2.2.1.2.2 | with_reducible exact hz.2.2.2.1 | with_reducible exact hz.2.2.2.2.1 | with_reducible exact hz.2.2.2.2.2 | with_reducible exact hz.2.2.2.2.1.1 | with_reducible exact hz.2.2.2.2.1.2.1 | with_reducible exact hz.2.2.2.2.1.2.2 | with_reducible exact hz.2.2.2.2.1 | with_reducible exact hz.2.2.2.2.2.1 | with_reducible exact hz.2.2.2.2.2.2 | with_reducible exact hz.2.2.2.2.2.1.1 | with_reducible exact hz.2.2.2.2.2.1.2.1 | with_reducible exact hz.2.2.2.2.2.1.2.2 | with_reducible exact hz.2.2.2.2.2.1 | with_reducible exact hz.2.2.2.2.2.2.1 | with_reducible exact hz.2.2.2.2.2.2.2 | with_reducible exact hz.2.2.2.2.2.2.1.1 | with_reducible exact hz.2.2.2.2.2.2.1.2.1 | with_reducible exact hz.2.2.2.2.2.2.1.2.2 | with_reducible exact hz.2.2.2.2.2.2.1 | with_reducible exact hz.2.2.2.2.2.2.2.1 | with_reducible exact hz.2.2.2.2.2.2.2.2 | with_reducible exact hz.2.2.2.2.2.2.2.1.1 | with_reducible exact hz.2.2.2.2.2.2.2.1.2.1 | with_reducible exact hz.2.2.2.2.2.2.2.1.2.2 | with_reducible exact hz.2.2.2.2.2.2.2.1 | with_reducible exact hz.2.2.2.2.2.2.2.2.1 | with_reducible exact hz.2.2.2.2.2.2.2.2.2 | with_reducible exact hz.2.2.2.2.2.2.2.2.1.1 | with_reducible exact hz.2.2.2.2.2.2.2.2.1.2.1 | with_reducible exact hz.2.2.2.2.2.2.2.2.1.2.2 | with_reducible exact hz.2.2.2.2.2.2.2.2.1 | with_reducible exact hz.2.2.2.2.2.2.2.2.2.1 | with_reducible exact hz.2.2.2.2.2.2.2.2.2.2 | with_reducible exact hz.2.2.2.2.2.2.2.2.2.1.1 | with_reducible exact hz.2.2.2.2.2.2.2.2.2.1.2.1 | with_reducible exact hz.2.2.2.2.2.2.2.2.2.1.2.2 | with_reducible exact hz.2.2.2.2.2.2.2.2.2.1 | with_reducible exact hz.2.2.2.2.2.2.2.2.2.2.1 | with_reducible exact hz.2.2.2.2.2.2.2.2.2.2.2 | with_reducible exact hz.2.2.2.2.2.2.2.2.2.2.1.1 | with_reducible exact hz.2.2.2.2.2.2.2.2.2.2.1.2.1 | with_reducible exact hz.2.2.2.2.2.2.2.2.2.2.1.2.2 | with_reducible exact hz.2.2.2.2.2.2.2.2.2.2.1 | with_reducible exact hz.2.2.2.2.2.2.2.2.2.2.2.1 | with_reducible exact hz.2.2.2.2.2.2.2.2.2.2.2.2 | with_reducible exact hz.2.2.2.2.2.2.2.2.2.2.2.1.1 | with_reducible exact hz.2.2.2.2.2.2.2.2.2.2.2.1.2.1 | with_reducible exact hz.2.2.2.2.2.2.2.2.2.2.2.1.2.2 | with_reducible exact hz.2.2.2.2.2.2.2.2.2.2.2.1 | with_reducible exact hz.2.2.2.2.2.2.2.2.2.2.2.2.1 | with_reducible exact hz.2.2.2.2.2.2.2.2.2.2.2.2.2)
  k_with "k_ne" => (refine neN ?_; (try dsimp only); first | with_reducible assumption | (refine Ne.symm ?_; with_reducible assumption) | (refine Nat.ne_of_lt ?_; k_extra "lt") | (refine Nat.ne_of_gt ?_; k_extra "lt") | k_extra "ne1" | (refine Ne.symm ?_; k_extra "ne1") | k_extra "ne3" | (refine Ne.symm ?_; k_extra "ne3") | exact Nat.ne_of_lt Nat.le.refl | exact Nat.ne_of_gt Nat.le.refl | exact Nat.ne_of_lt (Nat.le.step .refl) | exact Nat.ne_of_gt (Nat.le.step .refl) | exact Nat.ne_of_lt (Nat.le.step (.step .refl)) | exact Nat.ne_of_gt (Nat.le.step (.step .refl)) | exact Nat.ne_of_lt (Nat.le.step (.step (.step .refl))) | exact Nat.ne_of_gt (Nat.le.step (.step (.step .refl))) | omega)
  k_with "lts" => ((repeat' (refine And.intro ?_ ?_)) <;> k_extra "lt")
  k_with "om" => (first | decide | ((repeat (with_reducible rename (@Ne Nat _ _) ∧ _ => hz; clear hz)); (repeat (with_reducible rename ((@Ne Nat _ _) ∧ _) ∧ _ => hz; clear hz)); (repeat (with_reducible rename (@LT.lt Nat _ _ _) ∧ _ => hz; clear hz)); omega))
  k_with "om3" => (first | exact ⟨by assumption, by assumption, by assumption⟩ | k_extra "om")
  k_with "k_sub" => ((try simp only [List.cons_append, List.nil_append]); repeat' (first | exact Mine.sub_nil | (refine Mine.sub_cons (by k_mem) ?_)))
  k_with "stopEq" => (fail_if_success ((with_reducible show wpAny _ _ (compareOp CmpOp.Eq (Value.ref _) (Value.ref _)) _ _ _)))
  k_with "stopStr" => (fail_if_success ((with_reducible show wpAny _ _ (compareOp CmpOp.Eq (Value.str _ _) (Value.str _ _)) _ _ _)))
  k_with "k_one" => (first | (k_unfold; (try dsimp only)) | (k_end; kc_close) | walk1 | (dsimp only; walk1) | (leave1; walk_say "STEP leave1"; (try dsimp only)))
  k_with "stopF" => (fail_if_success ((with_reducible show wpAny _ _ (execs (Stmt.Assign [Expr.Name (Str.ofString "found") _] _ _ :: _) _) _ _ _)))
  k_with "stopInt" => (fail_if_success ((with_reducible show wpAny _ _ (compareOp CmpOp.Eq (Value.int _ _) (Value.int _ _)) _ _ _)))
  k_with "stopIn" => (fail_if_success ((with_reducible show wpAny _ _ (compareOp CmpOp.In (Value.str _ _) (Value.ref _)) _ _ _)))
  k_with "execs cons" => (k_here; first | ((with_reducible show wpAny _ _ _ _ _ (Shared.mk _ _ _ (_ + _) _)); refine Mine.toks_any _ _ _ _ _ ?_; intro tk9; (try dsimp only); (try (with_reducible rename News _ _ _ _ => n9); dsimp only at n9)) | ((with_reducible rename News _ _ _ _ => n9); dsimp only at n9 ⊢))
  k_with "stopB" => (fail_if_success ((with_reducible show wpAny _ _ (setAttr (Value.ref _) (PySem.Str.ofString "begin") _) _ _ _)))
  k_with "suf" => (first | exact (by with_reducible assumption) | exact (Mine.news_tl (by with_reducible assumption)) | exact (Mine.news_tl (Mine.news_tl (by with_reducible assumption))) | exact (Mine.news_tl (Mine.news_tl (Mine.news_tl (by with_reducible assumption)))) | exact (Mine.news_tl (Mine.news_tl (Mine.news_tl (Mine.news_tl (by with_reducible assumption))))) | exact (Mine.news_tl (Mine.news_tl (Mine.news_tl (Mine.news_tl (Mine.news_tl (by with_reducible assumption)))))) | exact (Mine.news_tl (Mine.news_tl (Mine.news_tl (Mine.news_tl (Mine.news_tl (Mine.news_tl (by with_reducible assumption))))))) | exact (Mine.news_tl (Mine.news_tl (Mine.news_tl (Mine.news_tl (Mine.news_tl (Mine.news_tl (Mine.news_tl (by with_reducible assumption)))))))) | exact (Mine.news_tl (Mine.news_tl (Mine.news_tl (Mine.news_tl (Mine.news_tl (Mine.news_tl (Mine.news_tl (Mine.news_tl (by with_reducible assumption))))))))) | exact (Mine.news_tl (Mine.news_tl (Mine.news_tl (Mine.news_tl (Mine.news_tl (Mine.news_tl (Mine.news_tl (Mine.news_tl (Mine.news_tl (by with_reducible assumption)))))))))) | exact (Mine.news_tl (Mine.news_tl (Mine.news_tl (Mine.news_tl (Mine.news_tl (Mine.news_tl (Mine.news_tl (Mine.news_tl (Mine.news_tl (Mine.news_tl (by with_reducible assumption))))))))))) | exact (Mine.news_tl (Mine.news_tl (Mine.news_tl (Mine.news_tl (Mine.news_tl (Mine.news_tl (Mine.news_tl (Mine.news_tl (Mine.news_tl (Mine.news_tl (Mine.news_tl (by with_reducible assumption)))))))))))) | exact (Mine.news_tl (Mine.news_tl (Mine.news_tl (Mine.news_tl (Mine.news_tl (Mine.news_tl (Mine.news_tl (Mine.news_tl (Mine.news_tl (Mine.news_tl (Mine.news_tl (Mine.news_tl (by with_reducible assumption))))))))))))) | exact (Mine.news_tl (Mine.news_tl (Mine.news_tl (Mine.news_tl (Mine.news_tl (Mine.news_tl (Mine.news_tl (Mine.news_tl (Mine.news_tl (Mine.news_tl (Mine.news_tl (Mine.news_tl (Mine.news_tl (by with_reducible assumption)))))))))))))))
  k_with "ktr_room" => ((try simp only [depth_under_make, depth_under_kw, depth_in1, depth_deeper, depth_caller, recursionLimit]); decide)
  k_with "ktr_units" => ((have hcL9 := cLine_is); (try simp only [Mine.units_make, units_in1, units_deeper, Around.mark_units, units_caller]); (try dsimp only [ktrTop]); omega)
  k_with "ktr_units" => ((try simp only [Mine.units_make, units_in1, units_deeper, Around.mark_units, units_caller]); exact Nat.le_of_ble_eq_true rfl)
  k_go0
  all_goals (try k_fold)
  refine Mine.with_tells 240 261 256 33 (by assumption) (by assumption) ?cdraw ?clow ?cpart fun hDraw hPart => ?_
  case cdraw =>
    law_clear
    unfold Mine.DrawTells
    intro dp un gd cn cs a ccd cl outer A₀ base h₀ L m s tp c pl t tm n vs ns many Q E B F X N T hk htc hI hn0 hn50 hp0 hp1 hm0 hm1 hd' hu hret
    refine wpAny_call ?_
    k_dflt (refine' code_defG ?k1 ?k2 ?k3 ?k4 ?k5 ?kA ?kF ?kK ?k6 ?k7 ?k8 ?k9 ?kB ?_ ?c2 ?c3 ?c4 ?c5; (case kA => exact rfl); (case kF => exact rfl); (case kK => assumption); (case k1 => k_asm); (case k2 => k_asm); (case k3 => k_asm); (case k4 => k_asm); (case k5 => k_asm); (case k6 => k_is); (case k7 => k_is); (case k8 => ktr_room); (case k9 => exact BindsTo.of_eq rfl); (case c5 => decide); (case kB => exact locs rfl); (case c2 => exact rfl); (case c3 => exact rfl); (case c4 => exact rfl); k_whole; intro g' L' h' FG' F' N' B' X' T' kG'; (try dsimp only); (try k_fold))
    k_steps
    exact hret _ _ _ _ _ (fmod_lo _ hm0) (fmod_hi _ hm0) (by assumption) (Mine.news_head (by assumption)) (Mine.draw_keeps (by assumption) (by assumption) N kG')
  case clow =>
    k_with "eval ListComp" => (k_here; (with_reducible show wpAny _ _ (eval (PySem.Expr.ListComp (PySem.Expr.Call (PySem.Expr.Name (PySem.Str.ofString "chr") _) _ _ _) _ _ _) _) _ _ _); k_dflt (refine Mine.ListComp_signs (by k_asm) (by rfl) (by with_unfolding_all rfl) (by decide) (by rfl) (by decide) (by rfl) ?_))
    k_with "SignSrc" => (k_here; k_dflt (refine ⟨_, _, _, rfl, by assumption, by (rw [PySem.sizeLine_eq]; omega), by k_asm, by k_asm, fun g9 => ?_⟩); (refine Mine.signs_rest (by assumption) (fun c9 u9 I9 oI9 C9 oC9 D9 m9 ys9 h9 tk9 E9 hc9 hC9 hx9 F9 N9 off9 ne9 => ?_) (fun ys9 xs9 hI9 h19 hl9 => ?_)); (focus ((try simp only [LCg.Off3, and_true] at off9); (try k_fold))); (try dsimp only))
    k_with "call builtin:str.join" => ((with_reducible rename StrsAre _ _ => i8); (refine KT.join_1 (g := id) (by first | assumption | is_list | exact News.isList (by k_asm) (by k_mem)) i8.carried (by assumption) (by omega) ?_); intro t8 k8 e8; (try dsimp only))
    law_clear
    unfold Mine.LowTells
    intro dp un gd cn cs a ccd cl outer A₀ base h₀ L m s y t Q E B F X T hk hy hy2 hd' hu hret
    have N : News h₀ L s.heap [] := fun _ h => nomatch h
    refine wpAny_call ?_
    k_dflt (refine' code_defG ?k1 ?k2 ?k3 ?k4 ?k5 ?kA ?kF ?kK ?k6 ?k7 ?k8 ?k9 ?kB ?_ ?c2 ?c3 ?c4 ?c5; (case kA => exact rfl); (case kF => exact rfl); (case kK => assumption); (case k1 => k_asm); (case k2 => k_asm); (case k3 => k_asm); (case k4 => k_asm); (case k5 => k_asm); (case k6 => k_is); (case k7 => k_is); (case k8 => ktr_room); (case k9 => exact BindsTo.of_eq rfl); (case c5 => decide); (case kB => exact locs rfl); (case c2 => exact rfl); (case c3 => exact rfl); (case c4 => exact rfl); k_whole; intro g' L' h' FG' F' N' B' X' T' kG'; (try dsimp only); (try k_fold))
    k_steps
    exact hret _ _ _ _ (by assumption) (Mine.kept_all (by assumption) kG')
  case cpart =>
    k_with "call ref" => (k_here; k_dflt (refine' Mine.draw_use hDraw ?k1 ?k2 ?k3 ?k4 ?k5 ?kK ?kU ?kc ?kne ?kI ?k0 ?k50 ?kp0 ?kp1 ?km0 ?km1 ?kd ?ku ?_; (case k1 => k_asm); (case k2 => k_asm); (case k3 => k_asm); (case k4 => k_asm); (case k5 => k_asm); (case kK => first | exact rfl | assumption); (case kU => k_updF); (case kc => k_mem); (case kne => k_ne); (case kI => assumption); (case k0 => assumption); (case k50 => assumption); (case kp0 => k_extra "om"); (case kp1 => k_extra "om"); (case km0 => k_extra "om"); (case km1 => k_extra "om"); (case kd => ktr_room); (case ku => ktr_units)); intro v9 t9 u9 h9 tk9 hv90 hv91 F9 N9; (try dsimp only at N9); (try dsimp only); (try k_fold))
    k_with "call ref" => (k_here; k_dflt (refine' Mine.low_use hLow ?k1 ?k2 ?k3 ?k4 ?k5 ?kK ?ka ?kb ?kd ?ku ?_; (case k1 => k_asm); (case k2 => k_asm); (case k3 => k_asm); (case k4 => k_asm); (case k5 => k_asm); (case kK => first | exact rfl | assumption); (case ka => decide +kernel); (case kb => decide +kernel); (case kd => ktr_room); (case ku => ktr_units)); intro z9 t9 h9 tk9 F9 N9; (try dsimp only); (try k_fold))
    k_with "eval ListComp" => (k_here; (first | (with_reducible show wpAny _ _ (eval (PySem.Expr.ListComp (PySem.Expr.Call (PySem.Expr.Name (PySem.Str.ofString "_law_draw") _) _ _ _) _ _ _) _) _ _ _) | (with_reducible show wpAny _ _ (eval (PySem.Expr.ListComp (PySem.Expr.BinOp _ _ (PySem.Expr.Call (PySem.Expr.Name (PySem.Str.ofString "_law_draw") _) _ _ _) _) _ _ _) _) _ _ _)); k_dflt (refine LCg.ListComp_U (F₀ := by k_asm) (by with_unfolding_all rfl) (by decide) (by rfl) (by decide) (by rfl) ?_))
    k_with "CompSrc" => (k_here; k_dflt (refine LCg.CompSrc.range (by rfl) (by k_asm) (by k_asm) (by assumption) (by first | exact small_one (by first | decide | kcf_bnd) (by first | decide | kcf_bnd) (by first | decide | kcf_bnd) (by first | decide | kcf_bnd) | decide) (by first | exact rangeSize_nat _ _ | rfl) (by first | exact Nat.le_of_ble_eq_true rfl | (rw [PySem.sizeLine_eq]; omega)) ?_); intro g9; k_dflt (refine Mine.draws_rest 0 256 (by k_updF) (fun i9 ys9 t9 v9 I9 oI9 C9 oC9 D9 m9 h9 tk9 E9 hi9 hP9 hC9 hx9 F9 N9 off9 ne9 => ?_) (fun ys9 ns9 t9 hI9 hl9 hb9 => ?_)); rotate_left; (have hl8 : ns9.length ≤ 64 := by k_extra "om"); rotate_left; (focus (obtain ⟨z9, rfl⟩ := hP9; (try dsimp only at N9 off9); (try dsimp only [LCg.Off3] at off9); (try k_fold))); (try dsimp only))
    k_with "CompEnd" => (k_dflt (refine Mine.turn_end (by k_asm) (by k_asm) (by first | assumption | exact off9) ⟨⟨_, _, rfl, by k_extra "om", by k_extra "om"⟩, _, rfl⟩))
    k_with "assign Tuple" => ((with_reducible rename IntsAre _ _ => i8); (with_reducible rename List.Perm _ _ => p8); have h3 := Mine.three i8 (by k_extra "om") p8 (by assumption); obtain ⟨x8, y8, z8, tx8, ty8, tz8, e8, e9, hx8, hy8, hz8⟩ := h3; subst e8; subst e9)
    law_clear
    intro hDraw hLow
    unfold Mine.PartTells
    intro dp un gd cn cs a ccd cl outer A₀ base h₀ L m s tp c pl t tm n vs ns size Q E B F X N T hk htc hI hn0 hn50 hp0 hp1 hm0 hm1 hd' hu hret
    refine wpAny_call ?_
    k_dflt (refine' Mine.enter_cells ?k1 ?k2 ?k3 ?k4 ?k5 ?kA ?kF ?kK ?k6 ?k7 ?k8 ?k9 ?kB ?kD ?_ ?c2 ?c3 ?c4; (case kA => exact rfl); (case kF => exact rfl); (case kK => assumption); (case k1 => k_asm); (case k2 => k_asm); (case k3 => k_asm); (case k4 => k_asm); (case k5 => k_asm); (case k6 => k_is); (case k7 => k_is); (case k8 => ktr_room); (case k9 => exact BindsTo.of_eq rfl); (case kB => exact rfl); (case kD => decide +kernel); (case c2 => exact rfl); (case c3 => exact rfl); (case c4 => exact rfl); k_whole; intro g' L' h' tk' cells' FG' F' N' Y' B' X' T' l1 kG' hLs'; (try k_lt l1); k_cells Y'; (try simp only [List.cons_append, List.nil_append] at N'); (try dsimp only); (try k_fold))
    repeat (k_extra "stopB"; k_extra "k_one")
    (with_reducible rename News _ _ _ _ => N8)
    replace N8 := Mine.dropP N8
    k_steps
    exact hret _ _ _ _ _ _ _ _ _ _ _ _ _ _ _ _ _ _ _ _ _ _ _ hx8 hy8 hz8 (by assumption) (Mine.news2 (by assumption) (by k_mem) (by k_mem)) (Mine.news_at (by assumption) (by k_mem)) (Mine.draw_keeps (by assumption) (Mine.news2 (by assumption) (by k_mem) (by k_mem)) N kG') (by omega) (by omega)
  dsimp only
  try k_fold
  refine Mine.cut1 (m₁ := fun y => if y = Str.ofString "script" then some (Value.ref _) else none) (by k_asm) (by k_asm) (by omega) rfl ?zs1 ?zk1
  case zs1 =>
    k_steps
    all_goals (try trivial)
    all_goals (exact Mine.After1.of (Mine.news_sub (by assumption) (by k_extra "k_sub")) (by assumption) (by assumption) (by first | assumption | exact .cons _ _ .nil) (by first | omega | decide) (by first | omega | decide) (by omega) (by omega))
  case zk1 =>
  intro D l ws ns c h tk t o hI h0 h50 l1 l2 d' B1 B2 B3 B4 B5 BD Bl F' N'
  dsimp only
  try k_fold
  refine Mine.cut2 (by k_asm) (by k_asm) ?zs2 ?zk2
  case zs2 =>
    k_with "call ref" => (k_here; k_dflt (refine' Mine.draw_use hDraw ?k1 ?k2 ?k3 ?k4 ?k5 ?kK ?kU ?kc ?kne ?kI ?k0 ?k50 ?kp0 ?kp1 ?km0 ?km1 ?kd ?ku ?_; (case k1 => k_asm); (case k2 => k_asm); (case k3 => k_asm); (case k4 => k_asm); (case k5 => k_asm); (case kK => first | exact rfl | assumption); (case kU => k_updF); (case kc => k_mem); (case kne => k_ne); (case kI => assumption); (case k0 => assumption); (case k50 => assumption); (case kp0 => k_extra "om"); (case kp1 => k_extra "om"); (case km0 => k_extra "om"); (case km1 => k_extra "om"); (case kd => ktr_room); (case ku => ktr_units)); intro v9 t9 u9 h9 tk9 hv90 hv91 F9 N9; (try dsimp only at N9); (try dsimp only); (try k_fold))
    k_with "eval ListComp" => (k_here; (first | (with_reducible show wpAny _ _ (eval (PySem.Expr.ListComp (PySem.Expr.Call (PySem.Expr.Name (PySem.Str.ofString "_law_draw") _) _ _ _) _ _ _) _) _ _ _) | (with_reducible show wpAny _ _ (eval (PySem.Expr.ListComp (PySem.Expr.BinOp _ _ (PySem.Expr.Call (PySem.Expr.Name (PySem.Str.ofString "_law_draw") _) _ _ _) _) _ _ _) _) _ _ _)); k_dflt (refine LCg.ListComp_U (F₀ := by k_asm) (by with_unfolding_all rfl) (by decide) (by rfl) (by decide) (by rfl) ?_))
    k_with "CompSrc" => (k_here; k_dflt (refine LCg.CompSrc.range (by rfl) (by k_asm) (by k_asm) (by assumption) (by first | exact small_one (by first | decide | kcf_bnd) (by first | decide | kcf_bnd) (by first | decide | kcf_bnd) (by first | decide | kcf_bnd) | decide) (by first | exact rangeSize_nat _ _ | rfl) (by first | exact Nat.le_of_ble_eq_true rfl | (rw [PySem.sizeLine_eq]; omega)) ?_); intro g9; k_dflt (refine Mine.draws_rest 0 256 (by k_updF) (fun i9 ys9 t9 v9 I9 oI9 C9 oC9 D9 m9 h9 tk9 E9 hi9 hP9 hC9 hx9 F9 N9 off9 ne9 => ?_) (fun ys9 ns9 t9 hI9 hl9 hb9 => ?_)); rotate_left; (have hl8 : ns9.length ≤ 64 := by k_extra "om"); rotate_left; (focus (obtain ⟨z9, rfl⟩ := hP9; (try dsimp only at N9 off9); (try dsimp only [LCg.Off3] at off9); (try k_fold))); (try dsimp only))
    k_with "CompEnd" => (k_dflt (refine Mine.turn_end (by k_asm) (by k_asm) (by first | assumption | exact off9) ⟨⟨_, _, rfl, by k_extra "om", by k_extra "om"⟩, _, rfl⟩))
    k_steps
    all_goals (try with_reducible trivial)
    all_goals (refine Mine.After2.of (Mine.news_sub (by with_reducible assumption) (by k_extra "k_sub")) (by with_reducible assumption) (by with_reducible assumption) ?_ ?_ ?_ ?_ ?_)
    all_goals (first | k_extra "om" | skip)
    · exact Mine.word0
    · exact Mine.word1
    · exact Mine.word2
    · exact Mine.word3
  case zk2 =>
  intro W tW tw u way pl h2 tk2 o5 hW hw0 hw1 hp0 hp1 d5 F2 N2
  dsimp only
  try k_fold
  refine Mine.cut3 (by k_asm) (by k_asm) (by assumption) (by assumption) (by assumption) (by assumption) (by assumption) ?zs3 ?zk3
  case zs3 =>
    k_steps
    all_goals (try with_reducible trivial)
    all_goals (refine Mine.After3.of (by with_reducible assumption) (Mine.news_sub (by with_reducible assumption) (by k_extra "k_sub")) (by with_reducible assumption) ?_ ?_ ?_ <;> k_extra "om")
  case zk3 =>
  intro b P ys ps u3 pl3 h3 tk3 hP hP3 hq0 hq1 np F3 N3
  dsimp only
  try k_fold
  refine Mine.cut4 (by k_asm) (by k_asm) ?zs4 ?zk4
  case zs4 =>
    k_steps
    all_goals (try with_reducible trivial)
    all_goals (refine Mine.After4.of (Mine.news_sub (by with_reducible assumption) (by k_extra "k_sub")) (by with_reducible assumption) (by with_reducible assumption) ?_ ?_ ?_ ?_ <;> k_extra "om")
  case zk4 =>
  intro ds t4 u4 pl4 h4 tk4 hB hd0 hd1 hr0 hr1 F4 N4
  dsimp only
  try k_fold
  refine Mine.cut5 240 (by k_asm) (by k_asm) ?zs5 ?zk5
  case zs5 =>
    k_with "call ref" => (k_here; k_dflt (refine' Mine.part_use hPart ?k1 ?k2 ?k3 ?k4 ?k5 ?kK ?kU ?kc ?kne ?kI ?k0 ?k50 ?kp0 ?kp1 ?km0 ?km1 ?kd ?ku ?_; (case k1 => k_asm); (case k2 => k_asm); (case k3 => k_asm); (case k4 => k_asm); (case k5 => k_asm); (case kK => first | exact rfl | assumption); (case kU => k_updF); (case kc => k_mem); (case kne => k_ne); (case kI => assumption); (case k0 => assumption); (case k50 => assumption); (case kp0 => k_extra "om"); (case kp1 => k_extra "om"); (case km0 => k_extra "om"); (case km1 => k_extra "om"); (case kd => ktr_room); (case ku => ktr_units)); intro r8 d8 x8 y8 z8 fv8 kv8 ev8 sv8 k81 k82 k83 k84 k85 k86 k87 k88 tx8 ty8 tz8 t8 h8 tk8 hx8 hy8 hz8 F8 N8 l8 l7 l9; (try k_lt l8); (try k_lt l7); (try dsimp only at N8); (try dsimp only); (try k_fold))
    k_steps
    all_goals (try with_reducible trivial)
    all_goals (exact Mine.After5.of (Mine.news_sub (by with_reducible assumption) (by k_extra "k_sub")) (by with_reducible assumption) (by with_reducible assumption) (by with_reducible assumption) (Mine.news_sub (by with_reducible assumption) (by k_extra "k_sub")) (by k_extra "om3") (by k_extra "om3") (by k_extra "om3") (by k_extra "lts") (by k_extra "lts") (by k_extra "lts") (by k_extra "lts") (by k_extra "lts") (by k_extra "lts"))
  case zk5 =>
  intro p1 p2 p3 r1 d1 r2 d2 r3 d3 o4 o3 h5 tk5 g1 g2 g3 n1 n2 n3 n4 n5 n6 e4 e3 F5 N5
  dsimp only
  try k_fold
  refine Mine.cut6 b (by k_asm) (by k_asm) ?zs6 ?zk6
  case zs6 =>
    k_steps
    all_goals (try with_reducible trivial)
    · exact Mine.After6.yes (by first | rfl | assumption) (by with_reducible assumption) (Mine.news_sub (by with_reducible assumption) (by k_extra "k_sub"))
    · exact Mine.After6.no (by first | rfl | assumption) (by with_reducible assumption) (Mine.news_sub (by with_reducible assumption) (by k_extra "k_sub"))
  case zk6 =>
  intro iv h6 tk6 hiv F6 N6
  dsimp only
  try k_fold
  clear hDraw hPart F' N' F2 N2 F3 N3 F4 N4 F5 N5
  clear hI h0 h50 d' hp0 hp1 hq0 hq1 hr0 hr1
  k_with "call type:tuple" => (k_here; k_dflt (refine call_tuple_tup (News.isTup (by k_asm) (by k_mem)) ?_))
  k_with "SomeVal" => (exact Mine.SomeVal.of (by with_reducible assumption) (Mine.news_sub (by with_reducible assumption) (by k_extra "k_sub")))
  k_with "eval IfExp" => (k_here; (with_reducible show wpAny _ _ (eval (PySem.Expr.IfExp _ (PySem.Expr.Tuple _ _ _) _ _) _) _ _ _); k_dflt (refine' Mine.ifexp_any ?F ?N ?h1 ?h2); (case F => k_asm); (case N => k_asm); rotate_left; intro v9 h9 tk9 F9 N9; (try dsimp only); (try k_fold); rotate_right)
  k_with "compareOp Eq ref ref" => (k_here; (with_reducible show wpAny _ _ (compareOp CmpOp.Eq (Value.ref _) (Value.ref _)) _ _ _); k_dflt (first | refine Mine.path_Eq1 (by k_asm) (by k_mem) (by k_mem) hP hE (by ke_room) ?_ | refine Mine.path_Eq0 (by k_asm) (by k_mem) (by k_mem) hP hE (by ke_room) ?_))
  k_with "compareOp NotEq ref ref" => (k_here; (with_reducible show wpAny _ _ (compareOp CmpOp.NotEq (Value.ref _) (Value.ref _)) _ _ _); k_dflt (first | refine Mine.path_Ne1 (by k_asm) (by k_mem) (by k_mem) hP hE (by ke_room) ?_ | refine Mine.path_Ne0 (by k_asm) (by k_mem) (by k_mem) hP hE (by ke_room) ?_ | refine Mine.asked_Ne (by k_asm) (by k_mem) (by k_mem) (by k_mem) (by k_mem) (by k_mem) hP (by ke_room) ?_ | refine Mine.asked_Ne0 (by k_asm) (by k_mem) (by k_mem) (by ke_room) ?_))
  k_with "compareOp Eq str str" => (k_here; rw [hW])
  k_with "subscriptTail" => (k_here; rw [hW])
  k_with "getAttr ref" => (k_here; (with_reducible show wpAny _ _ (getAttr (Value.ref _) (PySem.Str.ofString "inner") _) _ _ _); (with_reducible rename News _ _ _ _ => nI9); rw [hv] at nI9)
  k_with "compareOp In str ref" => (k_here; (with_reducible show wpAny _ _ (compareOp CmpOp.In (Value.str _ _) (Value.ref _)) _ _ _); with_unfolding_all first | (refine' Mine.in_yes hW ?k1 ?k2 ?k3 ?_; (case k1 => exact Fr.tup (by k_asm) (tupK (by k_asm) (by k_is))); (case k2 => kde_strs); (case k3 => decide +kernel); k_whole) | (refine' Mine.in_no hW ?k1 ?k2 ?k3 ?_; (case k1 => exact Fr.tup (by k_asm) (tupK (by k_asm) (by k_is))); (case k2 => kde_strs); (case k3 => decide +kernel); k_whole) | (refine' Mine.in_yes hW ?k1 ?k2 ?k3 ?_; (case k1 => exact News.isTup (by k_asm) (by k_mem)); (case k2 => kde_strs); (case k3 => decide +kernel); k_whole) | (refine' Mine.in_no hW ?k1 ?k2 ?k3 ?_; (case k1 => exact News.isTup (by k_asm) (by k_mem)); (case k2 => kde_strs); (case k3 => decide +kernel); k_whole))
  k_with "compareOp Gt int int" => (k_here; with_reducible refine Mine.gt_way hwp ?_)
  k_with "compareOp Eq int int" => (k_here; with_reducible refine Mine.eq_way hwe ?_)
  k_with "ite" => (first | with_reducible refine ite_tt ?_ | with_reducible refine ite_ff ?_)
  refine wpAny_execs_cons ?_
  repeat (k_extra "stopF"; k_extra "k_one")
  dsimp only
  try k_fold
  refine Mine.cut7 P ps (Mine.OkA W ds p1) (Mine.OkB W ds p2 p3 way b) (by k_asm) (by k_asm) ?zs7 ?zk7 ?zk8
  case zs7 =>
    repeat (k_extra "stopEq"; k_extra "k_one")
    (with_reducible rename News _ _ _ _ => N8)
    try dsimp only at N8
    by_cases hE : ps = []
    · replace N8 := Mine.drop56 N8
      repeat (k_extra "stopStr"; k_extra "k_one")
      rcases hW with hW | hW | hW | hW
      · repeat' k_extra "k_one"
        all_goals (try with_reducible trivial)
        all_goals (exact Mine.After7.a (by with_reducible assumption) hE (Or.inl ⟨hW, _, rfl⟩) (by k_extra "suf"))
      · repeat' k_extra "k_one"
        all_goals (try with_reducible trivial)
        all_goals (exact Mine.After7.a (by with_reducible assumption) hE (Or.inr (Or.inl ⟨hW, _, rfl⟩)) (by k_extra "suf"))
      · repeat' k_extra "k_one"
        all_goals (try with_reducible trivial)
        all_goals (exact Mine.After7.a (by with_reducible assumption) hE (Or.inr (Or.inr (Or.inl ⟨hW, _, rfl⟩))) (by k_extra "suf"))
      · repeat' k_extra "k_one"
        all_goals (try with_reducible trivial)
        all_goals (exact Mine.After7.a (by with_reducible assumption) hE (Or.inr (Or.inr (Or.inr hW))) (by k_extra "suf"))
    · by_cases hw : way = 0
      · have hwp : decide (0 < way) = false := decide_eq_false (by omega)
        repeat' k_extra "k_one"
        all_goals (try with_reducible trivial)
        all_goals (exact Mine.After7.b (by with_reducible assumption) hE (Or.inl ⟨hw, rfl⟩) (Mine.news_add (by with_reducible assumption) (by k_mem) (Mine.news_add (by with_reducible assumption) (by k_mem) (by k_extra "suf"))))
      · have hw2 : 0 < way := by omega
        have hwp : decide (0 < way) = true := decide_eq_true hw2
        clear hw
        repeat (k_extra "stopStr"; k_extra "k_one")
        rcases hW with hW | hW | hW | hW
        · repeat' k_extra "k_one"
          all_goals (try with_reducible trivial)
          all_goals (exact Mine.After7.b (by with_reducible assumption) hE (Or.inr ⟨hw2, Or.inl ⟨hW, _, rfl⟩⟩) (Mine.news_add (by with_reducible assumption) (by k_mem) (Mine.news_add (by with_reducible assumption) (by k_mem) (by k_extra "suf"))))
        · rcases hiv with ⟨hb, hv⟩ | ⟨hb, hv⟩
          · repeat' k_extra "k_one"
            all_goals (try with_reducible trivial)
            all_goals (try rw [hv])
            all_goals (exact Mine.After7.b (by with_reducible assumption) hE (Or.inr ⟨hw2, Or.inr (Or.inr (Or.inl ⟨hW, hb, _, rfl⟩))⟩) (Mine.news_add (by with_reducible assumption) (by k_mem) (Mine.news_add (by with_reducible assumption) (by k_mem) (by k_extra "suf"))))
          · repeat' k_extra "k_one"
            all_goals (try with_reducible trivial)
            all_goals (try rw [hv])
            all_goals (exact Mine.After7.b (by with_reducible assumption) hE (Or.inr ⟨hw2, Or.inr (Or.inr (Or.inr (Or.inr (Or.inl ⟨hW, hb, rfl⟩))))⟩) (Mine.news_add (by with_reducible assumption) (by k_mem) (Mine.news_add (by with_reducible assumption) (by k_mem) (by k_extra "suf"))))
        · rcases hiv with ⟨hb, hv⟩ | ⟨hb, hv⟩
          · repeat' k_extra "k_one"
            all_goals (try with_reducible trivial)
            all_goals (try rw [hv])
            all_goals (exact Mine.After7.b (by with_reducible assumption) hE (Or.inr ⟨hw2, Or.inr (Or.inr (Or.inr (Or.inl ⟨hW, hb, _, rfl⟩)))⟩) (Mine.news_add (by with_reducible assumption) (by k_mem) (Mine.news_add (by with_reducible assumption) (by k_mem) (by k_extra "suf"))))
          · repeat' k_extra "k_one"
            all_goals (try with_reducible trivial)
            all_goals (try rw [hv])
            all_goals (exact Mine.After7.b (by with_reducible assumption) hE (Or.inr ⟨hw2, Or.inr (Or.inr (Or.inr (Or.inr (Or.inr ⟨hW, hb, rfl⟩))))⟩) (Mine.news_add (by with_reducible assumption) (by k_mem) (Mine.news_add (by with_reducible assumption) (by k_mem) (by k_extra "suf"))))
        · repeat' k_extra "k_one"
          all_goals (try with_reducible trivial)
          all_goals (exact Mine.After7.b (by with_reducible assumption) hE (Or.inr ⟨hw2, Or.inr (Or.inl ⟨hW, _, rfl⟩)⟩) (Mine.news_add (by with_reducible assumption) (by k_mem) (Mine.news_add (by with_reducible assumption) (by k_mem) (by k_extra "suf"))))
  case zk7 =>
    intro hE v7 h7 tk7 o7 F7 N7
    dsimp only
    try k_fold
    repeat (k_extra "stopStr"; k_extra "k_one")
    rcases o7 with ⟨hW, t8, rfl⟩ | ⟨hW, t8, rfl⟩ | ⟨hW, t8, rfl⟩ | hW
    · repeat' k_extra "k_one"
    · repeat' k_extra "k_one"
    · repeat' k_extra "k_one"
    · repeat' k_extra "k_one"
  case zk8 =>
    intro hE v7 h7 tk7 t7 n7 o7 F7 N7
    dsimp only
    try k_fold
    repeat (k_extra "stopInt"; k_extra "k_one")
    rcases o7 with ⟨hw, rfl⟩ | ⟨hw, o7⟩
    · have hwe : (way == 0) = true := by simp [hw]
      repeat' k_extra "k_one"
    · have hwe : (way == 0) = false := beq_eq_false_iff_ne.mpr (by omega)
      repeat (k_extra "stopIn"; k_extra "k_one")
      rcases o7 with ⟨hW, t8, rfl⟩ | ⟨hW, t8, rfl⟩ | ⟨hW, hb, t8, rfl⟩ | ⟨hW, hb, t8, rfl⟩ | ⟨hW, hb, rfl⟩ | ⟨hW, hb, rfl⟩
      · repeat' k_extra "k_one"
      · repeat' k_extra "k_one"
      · repeat' k_extra "k_one"
      · repeat' k_extra "k_one"
      · repeat' k_extra "k_one"
      · repeat' k_extra "k_one"
