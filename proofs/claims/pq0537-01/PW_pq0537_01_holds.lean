import PyProof.Rows.All
import Wide.All
import OpenK.AllK
import Wide.FinOn
import PySem.Challenge.RW_pq0537_01
set_option Elab.async false
set_option rowWalk.seconds 0
set_option linter.all false
set_option maxRecDepth 100000
set_option maxHeartbeats 8000000
section
open PySem PySem.W PyProof.Rows
namespace Mine
open_top hd for PySem.Challenge.rw_pq0537_01
end Mine

end
section
open PySem PySem.W PySem.Calls PyProof.Rows
namespace Mine

/-- what a called def hands back: the new entries of the ledger and the value -/
noncomputable def EndM (s : Shared) (g : Heap) (L' : Addr) (news : List (Addr × Obj)) (Out : List (Addr × Obj) → Value → Prop) (v : Value) (s' : Shared) : Prop :=
  ∃ h' tk m' news' tl, s' = { s with heap := h', toks := tk } ∧ Fr g L' h' m' ∧ News g L' h' news' ∧ (∀ p ∈ news, p ∈ news') ∧ (∀ p ∈ tl, p ∈ news') ∧ (∀ p ∈ tl, ∀ q ∈ news, q.1 ≠ p.1) ∧ Out tl v

noncomputable def Does (w : World) (mean : ExcName → Option Value) (mg mb : Str → Option Value) (f : Addr) (dn un : Nat) (vs : List Value) (led : List (Addr × Obj)) (Out : List (Addr × Obj) → Value → Prop) : Prop :=
  ∀ (dp u : Nat) (gd : Option (List Code)) (cn : Str) (cs : Scope) (L a : Addr) (ccd : Value) (cl : List (Str × Addr)) (outer : List Env) (A₀ : Around) (base h₀ : Heap) (m : Str → Option Value) (s : Shared) (Q E : Value → Shared → Prop),
    Below A₀ base outer h₀ → Fr h₀ L s.heap m → (hd.heap_39 w.params).In h₀ → News h₀ L s.heap led → Top hd.view_39 (looseW hd.view_39 []) mean mg mb h₀ → cs.kind = .function → dp + dn < recursionLimit → u + un < cLine →
    (∀ r tl h' tk', (∀ b o, s.heap.get? b = some o → h'.get? b = some o) → (∀ p ∈ tl, h'.get? p.1 = some p.2 ∧ s.heap.get? p.1 = none) → Out tl r → Q r { s with heap := h', toks := tk' }) →
    wpAny (model PySem.Challenge.rw_pq0537_01.row.prog w) (ktrTop dp u gd cn cs L a ccd cl outer) (call (.ref f) vs) Q E s

theorem does_use {w : World} {mean : ExcName → Option Value} {mg mb : Str → Option Value} {f : Addr} {dn un : Nat} {vs : List Value} {led news : List (Addr × Obj)} {Out : List (Addr × Obj) → Value → Prop}
    {dp u : Nat} {gd : Option (List Code)} {cn : Str} {cs : Scope} {L a : Addr} {ccd : Value} {cl : List (Str × Addr)} {outer : List Env} {A₀ : Around} {base h₀ : Heap} {m : Str → Option Value} {s : Shared} {Q E : Value → Shared → Prop}
    (D : Does w mean mg mb f dn un vs led Out)
    (B : Below A₀ base outer h₀) (F : Fr h₀ L s.heap m) (X : (hd.heap_39 w.params).In h₀) (N : News h₀ L s.heap news) (T : Top hd.view_39 (looseW hd.view_39 []) mean mg mb h₀) (hk : cs.kind = .function) (hs : ∀ p ∈ led, p ∈ news)
    (hd : dp + dn < recursionLimit) (hu : u + un < cLine)
    (ret : ∀ r tl h' tk', Fr h₀ L h' m → News h₀ L h' (tl ++ news) → (∀ p ∈ tl, ∀ q ∈ news, q.1 ≠ p.1) → Out tl r → Q r { s with heap := h', toks := tk' }) :
    wpAny (model PySem.Challenge.rw_pq0537_01.row.prog w) (ktrTop dp u gd cn cs L a ccd cl outer) (call (.ref f) vs) Q E s := by
  refine D _ _ _ _ _ _ _ _ _ _ _ _ _ _ _ _ _ B F X (fun p hp => N p (hs p hp)) T hk hd hu ?_
  intro r tl h' tk' keep new out
  refine ret r tl h' tk' ?_ ?_ ?_ out
  · obtain ⟨oL, es, ep, hL, hLd, hLk, hLf⟩ := F.ns
    exact ⟨⟨oL, es, ep, keep _ _ hL, hLd, hLk, hLf⟩, fun b o e => keep _ _ (F.keep b o e), F.above⟩
  · intro p hp
    rcases List.mem_append.mp hp with hp | hp
    · refine ⟨(new p hp).1, fun e => ?_, ?_⟩
      · obtain ⟨oL, es, ep, hL, hLd, hLk, hLf⟩ := F.ns
        have := (new p hp).2
        rw [e, hL] at this
        cases this
      · cases q : h₀.get? p.1 with
        | none => rfl
        | some o => have := (new p hp).2; rw [F.keep _ _ q] at this; cases this
    · exact ⟨keep _ _ (N p hp).1, (N p hp).2⟩
  · intro p hp q hq e
    have := (new p hp).2
    rw [← e, (N q hq).1] at this
    cases this

theorem of_hideAll_none : ∀ (l : List Addr) {h : Heap} {b : Addr}, (hideAll h l).get? b = none → b ∉ l → h.get? b = none := by
  intro l h b e hb
  cases q : h.get? b with
  | none => rfl
  | some o =>
    rw [hideAll_get l q hb] at e
    cases e

section
variable {prog : Program} {w : World} {A₀ A : Around} {s : Shared} {K : Frag} {L : Addr} {h₀ base : Heap} {m mg mb : Str → Option Value} {news : List (Addr × Obj)} {p : Program} {loose : List Str} {mean : ExcName → Option Value} {env : Env} {outer : List Env} {Q E : Value → Shared → Prop} {name qual : Str} {params : Arguments} {body : List Stmt} {scope : Scope} {dV kV doc pm cdv ct oc : Value} {an od : Option Addr} {osl : Array (Option Value)} {f : Addr} {args : List Value} {binds : List (Str × Value)} {Out : List (Addr × Obj) → Value → Prop}

theorem enterM (B : Below A₀ base outer h₀) (F : Fr h₀ L s.heap m) (X₀ : K.In h₀) (N : News h₀ L s.heap news) (T : Top p loose mean mg mb h₀) (hA : A.frames = some (env :: outer)) (hf : env.frame = some L) (hke : env.scope.kind = .function)
    (ho : K.lookup f = some ⟨oc, od, .func (fnOf name qual params body scope dV kV doc pm an cdv ct), osl⟩) (hcd : codeIn K cdv qual = true) (hroom : A.depth < recursionLimit)
    (hbind : BindsTo s (fnOf name qual params body scope dV kV doc pm an cdv ct) ⟨args, []⟩ binds) (hloc : ∀ y ∈ binds, scope.names.lookup y.1 = some .local)
    (ret : ∀ r tl h' tk', (∀ b o, s.heap.get? b = some o → h'.get? b = some o) → (∀ p ∈ tl, h'.get? p.1 = some p.2 ∧ s.heap.get? p.1 = none) → Out tl r → Q r { s with heap := h', toks := tk' })
    (h : ∀ g L' h₁, Fr g L' h₁ (fun y => binds.reverse.lookup y) → News g L' h₁ news → Below A base (env :: outer) g → K.In g → Top p loose mean mg mb g →
      wpAny (model prog w) (A.deeper (envOf qual scope L' f cdv)) (execs body (envOf qual scope L' f cdv))
        (fun fl s' => EndM s g L' news Out (match fl with | .ret v => v | _ => .none) s') (fun _ _ => False)
        { s with heap := h₁, toks := s.toks + binds.length })
    (hco : scope.isCoroutine = false) (hgen : scope.isGenerator = false) (hk : scope.kind = .function)
    (hcell : ∀ x ∈ scope.names, x.2 ≠ .cell) : wpAny (model prog w) A (call (.ref f) args) Q E s := by
  refine wpAny_call ?_
  obtain ⟨FG, BG, st, _⟩ := groundX (R := fun _ _ => True) B F N hA hf hke
  refine codeAny_call_def (fd := fnX name qual params body scope [] dV kV doc pm an cdv ct) (body := body) (binds := binds) hroom ((X₀.keeps F.keep) _ _ ho) rfl (T.nolimit.keeps F.keep) (codeRec_of (X₀.keeps F.keep) hcd) rfl hbind hcell hloc (fun h₁ hns hk₁ => ?_) hco hgen hk
  refine wpAny_mono (h (hideAll s.heap (news.map (·.1))) s.heap.objs.size h₁ ⟨hns, fun b o e => hk₁ b o (of_hideAll _ e), Nat.le_of_eq (hideAll_size _ _)⟩
    (fun p hp => ⟨hk₁ _ _ (N p hp).1, Nat.ne_of_lt (Heap.lt_size (N p hp).1), hideAll_none _ (List.mem_map_of_mem hp)⟩) BG (X₀.keeps (h' := hideAll s.heap (news.map (·.1))) fun b o e => st b o e) (T.keeps (h' := hideAll s.heap (news.map (·.1))) fun b o e => st b o e)) (fun fl s' hl => ?_) (fun _ _ y => y.elim)
  obtain ⟨h', tk, m', news', tl, rfl, F', N', hn, ht, ho', out⟩ := hl
  refine ret _ tl h' tk (fun b o e => ?_) (fun p hp => ⟨(N' p (ht p hp)).1, of_hideAll_none _ (N' p (ht p hp)).2.2 fun q => ?_⟩) out
  · by_cases hb : b ∈ news.map (·.1)
    · obtain ⟨q, hq, rfl⟩ := List.mem_map.mp hb
      rw [(N q hq).1] at e
      cases e
      exact (N' q (hn q hq)).1
    · exact F'.keep _ _ (hideAll_get _ e hb)
  · obtain ⟨q, hq, e⟩ := List.mem_map.mp q
    exact ho' p hp q hq e
end
end Mine

end
section
open PySem PySem.W PySem.Calls PyProof PyProof.Rows PyProof.V PySem.Spec
namespace Mine

theorem kst_self {m : Str → Option Value} : ∀ {ps : List (Str × Value)}, (∀ p ∈ ps, m p.1 = some p.2) → kstB m ps = m := by
  intro ps h
  funext y
  exact kstB_eq h fun _ => rfl

section
variable {prog : Program} {w : World} {A : Around} {E : Value → Shared → Prop} {s : Shared} {env : Env} {h₀ : Heap} {x : Str} {body : List Stmt} {Q : Flow → Shared → Prop}

noncomputable def WhEnd {σ : Type} (h₀ : Heap) (L : Addr) (s : Shared) (led : σ → List (Addr × Obj)) (fm : σ → List (Str × Value)) (P : σ → Prop) (μ : σ → Nat) (k : Nat) (s₂ : Shared) : Prop :=
  ∃ c' h' tk m' news', s₂ = { s with heap := h', toks := tk } ∧ Fr h₀ L h' m' ∧ News h₀ L h' news' ∧ (∀ p ∈ led c', p ∈ news') ∧ (∀ p ∈ fm c', m' p.1 = some p.2) ∧ P c' ∧ μ c' < k
noncomputable def WhPost {σ : Type} (h₀ : Heap) (L : Addr) (s : Shared) (led : σ → List (Addr × Obj)) (fm : σ → List (Str × Value)) (P : σ → Prop) (μ : σ → Nat) (Q : Flow → Shared → Prop) (k : Nat) (f : Flow) (s₂ : Shared) : Prop :=
  match f with
  | .ret v => Q (.ret v) s₂
  | .brk => Q .next s₂
  | _ => WhEnd h₀ L s led fm P μ k s₂

theorem while_M {σ : Type} {L : Addr} {test : Expr} {pos : Pos} {m₀ : Str → Option Value} {news : List (Addr × Obj)} (led : σ → List (Addr × Obj)) (fm : σ → List (Str × Value)) (P : σ → Prop) (μ : σ → Nat) (c₀ : σ)
    (F : Fr h₀ L s.heap m₀) (N : News h₀ L s.heap news) (hl : ∀ p ∈ led c₀, p ∈ news) (hm : ∀ p ∈ fm c₀, m₀ p.1 = some p.2) (hp : P c₀)
    (turn : ∀ (c : σ) (u : Str → Option Value) h tk, P c → Fr h₀ L h (kstB u (fm c)) → News h₀ L h (led c) →
      wpAny (model prog w) A (isTrue test env (eval test env)) (fun b s₂ =>
        if b = true then wpAny (model prog w) A (execs body env) (WhPost h₀ L s led fm P μ Q (μ c)) E s₂ else Q .next s₂) E { s with heap := h, toks := tk })
    (hE : PassesOwn (model prog w) A env E) :
    wpAny (model prog w) A (exec (.While test body [] pos) env) Q E s := by
  refine While_inv2 (fun n m nx => ∃ c : σ, nx = led c ∧ μ c = n ∧ (∀ p ∈ fm c, m p.1 = some p.2) ∧ P c) F (fun p hp => N p (hl p hp)) ⟨c₀, rfl, rfl, hm, hp⟩ ?_ hE
  rintro n m₁ nx h tk F₁ N₁ ⟨c, rfl, rfl, h1, hp'⟩
  refine wpAny_mono (turn c m₁ h tk hp' (by rw [kst_self h1]; exact F₁) N₁) (fun b s₂ p => ?_) fun _ _ x => x
  cases b with
  | false => simpa using p
  | true =>
    simp only [if_true] at p ⊢
    refine wpAny_mono p (fun f s₃ q => ?_) fun _ _ x => x
    cases f with
    | ret v => exact q
    | brk => exact q
    | next =>
      obtain ⟨c', h', tk', m', news', rfl, F', N', hn, hk9, hp9, hm9⟩ := q
      exact ⟨h', tk', m', led c', μ c', rfl, F', fun p hp => N' p (hn p hp), hm9, c', rfl, rfl, hk9, hp9⟩
    | cont =>
      obtain ⟨c', h', tk', m', news', rfl, F', N', hn, hk9, hp9, hm9⟩ := q
      exact ⟨h', tk', m', led c', μ c', rfl, F', fun p hp => N' p (hn p hp), hm9, c', rfl, rfl, hk9, hp9⟩

noncomputable def FoEnd {σ : Type} (h₀ : Heap) (L : Addr) (s : Shared) (led : σ → List (Addr × Obj)) (fm : σ → List (Str × Value)) (P : σ → Prop) (I : Addr) (oi : Obj) (s₂ : Shared) : Prop :=
  ∃ c' h' tk m' news', s₂ = { s with heap := h', toks := tk } ∧ Fr h₀ L h' m' ∧ News h₀ L h' news' ∧ (∀ p ∈ led c', p ∈ news') ∧ (I, oi) ∈ news' ∧ (∀ p ∈ led c', p.1 ≠ I) ∧ (∀ p ∈ fm c', m' p.1 = some p.2) ∧ P c'
noncomputable def FoPost {σ : Type} (h₀ : Heap) (L : Addr) (s : Shared) (led : σ → List (Addr × Obj)) (fm : σ → List (Str × Value)) (P : σ → Prop) (I : Addr) (oi : Obj) (Q : Flow → Shared → Prop) (f : Flow) (s₂ : Shared) : Prop :=
  match f with
  | .ret v => Q (.ret v) s₂
  | .brk => Q .next s₂
  | _ => FoEnd h₀ L s led fm P I oi s₂

theorem for_M {σ : Type} {I : Addr} {fp : List Addr} {n : Nat} {PV : Nat → Value → Prop} {St : Nat → Heap → Prop} {m₀ : Str → Option Value} {news : List (Addr × Obj)}
    (led : σ → List (Addr × Obj)) (fm : σ → List (Str × Value)) (P : Nat → σ → Prop) (c₀ : σ) (frz : List (Addr × Obj))
    (W : Walks prog w A I fp [I] n PV St) (hfp : ∀ a ∈ fp, a = I ∨ ∃ p ∈ frz, p.1 = a) (hfr : ∀ c, ∀ p ∈ frz, p ∈ led c) (hob : ∀ i h, St i h → ∃ o, h.get? I = some o)
    (hIL : env.locals ≠ I) (hI0 : h₀.get? I = none) (hst : St 0 s.heap)
    (F : Fr h₀ env.locals s.heap m₀) (N : News h₀ env.locals s.heap news) (hl : ∀ p ∈ led c₀, p ∈ news) (hnI : ∀ p ∈ led c₀, p.1 ≠ I) (hm : ∀ p ∈ fm c₀, m₀ p.1 = some p.2) (hp : P 0 c₀)
    (turn : ∀ i v (c : σ) (u : Str → Option Value) h tk oi, i < n → PV i v → P i c → (∀ p ∈ led c, p.1 ≠ I) → Fr h₀ env.locals h (fun y => if y = x then some v else kstB u (fm c) y) → News h₀ env.locals h ((I, oi) :: led c) →
      wpAny (model prog w) A (execs body env) (FoPost h₀ env.locals { s with heap := h, toks := tk } led fm (P (i + 1)) I oi Q) E { s with heap := h, toks := tk })
    (done : ∀ (c : σ) (u : Str → Option Value) h tk, P n c → Fr h₀ env.locals h (kstB u (fm c)) → News h₀ env.locals h (led c) → Q .next { s with heap := h, toks := tk }) :
    LoopAtV prog w A h₀ env x body Q E (.ref I) s := by
  refine ⟨I, fp, [I], n, PV, St, m₀, led c₀, (fun i m nx => ∃ c : σ, nx = led c ∧ (∀ p ∈ fm c, m p.1 = some p.2) ∧ P i c), rfl, W, ?_, ?_, ?_, hst, F, fun p hp => N p (hl p hp), ⟨c₀, rfl, hm, hp⟩, ?_, ?_⟩
  · intro q
    rcases hfp _ q with e | ⟨p, hp, e⟩
    · exact hIL e
    · exact (N p (hl p (hfr _ p hp))).2.1 e
  · intro b hb
    rw [List.mem_singleton.mp hb]; exact hI0
  · intro p hp q
    exact hnI p hp (List.mem_singleton.mp q)
  · rintro i v m₁ news₁ s₁ own ⟨hh', tk', rfl⟩ hin hP ⟨c, rfl, h1, hp'⟩ hoff hown hget hmem hst' F₁ N₁
    obtain ⟨oi, hoi⟩ := hob _ _ hst'
    have hIfp : I ∈ fp := W.sub I (.head _)
    have hIo : (I, oi) ∈ own := hmem I hIfp hI0 oi hoi
    have hne : ∀ p ∈ led c, p.1 ≠ I := fun p hp e => hoff p hp (List.mem_singleton.mpr e)
    have N₂ : News h₀ env.locals hh' ((I, oi) :: led c) := fun p hp => by
      rcases List.mem_cons.mp hp with rfl | hp
      · exact N₁ _ (List.mem_append.mpr (.inl hIo))
      · exact N₁ _ (List.mem_append.mpr (.inr hp))
    refine wpAny_mono (turn i v c m₁ hh' tk' oi hin hP hp' hne (by rw [kst_self h1]; exact F₁) N₂) (fun f s₂ p => ?_) fun _ _ e => e
    have fin : FoEnd h₀ env.locals { s with heap := hh', toks := tk' } led fm (P (i + 1)) I oi s₂ → LoopStepU h₀ env.locals [I] own (fun m nx => ∃ c : σ, nx = led c ∧ (∀ p ∈ fm c, m p.1 = some p.2) ∧ P (i + 1) c) { s with heap := hh', toks := tk' } .next s₂ := by
      rintro ⟨c', h', tk, m', news', e, F', N', hn, hI, hnI', hm', hp9⟩
      refine ⟨rfl, h', tk, m', led c', e, F', fun p hp => ?_, fun p hp q => hnI' p hp (List.mem_singleton.mp q), c', rfl, hm', hp9⟩
      rcases List.mem_append.mp hp with hp | hp
      · have g1 := hget p hp
        rcases hfp _ (hown p hp) with e1 | ⟨q, hq, e1⟩
        · have : p = (I, oi) := Prod.ext e1 (by rw [e1, hoi] at g1; exact (Option.some.inj g1).symm)
          rw [this]; exact N' _ hI
        · have g2 := (N₂ q (.tail _ (hfr c q hq))).1
          have : p = q := Prod.ext e1.symm (by rw [← e1, g2] at g1; exact (Option.some.inj g1).symm)
          rw [this]; exact N' _ (hn _ (hfr c' q hq))
      · exact N' _ (hn p hp)
    cases f with
    | ret v => exact .ret p
    | brk => exact .brk p
    | next => exact .next (fin p)
    | cont => exact .cont (fin p)
  · rintro h' tk m' news' F' N' _ ⟨c, rfl, h1, hp'⟩
    exact done c m' h' tk hp' (by rw [kst_self h1]; exact F') N'

noncomputable def Ne1 (a : Nat) : List (Addr × Obj) → Prop
  | [] => True
  | p :: r => @Ne Nat p.1 a ∧ Ne1 a r
theorem ne1_of {a : Addr} : ∀ {l : List (Addr × Obj)}, (∀ p ∈ l, p.1 ≠ a) → Ne1 a l
  | [], _ => trivial
  | p :: _, h => ⟨h p (.head _), ne1_of fun q hq => h q (.tail _ hq)⟩
theorem ne1_all {a : Addr} : ∀ {l : List (Addr × Obj)}, Ne1 a l → ∀ p ∈ l, p.1 ≠ a
  | [], _, _, hp => (nomatch hp)
  | q :: r, h, p, hp => by
    rcases List.mem_cons.mp hp with rfl | hp
    · exact h.1
    · exact ne1_all h.2 p hp

theorem for_listM {σ : Type} {l : Addr} {vs : List Value} {ns : List Int} {nn : Nat} {m₀ : Str → Option Value} {news : List (Addr × Obj)}
    (led : σ → List (Addr × Obj)) (fm : σ → List (Str × Value)) (P : Nat → σ → Prop) (c₀ : σ)
    (hh : A.handled = none) (hin : ∀ c, (l, listOf vs.toArray nn) ∈ led c) (hi : IntsAre vs ns)
    (F : Fr h₀ env.locals s.heap m₀) (N : News h₀ env.locals s.heap news) (hl : ∀ p ∈ led c₀, p ∈ news) (hm : ∀ p ∈ fm c₀, m₀ p.1 = some p.2) (hp : P 0 c₀)
    (turn : ∀ (i : Nat) (k : Int) t (c : σ) (u : Str → Option Value) h tk (I : Addr) oi, ns[i]? = some k → i < ns.length → P i c → Ne1 I (led c) → Fr h₀ env.locals h (fun y => if y = x then some (.int k t) else kstB u (fm c) y) → News h₀ env.locals h ((I, oi) :: led c) →
      wpAny (model prog w) A (execs body env) (FoPost h₀ env.locals { s with heap := h, toks := tk } led fm (P (i + 1)) I oi Q) E { s with heap := h, toks := tk })
    (done : ∀ (c : σ) (u : Str → Option Value) h tk, P ns.length c → Fr h₀ env.locals h (kstB u (fm c)) → News h₀ env.locals h (led c) → Q .next { s with heap := h, toks := tk }) :
    wpAny (model prog w) A (pyIter (.ref l)) (fun it s₂ => LoopAtV prog w A h₀ env x body Q E it s₂) E s := by
  have N0 : News h₀ env.locals s.heap (led c₀) := fun p hp => N p (hl p hp)
  have hol : s.heap.get? l = some (listOf vs.toArray nn) := (N0 _ (hin _)).1
  have hls : s.heap.IsList l vs.toArray := ⟨_, hol, rfl, nn, rfl⟩
  have hne : l ≠ s.heap.objs.size := Nat.ne_of_lt (Heap.lt_size hol)
  refine wpAny_pyIter_list hls ?_
  have W := Walks.list (prog := prog) (w := w) hh s.heap.objs.size l hne vs.toArray
  have hlen : vs.toArray.size = ns.length := by simp [hi.length]
  rw [hlen] at W
  refine for_M led fm P c₀ [(l, listOf vs.toArray nn)] W ?_ ?_ ?_ ?_ (next_is_new F) ⟨⟨_, Heap.get?_push_size _ rfl, rfl, rfl⟩, hls.at fun o e => Heap.get?_push_of_some _ e⟩ (F.push _) (fun p hp => ⟨Heap.get?_push_of_some _ (N p hp).1, (N p hp).2⟩) hl ?_ hm hp ?_ done
  · intro a ha
    rcases List.mem_cons.mp ha with e | ha
    · exact .inl e
    · exact .inr ⟨_, .head _, (List.mem_singleton.mp ha).symm⟩
  · intro c p hp
    rw [List.mem_singleton.mp hp]; exact hin c
  · rintro i h ⟨⟨o, ho, _⟩, _⟩
    exact ⟨o, ho⟩
  · intro e
    exact absurd F.ns.lt (by rw [e]; exact Nat.lt_irrefl _)
  · intro p hp e
    exact absurd (Heap.lt_size (N0 p hp).1) (by rw [e]; exact Nat.lt_irrefl _)
  · intro i v c u h tk oi hi' hP hp' hne' F₁ N₁
    obtain ⟨t, hx⟩ := hi.get i ns[i] (by simp [hi'])
    have hv : v = .int ns[i] t := by
      have hP' : vs[i]? = some v := by simpa using hP
      rw [hx] at hP'; exact (Option.some.inj hP').symm
    subst hv
    exact turn i _ t c u h tk _ oi (by simp [hi']) hi' hp' (ne1_of hne') F₁ N₁

theorem for_rangeM {σ : Type} {r : Addr} {a₀ b₀ c₁ : Int} {t₀ u₀ v₀ : Tok} {n : Nat} {m₀ : Str → Option Value} {news : List (Addr × Obj)}
    (led : σ → List (Addr × Obj)) (fm : σ → List (Str × Value)) (P : Nat → σ → Prop) (c₀ : σ)
    (hh : A.handled = none) (hr : IsRange s.heap r a₀ b₀ c₁ t₀ u₀ v₀) (hsmall : Builtin.Range.small a₀ b₀ c₁ = true) (hn : Builtin.Range.rangeSize a₀ b₀ c₁ = (n : Int))
    (F : Fr h₀ env.locals s.heap m₀) (N : News h₀ env.locals s.heap news) (hl : ∀ p ∈ led c₀, p ∈ news) (hm : ∀ p ∈ fm c₀, m₀ p.1 = some p.2) (hp : P 0 c₀)
    (turn : ∀ (i : Nat) t (c : σ) (u : Str → Option Value) h tk (I : Addr) oi, i < n → P i c → Ne1 I (led c) → Fr h₀ env.locals h (fun y => if y = x then some (.int (a₀ + i * c₁) t) else kstB u (fm c) y) → News h₀ env.locals h ((I, oi) :: led c) →
      wpAny (model prog w) A (execs body env) (FoPost h₀ env.locals { s with heap := h, toks := tk } led fm (P (i + 1)) I oi Q) E { s with heap := h, toks := tk })
    (done : ∀ (c : σ) (u : Str → Option Value) h tk, P n c → Fr h₀ env.locals h (kstB u (fm c)) → News h₀ env.locals h (led c) → Q .next { s with heap := h, toks := tk }) :
    wpAny (model prog w) A (pyIter (.ref r)) (fun it s₂ => LoopAtV prog w A h₀ env x body Q E it s₂) E s := by
  have N0 : News h₀ env.locals s.heap (led c₀) := fun p hp => N p (hl p hp)
  refine wpAny_pyIter_range hr hsmall ?_
  have W : Walks prog w A s.heap.objs.size [s.heap.objs.size] [s.heap.objs.size] n (fun i v => ∃ t, v = .int (a₀ + i * c₁) t)
      (fun i h => IsRangeIter h s.heap.objs.size (a₀ + (i : Nat) * c₁) ((n : Int) - (i : Nat)) c₁) := Walks.range hh _ a₀ c₁ n
  refine for_M led fm P c₀ [] W ?_ ?_ ?_ ?_ (next_is_new F) (by show IsRangeIter _ _ _ _ _; rw [hn]; simpa using Heap.get?_push_size _ rfl) (F.push _) (fun p hp => ⟨Heap.get?_push_of_some _ (N p hp).1, (N p hp).2⟩) hl ?_ hm hp ?_ done
  · intro a ha
    exact .inl (List.mem_singleton.mp ha)
  · intro c p hp; nomatch hp
  · rintro i h hi
    exact ⟨_, hi⟩
  · intro e
    exact absurd F.ns.lt (by rw [e]; exact Nat.lt_irrefl _)
  · intro p hp e
    exact absurd (Heap.lt_size (N0 p hp).1) (by rw [e]; exact Nat.lt_irrefl _)
  · rintro i v c u h tk oi hi' ⟨t, rfl⟩ hp' hne' F₁ N₁
    exact turn i t c u h tk _ oi hi' hp' (ne1_of hne') F₁ N₁

section
variable {w : World} {mean : ExcName → Option Value} {mg mb : Str → Option Value} {f : Addr} {dn un : Nat} {vs : List Value} {led news : List (Addr × Obj)}
    {dp u : Nat} {gd : Option (List Code)} {cn : Str} {cs : Scope} {L a : Addr} {ccd : Value} {cl : List (Str × Addr)} {outer : List Env} {A₀ : Around} {base h₀ : Heap} {m : Str → Option Value} {s : Shared} {Q E : Value → Shared → Prop}

noncomputable abbrev tupOf (its : Array Value) : Obj := { cls := .type "tuple", data := .seq its }
noncomputable def OutL (xs : List Int) (tl : List (Addr × Obj)) (v : Value) : Prop := ∃ a vs n, tl = [(a, listOf vs.toArray n)] ∧ v = .ref a ∧ IntsAre vs xs
noncomputable def OutI (k : Int) (tl : List (Addr × Obj)) (v : Value) : Prop := tl = [] ∧ ∃ t, v = .int k t
noncomputable def OutB (k : Bool) (tl : List (Addr × Obj)) (v : Value) : Prop := tl = [] ∧ v = .bool k
/-- a pair: a list and an int -/
noncomputable def OutLI (xs : List Int) (k : Int) (tl : List (Addr × Obj)) (v : Value) : Prop := ∃ p a vs n t, tl = [(p, tupOf #[.ref a, .int k t]), (a, listOf vs.toArray n)] ∧ v = .ref p ∧ IntsAre vs xs ∧ @Ne Nat p a
/-- a pair of lists -/
noncomputable def OutLL (xs ys : List Int) (tl : List (Addr × Obj)) (v : Value) : Prop := ∃ p a b vs n ws k, tl = [(p, tupOf #[.ref a, .ref b]), (a, listOf vs.toArray n), (b, listOf ws.toArray k)] ∧ v = .ref p ∧ IntsAre vs xs ∧ IntsAre ws ys ∧ @Ne Nat p a ∧ @Ne Nat p b ∧ @Ne Nat a b

theorem use_L {xs : List Int} (D : Does w mean mg mb f dn un vs led (OutL xs))
    (B : Below A₀ base outer h₀) (F : Fr h₀ L s.heap m) (X : (hd.heap_39 w.params).In h₀) (N : News h₀ L s.heap news) (T : Top hd.view_39 (looseW hd.view_39 []) mean mg mb h₀) (hk : cs.kind = .function) (hs : ∀ p ∈ led, p ∈ news)
    (hd : dp + dn < recursionLimit) (hu : u + un < cLine)
    (ret : ∀ a vs n h' tk', Fr h₀ L h' m → News h₀ L h' ((a, listOf vs.toArray n) :: news) → Ne1 a news → IntsAre vs xs → Q (.ref a) { s with heap := h', toks := tk' }) :
    wpAny (model PySem.Challenge.rw_pq0537_01.row.prog w) (ktrTop dp u gd cn cs L a ccd cl outer) (call (.ref f) vs) Q E s := by
  refine does_use D B F X N T hk hs hd hu ?_
  rintro r tl h' tk' F' N' hne ⟨a, vs, n, rfl, rfl, hi⟩
  exact ret a vs n h' tk' F' N' (ne1_of fun q hq => hne _ (.head _) q hq) hi
theorem use_I {k : Int} (D : Does w mean mg mb f dn un vs led (OutI k))
    (B : Below A₀ base outer h₀) (F : Fr h₀ L s.heap m) (X : (hd.heap_39 w.params).In h₀) (N : News h₀ L s.heap news) (T : Top hd.view_39 (looseW hd.view_39 []) mean mg mb h₀) (hk : cs.kind = .function) (hs : ∀ p ∈ led, p ∈ news)
    (hd : dp + dn < recursionLimit) (hu : u + un < cLine)
    (ret : ∀ t h' tk', Fr h₀ L h' m → News h₀ L h' news → Q (.int k t) { s with heap := h', toks := tk' }) :
    wpAny (model PySem.Challenge.rw_pq0537_01.row.prog w) (ktrTop dp u gd cn cs L a ccd cl outer) (call (.ref f) vs) Q E s := by
  refine does_use D B F X N T hk hs hd hu ?_
  rintro r tl h' tk' F' N' hne ⟨rfl, t, rfl⟩
  exact ret t h' tk' F' N'
theorem use_B {k : Bool} (D : Does w mean mg mb f dn un vs led (OutB k))
    (B : Below A₀ base outer h₀) (F : Fr h₀ L s.heap m) (X : (hd.heap_39 w.params).In h₀) (N : News h₀ L s.heap news) (T : Top hd.view_39 (looseW hd.view_39 []) mean mg mb h₀) (hk : cs.kind = .function) (hs : ∀ p ∈ led, p ∈ news)
    (hd : dp + dn < recursionLimit) (hu : u + un < cLine)
    (ret : ∀ h' tk', Fr h₀ L h' m → News h₀ L h' news → Q (.bool k) { s with heap := h', toks := tk' }) :
    wpAny (model PySem.Challenge.rw_pq0537_01.row.prog w) (ktrTop dp u gd cn cs L a ccd cl outer) (call (.ref f) vs) Q E s := by
  refine does_use D B F X N T hk hs hd hu ?_
  rintro r tl h' tk' F' N' hne ⟨rfl, rfl⟩
  exact ret h' tk' F' N'
theorem use_LI {xs : List Int} {k : Int} (D : Does w mean mg mb f dn un vs led (OutLI xs k))
    (B : Below A₀ base outer h₀) (F : Fr h₀ L s.heap m) (X : (hd.heap_39 w.params).In h₀) (N : News h₀ L s.heap news) (T : Top hd.view_39 (looseW hd.view_39 []) mean mg mb h₀) (hk : cs.kind = .function) (hs : ∀ p ∈ led, p ∈ news)
    (hd : dp + dn < recursionLimit) (hu : u + un < cLine)
    (ret : ∀ p a vs n t h' tk', Fr h₀ L h' m → News h₀ L h' ((p, tupOf #[.ref a, .int k t]) :: (a, listOf vs.toArray n) :: news) → Ne1 p news → Ne1 a news → @Ne Nat p a → IntsAre vs xs → Q (.ref p) { s with heap := h', toks := tk' }) :
    wpAny (model PySem.Challenge.rw_pq0537_01.row.prog w) (ktrTop dp u gd cn cs L a ccd cl outer) (call (.ref f) vs) Q E s := by
  refine does_use D B F X N T hk hs hd hu ?_
  rintro r tl h' tk' F' N' hne ⟨p, a, vs, n, t, rfl, rfl, hi, hpa⟩
  exact ret p a vs n t h' tk' F' N' (ne1_of fun q hq => hne _ (.head _) q hq) (ne1_of fun q hq => hne _ (.tail _ (.head _)) q hq) hpa hi
theorem use_LL {xs ys : List Int} (D : Does w mean mg mb f dn un vs led (OutLL xs ys))
    (B : Below A₀ base outer h₀) (F : Fr h₀ L s.heap m) (X : (hd.heap_39 w.params).In h₀) (N : News h₀ L s.heap news) (T : Top hd.view_39 (looseW hd.view_39 []) mean mg mb h₀) (hk : cs.kind = .function) (hs : ∀ p ∈ led, p ∈ news)
    (hd : dp + dn < recursionLimit) (hu : u + un < cLine)
    (ret : ∀ p a b vs n ws k h' tk', Fr h₀ L h' m → News h₀ L h' ((p, tupOf #[.ref a, .ref b]) :: (a, listOf vs.toArray n) :: (b, listOf ws.toArray k) :: news) → Ne1 p news → Ne1 a news → Ne1 b news → @Ne Nat p a → @Ne Nat p b → @Ne Nat a b → IntsAre vs xs → IntsAre ws ys → Q (.ref p) { s with heap := h', toks := tk' }) :
    wpAny (model PySem.Challenge.rw_pq0537_01.row.prog w) (ktrTop dp u gd cn cs L a ccd cl outer) (call (.ref f) vs) Q E s := by
  refine does_use D B F X N T hk hs hd hu ?_
  rintro r tl h' tk' F' N' hne ⟨p, a, b, vs, n, ws, k, rfl, rfl, hi, hj, h1, h2, h3⟩
  exact ret p a b vs n ws k h' tk' F' N' (ne1_of fun q hq => hne _ (.head _) q hq) (ne1_of fun q hq => hne _ (.tail _ (.head _)) q hq) (ne1_of fun q hq => hne _ (.tail _ (.tail _ (.head _))) q hq) h1 h2 h3 hi hj
end

theorem ints_snoc {vs : List Value} {xs : List Int} {k : Int} {t : Tok} (h : IntsAre vs xs) : IntsAre (vs ++ [.int k t]) (xs ++ [k]) := IntsAre.append h (.cons _ _ .nil)

noncomputable def LtP (n : Int) (k : Nat) : Prop := n < 2 ^ k
theorem LtP.le {n m : Int} {k : Nat} (h : LtP n k) (hm : m ≤ n) : LtP m k := Int.lt_of_le_of_lt hm h
theorem LtP.abs {n : Int} {k : Nat} (h0 : 0 ≤ n) (h : LtP n k) : n.natAbs < 2 ^ k := by
  have h' : n < 2 ^ k := h
  have e : ((2 ^ k : Nat) : Int) = (2 : Int) ^ k := by push_cast; rfl
  rw [← e] at h'
  omega
theorem LtP.of_abs {n : Int} {k : Nat} (h : n.natAbs < 2 ^ k) : LtP n k := by
  have e : ((2 ^ k : Nat) : Int) = (2 : Int) ^ k := by push_cast; rfl
  show n < 2 ^ k
  rw [← e]
  omega
theorem LtP.up {n : Int} {k j : Nat} (h : LtP n k) (hk : k ≤ j) : LtP n j := by
  have h1 : 2 ^ k ≤ 2 ^ j := Nat.pow_le_pow_right (by omega) hk
  have h2 : n < 2 ^ k := h
  have e : ((2 ^ k : Nat) : Int) = (2 : Int) ^ k := by push_cast; rfl
  have e' : ((2 ^ j : Nat) : Int) = (2 : Int) ^ j := by push_cast; rfl
  show n < 2 ^ j
  omega
theorem LtP.mul {a b : Int} {j k : Nat} (ha0 : 0 ≤ a) (hb0 : 0 ≤ b) (ha : LtP a j) (hb : LtP b k) : LtP (a * b) (j + k) := by
  refine LtP.of_abs ?_
  rw [Int.natAbs_mul, Nat.pow_add]
  exact Nat.mul_lt_mul'' (LtP.abs ha0 ha) (LtP.abs hb0 hb)
theorem LtP.add {a b : Int} {j : Nat} (ha : LtP a j) (hb : LtP b j) : LtP (a + b) (j + 1) := by
  have h1 : a < 2 ^ j := ha
  have h2 : b < 2 ^ j := hb
  show a + b < 2 ^ (j + 1)
  rw [Int.pow_succ]; omega
theorem LtP.log {n : Int} {k : Nat} (h0 : 0 ≤ n) (h : LtP n k) (hk : 0 < k) : n.natAbs.log2 < k := by
  have := LtP.abs h0 h
  by_cases e : n.natAbs = 0
  · rw [e]; simpa using hk
  · exact (Nat.log2_lt e).mpr this
theorem lsh_ok {a n : Int} (h0 : 0 ≤ a) (h : LtP a 2000) (hn : n ≤ 2000) : (Builtin.Int.intBits a : Int) + n ≤ 2 ^ 27 := by
  have := intBits_le_iff.mpr (LtP.abs h0 h)
  have e : (2 : Int) ^ 27 = 134217728 := by decide
  rw [e]; omega
theorem mul_ok {a b : Int} (ha0 : 0 ≤ a) (ha : LtP a 2000) (hb0 : 0 ≤ b) (hb : LtP b 2000) : IntMulOk a b :=
  IntMulOk.of_le (intBits_le_iff.mpr (LtP.abs ha0 ha)) (intBits_le_iff.mpr (LtP.abs hb0 hb)) (by omega)
theorem div_ok {a b : Int} (hb0 : 0 ≤ b) (hb : LtP b 2000) : Builtin.divisionGoesByPylong a b = false := noPylong_of_log2 (Nat.lt_of_lt_of_le (LtP.log hb0 hb (by omega)) (by omega))
theorem wh_end {σ : Type} {L : Addr} {led : σ → List (Addr × Obj)} {fm : σ → List (Str × Value)} {P : σ → Prop} {μ : σ → Nat} {k : Nat} {h' : Heap} {tk : Nat} {m' : Str → Option Value} {news' : List (Addr × Obj)} (c' : σ)
    (F : Fr h₀ L h' m') (N : News h₀ L h' news') (hl : ∀ p ∈ led c', p ∈ news') (hm : ∀ p ∈ fm c', m' p.1 = some p.2) (hp : P c') (hmu : μ c' < k) :
    WhPost h₀ L s led fm P μ Q k .next { s with heap := h', toks := tk } := ⟨c', h', tk, m', news', rfl, F, N, hl, hm, hp, hmu⟩
theorem fo_end {σ : Type} {L : Addr} {led : σ → List (Addr × Obj)} {fm : σ → List (Str × Value)} {P : σ → Prop} {I : Addr} {oi : Obj} {h' : Heap} {tk : Nat} {m' : Str → Option Value} {news' : List (Addr × Obj)} (c' : σ)
    (F : Fr h₀ L h' m') (N : News h₀ L h' news') (hl : ∀ p ∈ led c', p ∈ news') (hI : (I, oi) ∈ news') (hn : ∀ p ∈ led c', p.1 ≠ I) (hm : ∀ p ∈ fm c', m' p.1 = some p.2) (hp : P c') :
    FoPost h₀ L s led fm P I oi Q .next { s with heap := h', toks := tk } := ⟨c', h', tk, m', news', rfl, F, N, hl, hI, hn, hm, hp⟩
theorem endM_of {s : Shared} {g : Heap} {L' : Addr} {news tl news' : List (Addr × Obj)} {Out : List (Addr × Obj) → Value → Prop} {v : Value} {h' : Heap} {tk : Nat} {m' : Str → Option Value}
    (F : Fr g L' h' m') (N : News g L' h' news') (hn : ∀ p ∈ news, p ∈ news') (ht : ∀ p ∈ tl, p ∈ news') (ho : ∀ p ∈ tl, ∀ q ∈ news, q.1 ≠ p.1) (out : Out tl v) : EndM s g L' news Out v { s with heap := h', toks := tk } :=
  ⟨h', tk, m', news', tl, rfl, F, N, hn, ht, ho, out⟩
end
theorem room1 {d D R k : Nat} (h : d + D < R) (hk : k + 1 ≤ D) : d + 1 + k < R := by omega
theorem room3 {d D R k : Nat} (h : d + D < R) (hk : k + 3 ≤ D) : d + 3 + k < R := by omega
end Mine

end
section
open PySem PySem.W PySem.Calls PyProof PyProof.Rows
namespace Mine
theorem div_lt {n B : Int} (h : 0 < n) (hB : 1 < B) : n / B < n := Int.ediv_lt_of_lt_mul (by omega) (by
  have : n * 1 < n * B := Int.mul_lt_mul_of_pos_left hB h
  omega)
noncomputable def limF (B : Int) : Nat → Int → List Int
  | 0, _ => []
  | k + 1, n => if 0 < n then (n % B) :: limF B k (n / B) else []
@[irreducible] noncomputable def limZ (B : Int) (n : Int) : List Int := limF B n.toNat n
theorem limF_neg {B : Int} : ∀ (j : Nat) {n : Int}, ¬ 0 < n → limF B j n = []
  | 0, _, _ => rfl
  | _ + 1, _, h => if_neg h
theorem limF_eq {B : Int} (hB : 1 < B) : ∀ (k j : Nat) (n : Int), n ≤ (k : Int) → n ≤ (j : Int) → limF B k n = limF B j n := by
  intro k
  induction k with
  | zero => intro j n h _; rw [limF_neg 0 (Int.not_lt.mpr h), limF_neg j (Int.not_lt.mpr h)]
  | succ k ih =>
    intro j n hk hj
    by_cases hp : 0 < n
    · cases j with
      | zero => exact absurd hp (Int.not_lt.mpr hj)
      | succ j =>
        show (if 0 < n then (n % B) :: limF B k (n / B) else []) = (if 0 < n then (n % B) :: limF B j (n / B) else [])
        have h2 := div_lt hp hB
        rw [if_pos hp, if_pos hp, ih j (n / B) (Int.le_of_lt_add_one (Int.lt_of_lt_of_le h2 hk)) (Int.le_of_lt_add_one (Int.lt_of_lt_of_le h2 hj))]
    · rw [limF_neg _ hp, limF_neg _ hp]
theorem limZ_pos {B n : Int} (h : 0 < n) (hB : 1 < B) : limZ B n = (n % B) :: limZ B (n / B) := by
  have h1 := Int.self_le_toNat n
  unfold limZ
  rw [limF_eq hB n.toNat (n.toNat + 1) n h1 (Int.le_trans h1 (Int.le_add_one (Int.le_refl _)))]
  show (if 0 < n then (n % B) :: limF B n.toNat (n / B) else []) = _
  rw [if_pos h, limF_eq hB n.toNat (n / B).toNat (n / B) (Int.le_trans (Int.le_of_lt (div_lt h hB)) h1) (Int.self_le_toNat _)]
theorem limZ_neg {B n : Int} (h : ¬ 0 < n) : limZ B n = [] := by
  unfold limZ
  exact limF_neg _ h
theorem md0 {B : Int} (hB : 1 < B) (a : Int) : 0 ≤ a % B := Int.emod_nonneg _ (Int.ne_of_gt (Int.lt_trans Int.one_pos hB))
theorem md1 {B : Int} (hB : 1 < B) (a : Int) : a % B < B := Int.emod_lt_of_pos _ (Int.lt_trans Int.one_pos hB)
theorem dv0 {B a : Int} (hB : 1 < B) (h : 0 ≤ a) : 0 ≤ a / B := Int.ediv_nonneg h (Int.le_of_lt (Int.lt_trans Int.one_pos hB))
theorem lim_ind {B : Int} (hB : 1 < B) {P : Int → Prop} (h0 : P 0) (h1 : ∀ n, 0 < n → P (n / B) → P n) : ∀ n, 0 ≤ n → P n := by
  have all : ∀ k : Nat, ∀ n : Int, 0 ≤ n → n < (k : Int) → P n := by
    intro k
    induction k with
    | zero => intro n hn h; exact absurd hn (Int.not_le.mpr h)
    | succ k ih =>
      intro n hn hk
      by_cases hp : 0 < n
      · exact h1 n hp (ih _ (dv0 hB hn) (Int.lt_of_lt_of_le (div_lt hp hB) (Int.le_of_lt_add_one hk)))
      · have : n = 0 := Int.le_antisymm (Int.not_lt.mp hp) hn
        subst this; exact h0
  exact fun n hn => all (n.toNat + 1) n hn (Int.lt_add_one_of_le (Int.self_le_toNat n))
theorem limZ_len {B : Int} (hB : 1 < B) : ∀ (k : Nat) {n : Int}, LtP n k → (limZ B n).length ≤ k := by
  intro k
  induction k with
  | zero => intro n h; have h' : n < 2 ^ 0 := h; rw [limZ_neg (by simp at h'; omega)]; simp
  | succ k ih =>
    intro n h
    have h : n < 2 ^ (k + 1) := h
    by_cases hn : 0 < n
    · rw [limZ_pos hn hB, List.length_cons]
      refine Nat.succ_le_succ (ih ?_)
      have h1 : n / B ≤ n / 2 := by
        refine Int.le_ediv_of_mul_le (by omega) ?_
        have h2 : n / B * 2 ≤ n / B * B := Int.mul_le_mul_of_nonneg_left (by omega) (Int.ediv_nonneg (by omega) (by omega))
        have h3 := Int.ediv_mul_le n (b := B) (by omega)
        omega
      have : (2:Int) ^ (k+1) = 2 ^ k * 2 := Int.pow_succ _ _
      show n / B < 2 ^ k
      omega
    · rw [limZ_neg hn]; simp
theorem limZ_dig {B n : Int} (hB : 1 < B) (hn : 0 ≤ n) : ∀ x ∈ limZ B n, 0 ≤ x ∧ x < B := by
  refine lim_ind hB (P := fun n => ∀ x ∈ limZ B n, 0 ≤ x ∧ x < B) ?_ ?_ n hn
  · intro x hx; rw [limZ_neg (by omega)] at hx; cases hx
  · intro n hp ih x hx
    rw [limZ_pos hp hB] at hx
    rcases List.mem_cons.mp hx with rfl | hx
    · exact ⟨Int.emod_nonneg _ (by omega), Int.emod_lt_of_pos _ (by omega)⟩
    · exact ih x hx
theorem pow_posB {B : Int} (hB : 1 < B) (j : Nat) : 0 < B ^ j := Int.pow_pos (by omega)
theorem q_succ {B n : Int} (hB : 1 < B) (j : Nat) : n / B ^ (j + 1) = n / B ^ j / B := by
  have hp := pow_posB hB j
  rw [Int.ediv_ediv, if_neg (by omega), Int.pow_succ]; omega
theorem q_succ' {B n : Int} (hB : 1 < B) (j : Nat) : n / B ^ (j + 1) = n / B / B ^ j := by
  rw [Int.ediv_ediv, if_neg (by omega), Int.pow_succ, Int.mul_comm]; omega
theorem q_zero (B n : Int) : n / B ^ 0 = n := by rw [Int.pow_zero, Int.ediv_one]
theorem q_nonneg {B n : Int} (hB : 1 < B) (hn : 0 ≤ n) (j : Nat) : 0 ≤ n / B ^ j := Int.ediv_nonneg hn (Int.le_of_lt (pow_posB hB j))
theorem q_le {B n : Int} (hB : 1 < B) (hn : 0 ≤ n) (j : Nat) : n / B ^ j ≤ n := Int.ediv_le_self _ hn
theorem q_step {B n : Int} (hB : 1 < B) (j : Nat) : n / B ^ (j + 1) * B + n / B ^ j % B = n / B ^ j := by
  have := Int.mul_ediv_add_emod (n / B ^ j) B
  rw [q_succ hB, Int.mul_comm]; exact this
theorem lim_lt {B n : Int} (hB : 1 < B) (hn : 0 ≤ n) : ∀ j, j < (limZ B n).length ↔ 0 < n / B ^ j := by
  refine lim_ind hB (P := fun n => ∀ j, j < (limZ B n).length ↔ 0 < n / B ^ j) ?_ ?_ n hn
  · intro j; rw [limZ_neg (by omega)]; simp
  · intro n hp ih j
    rw [limZ_pos hp hB]
    cases j with
    | zero => rw [q_zero]; simp; exact hp
    | succ j => rw [List.length_cons, Nat.add_lt_add_iff_right, ih, q_succ' hB]
theorem lim_get {B n : Int} (hB : 1 < B) (hn : 0 ≤ n) : ∀ j, j < (limZ B n).length → (limZ B n)[j]? = some (n / B ^ j % B) := by
  refine lim_ind hB (P := fun n => ∀ j, j < (limZ B n).length → (limZ B n)[j]? = some (n / B ^ j % B)) ?_ ?_ n hn
  · intro j h; rw [limZ_neg (by omega)] at h; simp at h
  · intro n hp ih j h
    rw [limZ_pos hp hB] at h ⊢
    cases j with
    | zero => rw [q_zero]; simp
    | succ j =>
      rw [List.length_cons, Nat.add_lt_add_iff_right] at h
      rw [List.getElem?_cons_succ, ih j h, q_succ' hB]
theorem lim_end {B n : Int} (hB : 1 < B) (hn : 0 ≤ n) : n / B ^ (limZ B n).length = 0 := by
  have h := mt (lim_lt hB hn (limZ B n).length).mpr (Nat.lt_irrefl _)
  have := q_nonneg hB hn (limZ B n).length
  omega
theorem lim_rget {B n : Int} (hB : 1 < B) (hn : 0 ≤ n) {i : Nat} {k : Int} (h : (limZ B n).reverse[i]? = some k) : i < (limZ B n).length ∧ k = n / B ^ ((limZ B n).length - 1 - i) % B := by
  have hi : i < (limZ B n).length := by
    rcases Nat.lt_or_ge i (limZ B n).length with h1 | h1
    · exact h1
    · rw [List.getElem?_eq_none_iff.mpr (by simpa using h1)] at h; cases h
  rw [List.getElem?_reverse hi, lim_get hB hn _ (by omega)] at h
  exact ⟨hi, (Option.some.inj h).symm⟩
theorem pow2_gt {W : Int} (hW : 1 ≤ W) : (1 : Int) < 2 ^ W.toNat := by
  obtain ⟨j, rfl⟩ := Int.le.dest hW
  have e : ((1 : Int) + (j : Int)).toNat = j + 1 := (Int.toNat_natCast (1 + j)).trans (Nat.add_comm 1 j)
  have h : (0 : Int) < 2 ^ j := Int.pow_pos (by decide)
  rw [e, Int.pow_succ]
  exact Int.lt_of_lt_of_le (b := 1 * 2) (by decide) (Int.mul_le_mul_of_nonneg_right h (by decide))
theorem fdiv_e {a b : Int} (hb : 0 ≤ b) : a.fdiv b = a / b := Int.fdiv_eq_ediv_of_nonneg _ hb
theorem fmod_e {a b : Int} (hb : 0 ≤ b) : a.fmod b = a % b := Int.fmod_eq_emod_of_nonneg _ hb
theorem fdB {B : Int} (hB : 1 < B) (a : Int) : a.fdiv B = a / B := fdiv_e (Int.le_of_lt (Int.lt_trans Int.one_pos hB))
theorem fmB {B : Int} (hB : 1 < B) (a : Int) : a.fmod B = a % B := fmod_e (Int.le_of_lt (Int.lt_trans Int.one_pos hB))
theorem or_add {r d : Int} {k : Nat} (hr : 0 ≤ r) (hd : 0 ≤ d) (hd2 : d < 2 ^ k) : Builtin.bitOr (r * 2 ^ k) d = r * 2 ^ k + d := by
  have e : ((2 ^ k : Nat) : Int) = (2 : Int) ^ k := by push_cast; rfl
  obtain ⟨a, rfl⟩ := Int.eq_ofNat_of_zero_le hr
  obtain ⟨b, rfl⟩ := Int.eq_ofNat_of_zero_le hd
  have hb : b < 2 ^ k := by rw [← e] at hd2; exact Int.ofNat_lt.mp hd2
  rw [← e, ← Int.natCast_mul, bitOr_and, bitAnd_pp (Int.natCast_nonneg _) (Int.natCast_nonneg _), Int.toNat_natCast, Int.toNat_natCast]
  have h1 : a * 2 ^ k &&& b = 0 := by
    refine Nat.eq_of_testBit_eq fun i => ?_
    rw [Nat.testBit_and, Nat.zero_testBit, Nat.testBit_mul_two_pow]
    by_cases hi : k ≤ i
    · rw [Nat.testBit_lt_two_pow (Nat.lt_of_lt_of_le hb (Nat.pow_le_pow_right (by omega) hi))]; simp
    · simp [hi]
  rw [h1]; omega
theorem sz_of {vs : List Value} {xs : List Int} (h : IntsAre vs xs) {k : Nat} (hk : xs.length ≤ k) (h2 : k ≤ 100000) : vs.toArray.size ≤ sizeLine := by
  have := h.length
  rw [List.size_toArray, sizeLine_eq]; omega
theorem rs0 {a : Nat} : Builtin.Range.rangeSize 0 (a : Int) 1 = (a : Int) := by rw [rangeSize_nat, Int.sub_zero, Int.toNat_natCast]
theorem rs_sub {a b d : Nat} (h : a = b + d) : Builtin.Range.rangeSize (b : Int) (a : Int) 1 = (d : Int) := by
  rw [rangeSize_nat, h, Int.natCast_add, Int.add_comm, Int.add_sub_cancel, Int.toNat_natCast]
theorem lt62 {k : Nat} (h : k ≤ 1000) : (k : Int) < 2 ^ 62 := Int.lt_of_le_of_lt (Int.ofNat_le.mpr h) (by decide)
theorem ge62 {k : Nat} : -(2 ^ 62) ≤ (k : Int) := Int.le_trans (by decide) (Int.natCast_nonneg k)
theorem small_nat {a b : Nat} (ha : a ≤ 1000) (hb : b ≤ 1000) : Builtin.Range.small (a : Int) (b : Int) 1 = true := small_one ge62 (lt62 ha) ge62 (lt62 hb)
theorem small_0 {b : Nat} (hb : b ≤ 1000) : Builtin.Range.small 0 (b : Int) 1 = true := small_nat (a := 0) (Nat.zero_le _) hb
/-- one turn of a carry -/
theorem carry0 {B T R S M n : Int} {xs : List Int} (hB : 1 < B) (hT : 0 < T) (hs0 : 0 ≤ S) (hs2 : S < M * B) (e : T = S + R * B) (hx : xs ++ limZ B T = limZ B n) :
    0 ≤ S / B ∧ S / B < M ∧ (xs ++ [S % B]) ++ limZ B (R + S / B) = limZ B n := by
  have hB0 : 0 < B := Int.lt_trans Int.one_pos hB
  refine ⟨dv0 hB hs0, Int.ediv_lt_of_lt_mul hB0 hs2, ?_⟩
  rw [← hx, limZ_pos hT hB, e, Int.add_mul_emod_self_right, Int.add_mul_ediv_right _ _ (Int.ne_of_gt hB0), Int.add_comm R, List.append_assoc]
  rfl
theorem carry2 {B Y Z Y' Z' d e x n : Int} {xs : List Int} (hB : 1 < B) (hY : 0 < Y) (hZ : 0 ≤ Z) (q1 : Y' * B + d = Y) (q2 : Z' * B + e = Z) (d0 : 0 ≤ d) (d1 : d < B) (e0 : 0 ≤ e) (e1 : e < B) (x0 : 0 ≤ x) (x1 : x ≤ 1) (hx : xs ++ limZ B (Y + Z + x) = limZ B n) :
    0 ≤ (x + (d + e)) / B ∧ (x + (d + e)) / B < 1 + 1 ∧ (xs ++ [(x + (d + e)) % B]) ++ limZ B (Y' + Z' + (x + (d + e)) / B) = limZ B n :=
  carry0 hB (Int.add_pos_of_pos_of_nonneg (Int.add_pos_of_pos_of_nonneg hY hZ) x0) (Int.add_nonneg x0 (Int.add_nonneg d0 e0)) (by clear hx q1 q2; omega) (by rw [Int.add_mul, ← q1, ← q2]; ac_rfl) hx
theorem carry1 {B Y Y' d x n : Int} {xs : List Int} (hB : 1 < B) (hY : 0 < Y) (q1 : Y' * B + d = Y) (d0 : 0 ≤ d) (d1 : d < B) (x0 : 0 ≤ x) (x1 : x ≤ 1) (hx : xs ++ limZ B (Y + x) = limZ B n) :
    0 ≤ (x + d) / B ∧ (x + d) / B < 1 + 1 ∧ (xs ++ [(x + d) % B]) ++ limZ B (Y' + (x + d) / B) = limZ B n :=
  carry0 hB (Int.add_pos_of_pos_of_nonneg hY x0) (Int.add_nonneg x0 d0) (by clear hx q1; omega) (by rw [← q1]; ac_rfl) hx
theorem carryM {B Y Y' k c x n : Int} {xs : List Int} (hB : 1 < B) (hY : 0 < Y) (hc : 0 < c) (hcB : c < B) (q : Y' * B + k = Y) (k0 : 0 ≤ k) (k1 : k < B) (x0 : 0 ≤ x) (x1 : x < B) (hx : xs ++ limZ B (Y * c + x) = limZ B n) :
    0 ≤ (x + k * c) / B ∧ (x + k * c) / B < B ∧ (xs ++ [(x + k * c) % B]) ++ limZ B (Y' * c + (x + k * c) / B) = limZ B n := by
  have h1 : (k + 1) * c ≤ B * c := Int.mul_le_mul_of_nonneg_right k1 (Int.le_of_lt hc)
  have h2 : B * (c + 1) ≤ B * B := Int.mul_le_mul_of_nonneg_left hcB (Int.le_of_lt (Int.lt_trans Int.one_pos hB))
  rw [Int.add_mul, Int.one_mul] at h1
  rw [Int.mul_add, Int.mul_one] at h2
  exact carry0 hB (Int.add_pos_of_pos_of_nonneg (Int.mul_pos hY hc) x0) (Int.add_nonneg x0 (Int.mul_nonneg k0 (Int.le_of_lt hc))) (by clear hx q; omega) (by rw [← q, Int.add_mul, Int.mul_right_comm Y' B c]; ac_rfl) hx
theorem tn_lt {a b : Int} (h : a < b) (hb : 0 < b) : a.toNat < b.toNat := (Int.toNat_lt_toNat hb).mpr h
theorem sub_s {L i : Nat} (h : i < L) : L - i = L - (i + 1) + 1 := (Nat.succ_pred_eq_of_pos (Nat.sub_pos_of_lt h)).symm
theorem sub_s1 (L i : Nat) : L - 1 - i = L - (i + 1) := by rw [Nat.sub_sub, Nat.add_comm]
theorem mdc0 {c : Int} (hc : 0 < c) (a : Int) : 0 ≤ a % c := Int.emod_nonneg _ (Int.ne_of_gt hc)
theorem lim_zero {B m : Int} (hB : 1 < B) (hm : 0 ≤ m) (h : ¬ 0 < (limZ B m).length) : m = 0 := by
  have h1 := mt (lim_lt hB hm 0).mpr h
  rw [q_zero] at h1
  exact Int.le_antisymm (Int.not_lt.mp h1) hm
theorem lt_small {c B : Int} (h : c < B) (hB : B ≤ 256) : c < 65536 := Int.lt_of_lt_of_le h (Int.le_trans hB (by decide))
theorem sz_app {vs : List Value} {xs ys zs : List Int} (h : IntsAre vs xs) (hx : xs ++ ys = zs) (hz : zs.length ≤ 1000) : vs.toArray.size ≤ sizeLine := by
  refine sz_of h (k := 1000) (Nat.le_trans ?_ hz) (by decide)
  rw [← hx, List.length_append]; exact Nat.le_add_right _ _
theorem dn_ex {L i : Nat} (h : i < L) : ∃ j, L = j + 1 + i := by
  obtain ⟨j, e⟩ := Nat.exists_eq_add_of_le h
  exact ⟨j, by rw [e, Nat.add_comm, Nat.succ_eq_add_one, Nat.add_comm i 1, ← Nat.add_assoc]⟩
theorem dn_lt {L i j : Nat} (h : L = j + 1 + i) : j < L := by rw [h]; exact Nat.lt_of_lt_of_le (Nat.lt_succ_self j) (Nat.le_add_right _ _)
theorem dn_s {L i j : Nat} (h : L = j + 1 + i) : L - i = j + 1 := by rw [h]; exact Nat.add_sub_cancel _ _
theorem dn_s1 {L i j : Nat} (h : L = j + 1 + i) : L - (i + 1) = j := by rw [h, Nat.add_assoc, Nat.add_comm 1 i]; exact Nat.add_sub_cancel _ _
theorem dn_at {L i j : Nat} (h : L = j + 1 + i) : (L : Int) - 1 + (i : Int) * -1 = (j : Int) := by rw [h]; push_cast; omega
theorem dn_small {L : Nat} (h : L ≤ 1000) : Builtin.Range.small ((L : Int) - 1) (-1) (-1) = true := small_down (by omega) (by omega) (by omega) (by omega)
theorem dn_size {L : Nat} : Builtin.Range.rangeSize ((L : Int) - 1) (-1) (-1) = (L : Int) := by rw [rangeSize_downNat, Int.sub_neg, Int.sub_add_cancel, Int.toNat_natCast]
theorem len_app2 {xs ys zs : List Int} (hx : ys ++ xs = zs) (hz : zs.length ≤ 1000) : xs.length ≤ 1000 := by
  refine Nat.le_trans ?_ hz
  rw [← hx, List.length_append]; exact Nat.le_add_left _ _
end Mine

end
section
open PySem PySem.W PySem.Calls PyProof PyProof.Rows
namespace Mine
local macro_rules | `(tactic| walk_at $s:str) => `(tactic| k_extra $s)
example : True := by
  (k_with "mine sub" => ((try dsimp only); first | exact List.forall_mem_nil _ | (refine List.forall_mem_cons.mpr ⟨?za, ?zb⟩; (case za => k_mem); (case zb => walk_at "mine sub")) | (intro _ _; walk_at "mine tail")))
  trivial
example : True := by
  (k_with "mine tail" => first | assumption | (refine List.Mem.tail _ ?_; walk_at "mine tail"))
  trivial
example : True := by
  (k_with "mine ne" => ((try dsimp only); first | exact List.forall_mem_nil _ | (refine List.forall_mem_cons.mpr ⟨?za, ?zb⟩; (case za => k_all); (case zb => walk_at "mine ne"))))
  trivial
local macro_rules | `(tactic| size_fits) => `(tactic| assumption)
local macro_rules | `(tactic| k_all) => `(tactic| assumption)
local macro_rules | `(tactic| k_mem) => `(tactic| assumption)
example : True := by
  (k_with "binaryOp LShift int int" => (refine lshift_int (by omega) (lsh_ok (by first | assumption | omega) (by assumption) (by omega)) ?_))
  trivial
example : True := by
  (k_with "binaryOp Mult int int" => (refine mul_int ?_ (mul_ok (by first | assumption | omega) (by assumption) (by first | assumption | omega) (by assumption))))
  trivial
example : True := by
  (k_with "binaryOp FloorDiv int int" => (refine floordiv_int (by omega) ?_ (Or.inl (div_ok (by first | assumption | omega) (by assumption)))))
  trivial

section
example : True := by
  w_top off
  trivial
theorem law_limbs_does {w : World} {mean : ExcName → Option Value} {mg mb : Str → Option Value} {W n : Int} {t1 t2 : Tok} (hW : 1 ≤ W) (hW2 : W ≤ 8) (hn : 0 ≤ n) (hn2 : LtP n 1000) :
    Does w mean mg mb 170 1 20 [.int n t1, .int W t2] [] (OutL (limZ (2 ^ W.toNat) n)) := by
  unfold Does
  k_fill
  intro dp u gd cn cs L a ccd cl outer A₀ base h₀ m s Q E B F X N T hk hd hu ret
  k_dflt (refine' enterM (binds := [(Str.ofString "n", .int n t1), (Str.ofString "w", .int W t2)]) ?k1 ?k2 ?k3 ?k4 ?k5 ?kA ?kF ?kK ?k6 ?k7 ?k8 ?k9 ?kB ?kR ?_ ?c2 ?c3 ?c4 ?c5; ((case kA => exact rfl); (case kF => exact rfl); (case kK => assumption); (case k1 => k_asm); (case k2 => k_asm); (case k3 => k_asm); (case k4 => k_asm); (case k5 => k_asm); (case kR => assumption); (case k6 => k_is); (case k7 => k_is); (case k8 => ((dsimp only); omega)); (case k9 => exact BindsTo.of_eq rfl); (case c5 => decide); (case kB => exact locs rfl); (case c2 => exact rfl); (case c3 => exact rfl); (case c4 => exact rfl); k_whole; intro g' L' h' F' N' B' X' T'; (try dsimp only); (try k_fold)))
  have hB := pow2_gt hW
  have hlen := limZ_len hB 1000 hn2
  ((repeat' (((fail_if_success (with_reducible show wpAny _ _ (exec (PySem.Stmt.While _ _ _ _) _) _ _ _)); (fail_if_success (with_reducible show wpAny _ _ (pyIter _) _ _ _)); (fail_if_success (with_reducible show wpAny _ _ (eval (PySem.Expr.ListComp _ _ _ _) _) _ _ _)); (fail_if_success (with_reducible show LCg.CompSrc _ _ _ _ _ _ _ _ _ _ _ _ _ _)); (fail_if_success (with_reducible show wpAny _ _ (call (Value.ref _) _ _) _ _ _)); (first | ((with_reducible show wpAny _ _ (exec (PySem.Stmt.For _ _ _ _ _) _) _ _ _); (rename Fr _ _ _ _ => zF'); (with_unfolding_all refine' For_invVF zF' ?zk1 ?zk2 ?_; (case zk1 => exact rfl); (case zk2 => exact rfl); k_whole)) | (k_unfold; (try dsimp only)) | (k_end; wrow_close) | walk1 | (dsimp only; walk1) | (leave1; walk_say "STEP leave1"; try dsimp only) | (dsimp only; k_unfold; (try dsimp only)) | fail "no step")))); (all_goals (try (rename Fr _ _ _ _ => zF'; dsimp only at zF'))); (all_goals (try dsimp only)))
  rename Fr _ _ _ _ => F1
  rename News _ _ _ _ => N1
  refine' while_M (σ := Int × Tok × Addr × List Value × List Int × Nat) (fun (n, t, f, vs, xs, k) => [(f, listOf vs.toArray k)])
    (fun (n, t, f, vs, xs, k) => [(Str.ofString "n", .int n t), (Str.ofString "w", .int W t2), (Str.ofString "found", .ref f)])
    (fun (m, t, f, vs, xs, k) => 0 ≤ m ∧ IntsAre vs xs ∧ xs ++ limZ (2 ^ W.toNat) m = limZ (2 ^ W.toNat) n) (fun (n, t, f, vs, xs, k) => n.toNat) (n, t1, _, [], [], _) F1 N1 ?zl ?zf ?zp ?turn (by passes_own)
  case zf => kst_all
  case zl => walk_at "mine sub"
  case zp => exact ⟨hn, .nil, rfl⟩
  case turn =>
    rintro ⟨m, t, f, vs, xs, k⟩ u2 h2 tk2 ⟨hm0, hi, hx⟩ F2 N2
    have hsz : vs.toArray.size ≤ sizeLine := sz_app hi hx hlen
    dsimp only at F2 N2 ⊢
    clear F1 N1
    have e1 : m.fdiv (2 ^ W.toNat) = m / 2 ^ W.toNat := fdB hB m
    have e2 : m.fmod (1 * 2 ^ W.toNat) = m % 2 ^ W.toNat := by rw [Int.one_mul]; exact fmB hB m
    ((repeat' (((fail_if_success (with_reducible show wpAny _ _ (exec (PySem.Stmt.While _ _ _ _) _) _ _ _)); (fail_if_success (with_reducible show wpAny _ _ (pyIter _) _ _ _)); (fail_if_success (with_reducible show wpAny _ _ (eval (PySem.Expr.ListComp _ _ _ _) _) _ _ _)); (fail_if_success (with_reducible show LCg.CompSrc _ _ _ _ _ _ _ _ _ _ _ _ _ _)); (fail_if_success (with_reducible show wpAny _ _ (call (Value.ref _) _ _) _ _ _)); (first | ((with_reducible show wpAny _ _ (exec (PySem.Stmt.For _ _ _ _ _) _) _ _ _); (rename Fr _ _ _ _ => zF'); (with_unfolding_all refine' For_invVF zF' ?zk1 ?zk2 ?_; (case zk1 => exact rfl); (case zk2 => exact rfl); k_whole)) | (k_unfold; (try dsimp only)) | (k_end; wrow_close) | walk1 | (dsimp only; walk1) | (leave1; walk_say "STEP leave1"; try dsimp only) | (dsimp only; k_unfold; (try dsimp only)) | fail "no step")))); (all_goals (try (rename Fr _ _ _ _ => zF'; dsimp only at zF'))); (all_goals (try dsimp only)))
    · rename News _ _ _ _ => N3
      simp only [List.push_toArray] at N3
      have hpos : 0 < m := by assumption
      k_dflt (refine' wh_end (_, _, _, _, xs ++ [m.fmod (1 * 2 ^ W.toNat)], _) (by k_asm) N3 ?zl ?zf ?zp ?zm)
      case zl => walk_at "mine sub"
      case zf => kst_all
      case zp =>
        refine ⟨?_, ints_snoc hi, ?_⟩
        · rw [e1]; exact dv0 hB hm0
        · dsimp only; rw [e1, e2, List.append_assoc, ← hx, limZ_pos (n := m) hpos hB]; rfl
      case zm =>
        dsimp only
        rw [e1]
        exact tn_lt (div_lt hpos hB) hpos
    · have : xs = limZ (2 ^ W.toNat) n := by rw [← hx, limZ_neg (by assumption), List.append_nil]
      subst this
      k_dflt (refine' endM_of (tl := [(_, _)]) (by k_asm) (by k_asm) ?e1 ?e2 ?e3 ⟨_, _, _, rfl, rfl, hi⟩)
      case e1 => walk_at "mine sub"
      case e2 => walk_at "mine sub"
      case e3 => walk_at "mine ne"

set_option hygiene false in
theorem number_walk {w : World} {mean : ExcName → Option Value} {mg mb : Str → Option Value} {W n : Int} {t2 : Tok} {l : Addr} {ws : List Value} {nn : Nat} (hW : 1 ≤ W) (hW2 : W ≤ 8) (hn : 0 ≤ n) (hn2 : LtP n 1000) (hws : IntsAre ws (limZ (2 ^ W.toNat) n)) :
    Does w mean mg mb 177 1 20 [.ref l, .int W t2] [(l, listOf ws.toArray nn)] (OutI n) := by
  unfold Does
  k_fill
  intro dp u gd cn cs L a ccd cl outer A₀ base h₀ m s Q E B F X N T hk hd hu ret
  k_dflt (refine' enterM (binds := [(Str.ofString "a", .ref l), (Str.ofString "w", .int W t2)]) ?k1 ?k2 ?k3 ?k4 ?k5 ?kA ?kF ?kK ?k6 ?k7 ?k8 ?k9 ?kB ?kR ?_ ?c2 ?c3 ?c4 ?c5; ((case kA => exact rfl); (case kF => exact rfl); (case kK => assumption); (case k1 => k_asm); (case k2 => k_asm); (case k3 => k_asm); (case k4 => k_asm); (case k5 => k_asm); (case kR => assumption); (case k6 => k_is); (case k7 => k_is); (case k8 => ((dsimp only); omega)); (case k9 => exact BindsTo.of_eq rfl); (case c5 => decide); (case kB => exact locs rfl); (case c2 => exact rfl); (case c3 => exact rfl); (case c4 => exact rfl); k_whole; intro g' L' h' F' N' B' X' T'; (try dsimp only); (try k_fold)))
  have hB := pow2_gt hW
  have hlen := limZ_len hB 1000 hn2
  ((repeat' (((fail_if_success (with_reducible show wpAny _ _ (exec (PySem.Stmt.While _ _ _ _) _) _ _ _)); (fail_if_success (with_reducible show wpAny _ _ (pyIter _) _ _ _)); (fail_if_success (with_reducible show wpAny _ _ (eval (PySem.Expr.ListComp _ _ _ _) _) _ _ _)); (fail_if_success (with_reducible show LCg.CompSrc _ _ _ _ _ _ _ _ _ _ _ _ _ _)); (fail_if_success (with_reducible show wpAny _ _ (call (Value.ref _) _ _) _ _ _)); (first | ((with_reducible show wpAny _ _ (exec (PySem.Stmt.For _ _ _ _ _) _) _ _ _); (rename Fr _ _ _ _ => zF'); (with_unfolding_all refine' For_invVF zF' ?zk1 ?zk2 ?_; (case zk1 => exact rfl); (case zk2 => exact rfl); k_whole)) | (k_unfold; (try dsimp only)) | (k_end; wrow_close) | walk1 | (dsimp only; walk1) | (leave1; walk_say "STEP leave1"; try dsimp only) | (dsimp only; k_unfold; (try dsimp only)) | fail "no step")))); (all_goals (try (rename Fr _ _ _ _ => zF'; dsimp only at zF'))); (all_goals (try dsimp only)))
  rename Fr _ _ _ _ => F1
  rename News _ _ _ _ => N1
  rename IntsAre _ _ => I1
  have hrl : (limZ (2 ^ W.toNat) n).reverse.length = (limZ (2 ^ W.toNat) n).length := List.length_reverse
  refine' for_listM (σ := Int × Tok) (fun _ => _) (fun (x, t) => [(Str.ofString "w", .int W t2), (Str.ofString "found", .int x t)])
    (fun i (x, t) => x = n / (2 ^ W.toNat) ^ ((limZ (2 ^ W.toNat) n).length - i)) (0, _) rfl (fun _ => List.Mem.head _) I1 F1 N1 (fun _ h => h) ?zf ?zp ?turn ?done
  case zf => kst_all
  case zp => exact (lim_end hB hn).symm
  case turn =>
    rintro i k t ⟨x, tx⟩ u2 h2 tk2 I oi hk hi hP hne F2 N2
    obtain ⟨hi2, hkv⟩ := lim_rget hB hn hk
    dsimp only at F2 N2 hP ⊢
    clear F1 N1
    have hx0 : 0 ≤ x := by rw [hP]; exact q_nonneg hB hn _
    have hx1 : LtP x 2000 := LtP.le (hn2.up (by omega)) (by rw [hP]; exact q_le hB hn _)
    ((repeat' (((fail_if_success (with_reducible show wpAny _ _ (exec (PySem.Stmt.While _ _ _ _) _) _ _ _)); (fail_if_success (with_reducible show wpAny _ _ (pyIter _) _ _ _)); (fail_if_success (with_reducible show wpAny _ _ (eval (PySem.Expr.ListComp _ _ _ _) _) _ _ _)); (fail_if_success (with_reducible show LCg.CompSrc _ _ _ _ _ _ _ _ _ _ _ _ _ _)); (fail_if_success (with_reducible show wpAny _ _ (call (Value.ref _) _ _) _ _ _)); (first | ((with_reducible show wpAny _ _ (exec (PySem.Stmt.For _ _ _ _ _) _) _ _ _); (rename Fr _ _ _ _ => zF'); (with_unfolding_all refine' For_invVF zF' ?zk1 ?zk2 ?_; (case zk1 => exact rfl); (case zk2 => exact rfl); k_whole)) | (k_unfold; (try dsimp only)) | (k_end; wrow_close) | walk1 | (dsimp only; walk1) | (leave1; walk_say "STEP leave1"; try dsimp only) | (dsimp only; k_unfold; (try dsimp only)) | fail "no step")))); (all_goals (try (rename Fr _ _ _ _ => zF'; dsimp only at zF'))); (all_goals (try dsimp only)))
    rename Fr _ _ _ _ => F3
    rename News _ _ _ _ => N3
    k_dflt (refine' fo_end (x * 2 ^ W.toNat + k, _) F3 N3 ?zl ?zi ?zn ?zf ?zp)
    case zl => walk_at "mine sub"
    case zi => k_mem
    case zn => exact ne1_all hne
    case zf => kst_all
    case zp =>
      show x * 2 ^ W.toNat + k = _
      have e : (limZ (2 ^ W.toNat) n).length - i = ((limZ (2 ^ W.toNat) n).length - (i + 1)) + 1 := sub_s hi2
      have e2 : (limZ (2 ^ W.toNat) n).length - 1 - i = (limZ (2 ^ W.toNat) n).length - (i + 1) := sub_s1 _ _
      rw [hP, hkv, e, e2, q_step hB]
  case done =>
    rintro ⟨x, tx⟩ u2 h2 tk2 hP F2 N2
    dsimp only at F2 N2 hP
    rw [hrl, Nat.sub_self, q_zero] at hP
    subst hP
    clear F1 N1
    ((repeat' (((fail_if_success (with_reducible show wpAny _ _ (exec (PySem.Stmt.While _ _ _ _) _) _ _ _)); (fail_if_success (with_reducible show wpAny _ _ (pyIter _) _ _ _)); (fail_if_success (with_reducible show wpAny _ _ (eval (PySem.Expr.ListComp _ _ _ _) _) _ _ _)); (fail_if_success (with_reducible show LCg.CompSrc _ _ _ _ _ _ _ _ _ _ _ _ _ _)); (fail_if_success (with_reducible show wpAny _ _ (call (Value.ref _) _ _) _ _ _)); (first | ((with_reducible show wpAny _ _ (exec (PySem.Stmt.For _ _ _ _ _) _) _ _ _); (rename Fr _ _ _ _ => zF'); (with_unfolding_all refine' For_invVF zF' ?zk1 ?zk2 ?_; (case zk1 => exact rfl); (case zk2 => exact rfl); k_whole)) | (k_unfold; (try dsimp only)) | (k_end; wrow_close) | walk1 | (dsimp only; walk1) | (leave1; walk_say "STEP leave1"; try dsimp only) | (dsimp only; k_unfold; (try dsimp only)) | fail "no step")))); (all_goals (try (rename Fr _ _ _ _ => zF'; dsimp only at zF'))); (all_goals (try dsimp only)))
    k_dflt (refine' endM_of (tl := []) (by k_asm) (by k_asm) ?e1 ?e2 ?e3 ⟨rfl, _, rfl⟩)
    case e1 => walk_at "mine sub"
    case e2 => walk_at "mine sub"
    case e3 => walk_at "mine ne"


end
section
example : True := by
  w_top off
  trivial
theorem times_walk {w : World} {mean : ExcName → Option Value} {mg mb : Str → Option Value} {W n k : Int} {t2 : Tok} {l l2 : Addr} {ws vs : List Value} {nn kk : Nat} (hW : 1 ≤ W) (hW2 : W ≤ 8) (hn : 0 ≤ n) (hn2 : LtP n 1000) (hk0 : 0 ≤ k) (hk2 : LtP k 1000) (hnk : LtP (n * k) 1000) (hws : IntsAre ws (limZ (2 ^ W.toNat) n)) (hvs : IntsAre vs (limZ (2 ^ W.toNat) k)) :
    Does w mean mg mb 184 2 40 [.ref l, .ref l2, .int W t2] [(l, listOf ws.toArray nn), (l2, listOf vs.toArray kk)] (OutL (limZ (2 ^ W.toNat) (n * k))) := by
  unfold Does
  k_fill
  intro dp u gd cn cs L a ccd cl outer A₀ base h₀ m s Q E B F X N T hk hd hu ret
  k_dflt (refine' enterM (binds := [(Str.ofString "a", .ref l), (Str.ofString "b", .ref l2), (Str.ofString "w", .int W t2)]) ?k1 ?k2 ?k3 ?k4 ?k5 ?kA ?kF ?kK ?k6 ?k7 ?k8 ?k9 ?kB ?kR ?_ ?c2 ?c3 ?c4 ?c5; ((case kA => exact rfl); (case kF => exact rfl); (case kK => assumption); (case k1 => k_asm); (case k2 => k_asm); (case k3 => k_asm); (case k4 => k_asm); (case k5 => k_asm); (case kR => assumption); (case k6 => k_is); (case k7 => k_is); (case k8 => ((dsimp only); omega)); (case k9 => exact BindsTo.of_eq rfl); (case c5 => decide); (case kB => exact locs rfl); (case c2 => exact rfl); (case c3 => exact rfl); (case c4 => exact rfl); k_whole; intro g' L' h' F' N' B' X' T'; (try dsimp only); (try k_fold)))
  have hnn : LtP n 2000 := hn2.up (by omega)
  have hkk : LtP k 2000 := hk2.up (by omega)
  ((repeat' (((fail_if_success (with_reducible show wpAny _ _ (exec (PySem.Stmt.While _ _ _ _) _) _ _ _)); (fail_if_success (with_reducible show wpAny _ _ (pyIter _) _ _ _)); (fail_if_success (with_reducible show wpAny _ _ (eval (PySem.Expr.ListComp _ _ _ _) _) _ _ _)); (fail_if_success (with_reducible show LCg.CompSrc _ _ _ _ _ _ _ _ _ _ _ _ _ _)); (fail_if_success (with_reducible show wpAny _ _ (call (Value.ref _) _ _) _ _ _)); (first | ((with_reducible show wpAny _ _ (exec (PySem.Stmt.For _ _ _ _ _) _) _ _ _); (rename Fr _ _ _ _ => zF'); (with_unfolding_all refine' For_invVF zF' ?zk1 ?zk2 ?_; (case zk1 => exact rfl); (case zk2 => exact rfl); k_whole)) | (k_unfold; (try dsimp only)) | (k_end; wrow_close) | walk1 | (dsimp only; walk1) | (leave1; walk_say "STEP leave1"; try dsimp only) | (dsimp only; k_unfold; (try dsimp only)) | fail "no step")))); (all_goals (try (rename Fr _ _ _ _ => zF'; dsimp only at zF'))); (all_goals (try dsimp only)))
  k_dflt (refine' use_I (number_walk hW hW2 hn hn2 hws) ?zB ?zF ?zX ?zN ?zT ?zk ?zs ?zd ?zu ?_)
  ((case zB => k_asm); (case zF => k_asm); (case zX => k_asm); (case zN => k_asm); (case zT => k_asm); (case zk => first | exact rfl | assumption); (case zs => walk_at "mine sub"); (case zd => first | ((try dsimp only); exact room1 (by assumption) (by first | decide | exact Nat.le_refl _ | exact Nat.le_trans (by decide) (Nat.le_add_right _ _) | omega)) | (dsimp only; omega) | (simp only [depth_deeper]; omega)); (case zu => first | ((try dsimp only); exact room3 (by assumption) (by first | decide | exact Nat.le_refl _ | exact Nat.le_trans (by decide) (Nat.le_add_right _ _) | omega)) | (dsimp only; omega) | (simp only [units_deeper]; omega)))
  intro t3 h3 tk3 F3 N3
  ((repeat' (((fail_if_success (with_reducible show wpAny _ _ (exec (PySem.Stmt.While _ _ _ _) _) _ _ _)); (fail_if_success (with_reducible show wpAny _ _ (pyIter _) _ _ _)); (fail_if_success (with_reducible show wpAny _ _ (eval (PySem.Expr.ListComp _ _ _ _) _) _ _ _)); (fail_if_success (with_reducible show LCg.CompSrc _ _ _ _ _ _ _ _ _ _ _ _ _ _)); (fail_if_success (with_reducible show wpAny _ _ (call (Value.ref _) _ _) _ _ _)); (first | ((with_reducible show wpAny _ _ (exec (PySem.Stmt.For _ _ _ _ _) _) _ _ _); (rename Fr _ _ _ _ => zF'); (with_unfolding_all refine' For_invVF zF' ?zk1 ?zk2 ?_; (case zk1 => exact rfl); (case zk2 => exact rfl); k_whole)) | (k_unfold; (try dsimp only)) | (k_end; wrow_close) | walk1 | (dsimp only; walk1) | (leave1; walk_say "STEP leave1"; try dsimp only) | (dsimp only; k_unfold; (try dsimp only)) | fail "no step")))); (all_goals (try (rename Fr _ _ _ _ => zF'; dsimp only at zF'))); (all_goals (try dsimp only)))
  k_dflt (refine' use_I (number_walk hW hW2 hk0 hk2 hvs) ?zB ?zF ?zX ?zN ?zT ?zk ?zs ?zd ?zu ?_)
  ((case zB => k_asm); (case zF => k_asm); (case zX => k_asm); (case zN => k_asm); (case zT => k_asm); (case zk => first | exact rfl | assumption); (case zs => walk_at "mine sub"); (case zd => first | ((try dsimp only); exact room1 (by assumption) (by first | decide | exact Nat.le_refl _ | exact Nat.le_trans (by decide) (Nat.le_add_right _ _) | omega)) | (dsimp only; omega) | (simp only [depth_deeper]; omega)); (case zu => first | ((try dsimp only); exact room3 (by assumption) (by first | decide | exact Nat.le_refl _ | exact Nat.le_trans (by decide) (Nat.le_add_right _ _) | omega)) | (dsimp only; omega) | (simp only [units_deeper]; omega)))
  intro t4 h4 tk4 F4 N4
  ((repeat' (((fail_if_success (with_reducible show wpAny _ _ (exec (PySem.Stmt.While _ _ _ _) _) _ _ _)); (fail_if_success (with_reducible show wpAny _ _ (pyIter _) _ _ _)); (fail_if_success (with_reducible show wpAny _ _ (eval (PySem.Expr.ListComp _ _ _ _) _) _ _ _)); (fail_if_success (with_reducible show LCg.CompSrc _ _ _ _ _ _ _ _ _ _ _ _ _ _)); (fail_if_success (with_reducible show wpAny _ _ (call (Value.ref _) _ _) _ _ _)); (first | ((with_reducible show wpAny _ _ (exec (PySem.Stmt.For _ _ _ _ _) _) _ _ _); (rename Fr _ _ _ _ => zF'); (with_unfolding_all refine' For_invVF zF' ?zk1 ?zk2 ?_; (case zk1 => exact rfl); (case zk2 => exact rfl); k_whole)) | (k_unfold; (try dsimp only)) | (k_end; wrow_close) | walk1 | (dsimp only; walk1) | (leave1; walk_say "STEP leave1"; try dsimp only) | (dsimp only; k_unfold; (try dsimp only)) | fail "no step")))); (all_goals (try (rename Fr _ _ _ _ => zF'; dsimp only at zF'))); (all_goals (try dsimp only)))
  k_dflt (refine' use_L (law_limbs_does hW hW2 (Int.mul_nonneg hn hk0) hnk) ?zB ?zF ?zX ?zN ?zT ?zk ?zs ?zd ?zu ?_)
  ((case zB => k_asm); (case zF => k_asm); (case zX => k_asm); (case zN => k_asm); (case zT => k_asm); (case zk => first | exact rfl | assumption); (case zs => walk_at "mine sub"); (case zd => first | ((try dsimp only); exact room1 (by assumption) (by first | decide | exact Nat.le_refl _ | exact Nat.le_trans (by decide) (Nat.le_add_right _ _) | omega)) | (dsimp only; omega) | (simp only [depth_deeper]; omega)); (case zu => first | ((try dsimp only); exact room3 (by assumption) (by first | decide | exact Nat.le_refl _ | exact Nat.le_trans (by decide) (Nat.le_add_right _ _) | omega)) | (dsimp only; omega) | (simp only [units_deeper]; omega)))
  intro b5 vs5 n5 h5 tk5 F5 N5 ne5 I5
  simp only [Ne1, and_true] at ne5
  ((repeat' (((fail_if_success (with_reducible show wpAny _ _ (exec (PySem.Stmt.While _ _ _ _) _) _ _ _)); (fail_if_success (with_reducible show wpAny _ _ (pyIter _) _ _ _)); (fail_if_success (with_reducible show wpAny _ _ (eval (PySem.Expr.ListComp _ _ _ _) _) _ _ _)); (fail_if_success (with_reducible show LCg.CompSrc _ _ _ _ _ _ _ _ _ _ _ _ _ _)); (fail_if_success (with_reducible show wpAny _ _ (call (Value.ref _) _ _) _ _ _)); (first | ((with_reducible show wpAny _ _ (exec (PySem.Stmt.For _ _ _ _ _) _) _ _ _); (rename Fr _ _ _ _ => zF'); (with_unfolding_all refine' For_invVF zF' ?zk1 ?zk2 ?_; (case zk1 => exact rfl); (case zk2 => exact rfl); k_whole)) | (k_unfold; (try dsimp only)) | (k_end; wrow_close) | walk1 | (dsimp only; walk1) | (leave1; walk_say "STEP leave1"; try dsimp only) | (dsimp only; k_unfold; (try dsimp only)) | fail "no step")))); (all_goals (try (rename Fr _ _ _ _ => zF'; dsimp only at zF'))); (all_goals (try dsimp only)))
  k_dflt (refine' endM_of (tl := [(_, _)]) (by k_asm) (by k_asm) ?e1 ?e2 ?e3 ⟨_, _, _, rfl, rfl, I5⟩)
  case e1 => walk_at "mine sub"
  case e2 => walk_at "mine sub"
  case e3 => walk_at "mine ne"

theorem parts_walk {w : World} {mean : ExcName → Option Value} {mg mb : Str → Option Value} {W n k : Int} {t2 : Tok} {l l2 : Addr} {ws vs : List Value} {nn kk : Nat} (hW : 1 ≤ W) (hW2 : W ≤ 8) (hn : 0 ≤ n) (hn2 : LtP n 1000) (hk0 : 0 < k) (hk2 : LtP k 1000) (hws : IntsAre ws (limZ (2 ^ W.toNat) n)) (hvs : IntsAre vs (limZ (2 ^ W.toNat) k)) :
    Does w mean mg mb 191 2 40 [.ref l, .ref l2, .int W t2] [(l, listOf ws.toArray nn), (l2, listOf vs.toArray kk)] (OutLL (limZ (2 ^ W.toNat) (n / k)) (limZ (2 ^ W.toNat) (n % k))) := by
  unfold Does
  k_fill
  intro dp u gd cn cs L a ccd cl outer A₀ base h₀ m s Q E B F X N T hk hd hu ret
  k_dflt (refine' enterM (binds := [(Str.ofString "a", .ref l), (Str.ofString "b", .ref l2), (Str.ofString "w", .int W t2)]) ?k1 ?k2 ?k3 ?k4 ?k5 ?kA ?kF ?kK ?k6 ?k7 ?k8 ?k9 ?kB ?kR ?_ ?c2 ?c3 ?c4 ?c5; ((case kA => exact rfl); (case kF => exact rfl); (case kK => assumption); (case k1 => k_asm); (case k2 => k_asm); (case k3 => k_asm); (case k4 => k_asm); (case k5 => k_asm); (case kR => assumption); (case k6 => k_is); (case k7 => k_is); (case k8 => ((dsimp only); omega)); (case k9 => exact BindsTo.of_eq rfl); (case c5 => decide); (case kB => exact locs rfl); (case c2 => exact rfl); (case c3 => exact rfl); (case c4 => exact rfl); k_whole; intro g' L' h' F' N' B' X' T'; (try dsimp only); (try k_fold)))
  have hnn : LtP n 2000 := hn2.up (by omega)
  have hkk : LtP k 2000 := hk2.up (by omega)
  have hm1 : n % k < k := Int.emod_lt_of_pos _ hk0
  have hm0 : 0 ≤ n % k := mdc0 hk0 _
  have hd0 : 0 ≤ n / k := Int.ediv_nonneg hn (Int.le_of_lt hk0)
  have hd1 : n / k ≤ n := Int.ediv_le_self _ hn
  ((repeat' (((fail_if_success (with_reducible show wpAny _ _ (exec (PySem.Stmt.While _ _ _ _) _) _ _ _)); (fail_if_success (with_reducible show wpAny _ _ (pyIter _) _ _ _)); (fail_if_success (with_reducible show wpAny _ _ (eval (PySem.Expr.ListComp _ _ _ _) _) _ _ _)); (fail_if_success (with_reducible show LCg.CompSrc _ _ _ _ _ _ _ _ _ _ _ _ _ _)); (fail_if_success (with_reducible show wpAny _ _ (call (Value.ref _) _ _) _ _ _)); (first | ((with_reducible show wpAny _ _ (exec (PySem.Stmt.For _ _ _ _ _) _) _ _ _); (rename Fr _ _ _ _ => zF'); (with_unfolding_all refine' For_invVF zF' ?zk1 ?zk2 ?_; (case zk1 => exact rfl); (case zk2 => exact rfl); k_whole)) | (k_unfold; (try dsimp only)) | (k_end; wrow_close) | walk1 | (dsimp only; walk1) | (leave1; walk_say "STEP leave1"; try dsimp only) | (dsimp only; k_unfold; (try dsimp only)) | fail "no step")))); (all_goals (try (rename Fr _ _ _ _ => zF'; dsimp only at zF'))); (all_goals (try dsimp only)))
  k_dflt (refine' use_I (number_walk hW hW2 hn hn2 hws) ?zB ?zF ?zX ?zN ?zT ?zk ?zs ?zd ?zu ?_)
  ((case zB => k_asm); (case zF => k_asm); (case zX => k_asm); (case zN => k_asm); (case zT => k_asm); (case zk => first | exact rfl | assumption); (case zs => walk_at "mine sub"); (case zd => first | ((try dsimp only); exact room1 (by assumption) (by first | decide | exact Nat.le_refl _ | exact Nat.le_trans (by decide) (Nat.le_add_right _ _) | omega)) | (dsimp only; omega) | (simp only [depth_deeper]; omega)); (case zu => first | ((try dsimp only); exact room3 (by assumption) (by first | decide | exact Nat.le_refl _ | exact Nat.le_trans (by decide) (Nat.le_add_right _ _) | omega)) | (dsimp only; omega) | (simp only [units_deeper]; omega)))
  intro t3 h3 tk3 F3 N3
  ((repeat' (((fail_if_success (with_reducible show wpAny _ _ (exec (PySem.Stmt.While _ _ _ _) _) _ _ _)); (fail_if_success (with_reducible show wpAny _ _ (pyIter _) _ _ _)); (fail_if_success (with_reducible show wpAny _ _ (eval (PySem.Expr.ListComp _ _ _ _) _) _ _ _)); (fail_if_success (with_reducible show LCg.CompSrc _ _ _ _ _ _ _ _ _ _ _ _ _ _)); (fail_if_success (with_reducible show wpAny _ _ (call (Value.ref _) _ _) _ _ _)); (first | ((with_reducible show wpAny _ _ (exec (PySem.Stmt.For _ _ _ _ _) _) _ _ _); (rename Fr _ _ _ _ => zF'); (with_unfolding_all refine' For_invVF zF' ?zk1 ?zk2 ?_; (case zk1 => exact rfl); (case zk2 => exact rfl); k_whole)) | (k_unfold; (try dsimp only)) | (k_end; wrow_close) | walk1 | (dsimp only; walk1) | (leave1; walk_say "STEP leave1"; try dsimp only) | (dsimp only; k_unfold; (try dsimp only)) | fail "no step")))); (all_goals (try (rename Fr _ _ _ _ => zF'; dsimp only at zF'))); (all_goals (try dsimp only)))
  k_dflt (refine' use_I (number_walk hW hW2 (Int.le_of_lt hk0) hk2 hvs) ?zB ?zF ?zX ?zN ?zT ?zk ?zs ?zd ?zu ?_)
  ((case zB => k_asm); (case zF => k_asm); (case zX => k_asm); (case zN => k_asm); (case zT => k_asm); (case zk => first | exact rfl | assumption); (case zs => walk_at "mine sub"); (case zd => first | ((try dsimp only); exact room1 (by assumption) (by first | decide | exact Nat.le_refl _ | exact Nat.le_trans (by decide) (Nat.le_add_right _ _) | omega)) | (dsimp only; omega) | (simp only [depth_deeper]; omega)); (case zu => first | ((try dsimp only); exact room3 (by assumption) (by first | decide | exact Nat.le_refl _ | exact Nat.le_trans (by decide) (Nat.le_add_right _ _) | omega)) | (dsimp only; omega) | (simp only [units_deeper]; omega)))
  intro t4 h4 tk4 F4 N4
  ((repeat' (((fail_if_success (with_reducible show wpAny _ _ (exec (PySem.Stmt.While _ _ _ _) _) _ _ _)); (fail_if_success (with_reducible show wpAny _ _ (pyIter _) _ _ _)); (fail_if_success (with_reducible show wpAny _ _ (eval (PySem.Expr.ListComp _ _ _ _) _) _ _ _)); (fail_if_success (with_reducible show LCg.CompSrc _ _ _ _ _ _ _ _ _ _ _ _ _ _)); (fail_if_success (with_reducible show wpAny _ _ (call (Value.ref _) _ _) _ _ _)); (first | ((with_reducible show wpAny _ _ (exec (PySem.Stmt.For _ _ _ _ _) _) _ _ _); (rename Fr _ _ _ _ => zF'); (with_unfolding_all refine' For_invVF zF' ?zk1 ?zk2 ?_; (case zk1 => exact rfl); (case zk2 => exact rfl); k_whole)) | (k_unfold; (try dsimp only)) | (k_end; wrow_close) | walk1 | (dsimp only; walk1) | (leave1; walk_say "STEP leave1"; try dsimp only) | (dsimp only; k_unfold; (try dsimp only)) | fail "no step")))); (all_goals (try (rename Fr _ _ _ _ => zF'; dsimp only at zF'))); (all_goals (try dsimp only)))
  rw [fdiv_e (Int.le_of_lt hk0)]
  k_dflt (refine' use_L (law_limbs_does hW hW2 hd0 (hn2.le hd1)) ?zB ?zF ?zX ?zN ?zT ?zk ?zs ?zd ?zu ?_)
  ((case zB => k_asm); (case zF => k_asm); (case zX => k_asm); (case zN => k_asm); (case zT => k_asm); (case zk => first | exact rfl | assumption); (case zs => walk_at "mine sub"); (case zd => first | ((try dsimp only); exact room1 (by assumption) (by first | decide | exact Nat.le_refl _ | exact Nat.le_trans (by decide) (Nat.le_add_right _ _) | omega)) | (dsimp only; omega) | (simp only [depth_deeper]; omega)); (case zu => first | ((try dsimp only); exact room3 (by assumption) (by first | decide | exact Nat.le_refl _ | exact Nat.le_trans (by decide) (Nat.le_add_right _ _) | omega)) | (dsimp only; omega) | (simp only [units_deeper]; omega)))
  intro b5 vs5 n5 h5 tk5 F5 N5 ne5 I5
  simp only [Ne1, and_true] at ne5
  ((repeat' (((fail_if_success (with_reducible show wpAny _ _ (exec (PySem.Stmt.While _ _ _ _) _) _ _ _)); (fail_if_success (with_reducible show wpAny _ _ (pyIter _) _ _ _)); (fail_if_success (with_reducible show wpAny _ _ (eval (PySem.Expr.ListComp _ _ _ _) _) _ _ _)); (fail_if_success (with_reducible show LCg.CompSrc _ _ _ _ _ _ _ _ _ _ _ _ _ _)); (fail_if_success (with_reducible show wpAny _ _ (call (Value.ref _) _ _) _ _ _)); (first | ((with_reducible show wpAny _ _ (exec (PySem.Stmt.For _ _ _ _ _) _) _ _ _); (rename Fr _ _ _ _ => zF'); (with_unfolding_all refine' For_invVF zF' ?zk1 ?zk2 ?_; (case zk1 => exact rfl); (case zk2 => exact rfl); k_whole)) | (k_unfold; (try dsimp only)) | (k_end; wrow_close) | walk1 | (dsimp only; walk1) | (leave1; walk_say "STEP leave1"; try dsimp only) | (dsimp only; k_unfold; (try dsimp only)) | fail "no step")))); (all_goals (try (rename Fr _ _ _ _ => zF'; dsimp only at zF'))); (all_goals (try dsimp only)))
  rw [fmod_e (Int.le_of_lt hk0)]
  k_dflt (refine' use_L (law_limbs_does hW hW2 hm0 (hk2.le (Int.le_of_lt hm1))) ?zB ?zF ?zX ?zN ?zT ?zk ?zs ?zd ?zu ?_)
  ((case zB => k_asm); (case zF => k_asm); (case zX => k_asm); (case zN => k_asm); (case zT => k_asm); (case zk => first | exact rfl | assumption); (case zs => walk_at "mine sub"); (case zd => first | ((try dsimp only); exact room1 (by assumption) (by first | decide | exact Nat.le_refl _ | exact Nat.le_trans (by decide) (Nat.le_add_right _ _) | omega)) | (dsimp only; omega) | (simp only [depth_deeper]; omega)); (case zu => first | ((try dsimp only); exact room3 (by assumption) (by first | decide | exact Nat.le_refl _ | exact Nat.le_trans (by decide) (Nat.le_add_right _ _) | omega)) | (dsimp only; omega) | (simp only [units_deeper]; omega)))
  intro b6 vs6 n6 h6 tk6 F6 N6 ne6 I6
  simp only [Ne1, and_true] at ne6
  obtain ⟨nb1, nb2, nb3, nb4⟩ := ne6
  obtain ⟨na1, na2, na3⟩ := ne5
  ((repeat' (((fail_if_success (with_reducible show wpAny _ _ (exec (PySem.Stmt.While _ _ _ _) _) _ _ _)); (fail_if_success (with_reducible show wpAny _ _ (pyIter _) _ _ _)); (fail_if_success (with_reducible show wpAny _ _ (eval (PySem.Expr.ListComp _ _ _ _) _) _ _ _)); (fail_if_success (with_reducible show LCg.CompSrc _ _ _ _ _ _ _ _ _ _ _ _ _ _)); (fail_if_success (with_reducible show wpAny _ _ (call (Value.ref _) _ _) _ _ _)); (first | ((with_reducible show wpAny _ _ (exec (PySem.Stmt.For _ _ _ _ _) _) _ _ _); (rename Fr _ _ _ _ => zF'); (with_unfolding_all refine' For_invVF zF' ?zk1 ?zk2 ?_; (case zk1 => exact rfl); (case zk2 => exact rfl); k_whole)) | (k_unfold; (try dsimp only)) | (k_end; wrow_close) | walk1 | (dsimp only; walk1) | (leave1; walk_say "STEP leave1"; try dsimp only) | (dsimp only; k_unfold; (try dsimp only)) | fail "no step")))); (all_goals (try (rename Fr _ _ _ _ => zF'; dsimp only at zF'))); (all_goals (try dsimp only)))
  k_dflt (refine' endM_of (tl := [(_, _), (_, _), (_, _)]) (by k_asm) (by k_asm) ?e1 ?e2 ?e3 ⟨_, _, _, _, _, _, _, rfl, rfl, I5, I6, ?e4, ?e5, ?e6⟩)
  case e1 => walk_at "mine sub"
  case e2 => walk_at "mine sub"
  case e3 => walk_at "mine ne"
  all_goals omega


end
section
example : True := by
  w_top off
  trivial
theorem plain_walk {w : World} {mean : ExcName → Option Value} {mg mb : Str → Option Value} {W n : Int} {t2 : Tok} {l : Addr} {ws : List Value} {nn : Nat} (hW : 1 ≤ W) (hW2 : W ≤ 8) (hn : 0 ≤ n) (hn2 : LtP n 1000) (hws : IntsAre ws (limZ (2 ^ W.toNat) n)) :
    Does w mean mg mb 100 1 20 [.ref l, .int W t2] [(l, listOf ws.toArray nn)] (OutI n) := by
  unfold Does
  k_fill
  intro dp u gd cn cs L a ccd cl outer A₀ base h₀ m s Q E B F X N T hk hd hu ret
  k_dflt (refine' enterM (binds := [(Str.ofString "a", .ref l), (Str.ofString "w", .int W t2)]) ?k1 ?k2 ?k3 ?k4 ?k5 ?kA ?kF ?kK ?k6 ?k7 ?k8 ?k9 ?kB ?kR ?_ ?c2 ?c3 ?c4 ?c5; ((case kA => exact rfl); (case kF => exact rfl); (case kK => assumption); (case k1 => k_asm); (case k2 => k_asm); (case k3 => k_asm); (case k4 => k_asm); (case k5 => k_asm); (case kR => assumption); (case k6 => k_is); (case k7 => k_is); (case k8 => ((dsimp only); omega)); (case k9 => exact BindsTo.of_eq rfl); (case c5 => decide); (case kB => exact locs rfl); (case c2 => exact rfl); (case c3 => exact rfl); (case c4 => exact rfl); k_whole; intro g' L' h' F' N' B' X' T'; (try dsimp only); (try k_fold)))
  have hB := pow2_gt hW
  have hlen := limZ_len hB 1000 hn2
  ((repeat' (((fail_if_success (with_reducible show wpAny _ _ (exec (PySem.Stmt.While _ _ _ _) _) _ _ _)); (fail_if_success (with_reducible show wpAny _ _ (pyIter _) _ _ _)); (fail_if_success (with_reducible show wpAny _ _ (eval (PySem.Expr.ListComp _ _ _ _) _) _ _ _)); (fail_if_success (with_reducible show LCg.CompSrc _ _ _ _ _ _ _ _ _ _ _ _ _ _)); (fail_if_success (with_reducible show wpAny _ _ (call (Value.ref _) _ _) _ _ _)); (first | ((with_reducible show wpAny _ _ (exec (PySem.Stmt.For _ _ _ _ _) _) _ _ _); (rename Fr _ _ _ _ => zF'); (with_unfolding_all refine' For_invVF zF' ?zk1 ?zk2 ?_; (case zk1 => exact rfl); (case zk2 => exact rfl); k_whole)) | (k_unfold; (try dsimp only)) | (k_end; wrow_close) | walk1 | (dsimp only; walk1) | (leave1; walk_say "STEP leave1"; try dsimp only) | (dsimp only; k_unfold; (try dsimp only)) | fail "no step")))); (all_goals (try (rename Fr _ _ _ _ => zF'; dsimp only at zF'))); (all_goals (try dsimp only)))
  rename Fr _ _ _ _ => F1
  rename News _ _ _ _ => N1
  rename IntsAre _ _ => I1
  have hrl : (limZ (2 ^ W.toNat) n).reverse.length = (limZ (2 ^ W.toNat) n).length := List.length_reverse
  refine' for_listM (σ := Int × Tok) (fun _ => _) (fun (x, t) => [(Str.ofString "w", .int W t2), (Str.ofString "found", .int x t)])
    (fun i (x, t) => x = n / (2 ^ W.toNat) ^ ((limZ (2 ^ W.toNat) n).length - i)) (0, _) rfl (fun _ => List.Mem.head _) I1 F1 N1 (fun _ h => h) ?zf ?zp ?turn ?done
  case zf => kst_all
  case zp => exact (lim_end hB hn).symm
  case turn =>
    rintro i k t ⟨x, tx⟩ u2 h2 tk2 I oi hk hi hP hne F2 N2
    obtain ⟨hi2, hkv⟩ := lim_rget hB hn hk
    dsimp only at F2 N2 hP ⊢
    clear F1 N1
    have hx0 : 0 ≤ x := by rw [hP]; exact q_nonneg hB hn _
    have hx1 : LtP x 2000 := LtP.le (hn2.up (by omega)) (by rw [hP]; exact q_le hB hn _)
    ((repeat' (((fail_if_success (with_reducible show wpAny _ _ (exec (PySem.Stmt.While _ _ _ _) _) _ _ _)); (fail_if_success (with_reducible show wpAny _ _ (pyIter _) _ _ _)); (fail_if_success (with_reducible show wpAny _ _ (eval (PySem.Expr.ListComp _ _ _ _) _) _ _ _)); (fail_if_success (with_reducible show LCg.CompSrc _ _ _ _ _ _ _ _ _ _ _ _ _ _)); (fail_if_success (with_reducible show wpAny _ _ (call (Value.ref _) _ _) _ _ _)); (first | ((with_reducible show wpAny _ _ (exec (PySem.Stmt.For _ _ _ _ _) _) _ _ _); (rename Fr _ _ _ _ => zF'); (with_unfolding_all refine' For_invVF zF' ?zk1 ?zk2 ?_; (case zk1 => exact rfl); (case zk2 => exact rfl); k_whole)) | (k_unfold; (try dsimp only)) | (k_end; wrow_close) | walk1 | (dsimp only; walk1) | (leave1; walk_say "STEP leave1"; try dsimp only) | (dsimp only; k_unfold; (try dsimp only)) | fail "no step")))); (all_goals (try (rename Fr _ _ _ _ => zF'; dsimp only at zF'))); (all_goals (try dsimp only)))
    rename Fr _ _ _ _ => F3
    rename News _ _ _ _ => N3
    k_dflt (refine' fo_end (x * 2 ^ W.toNat + k, _) F3 N3 ?zl ?zi ?zn ?zf ?zp)
    case zl => walk_at "mine sub"
    case zi => k_mem
    case zn => exact ne1_all hne
    case zf => kst_all
    case zp =>
      show x * 2 ^ W.toNat + k = _
      have e : (limZ (2 ^ W.toNat) n).length - i = ((limZ (2 ^ W.toNat) n).length - (i + 1)) + 1 := sub_s hi2
      have e2 : (limZ (2 ^ W.toNat) n).length - 1 - i = (limZ (2 ^ W.toNat) n).length - (i + 1) := sub_s1 _ _
      rw [hP, hkv, e, e2, q_step hB]
  case done =>
    rintro ⟨x, tx⟩ u2 h2 tk2 hP F2 N2
    dsimp only at F2 N2 hP
    rw [hrl, Nat.sub_self, q_zero] at hP
    subst hP
    clear F1 N1
    ((repeat' (((fail_if_success (with_reducible show wpAny _ _ (exec (PySem.Stmt.While _ _ _ _) _) _ _ _)); (fail_if_success (with_reducible show wpAny _ _ (pyIter _) _ _ _)); (fail_if_success (with_reducible show wpAny _ _ (eval (PySem.Expr.ListComp _ _ _ _) _) _ _ _)); (fail_if_success (with_reducible show LCg.CompSrc _ _ _ _ _ _ _ _ _ _ _ _ _ _)); (fail_if_success (with_reducible show wpAny _ _ (call (Value.ref _) _ _) _ _ _)); (first | ((with_reducible show wpAny _ _ (exec (PySem.Stmt.For _ _ _ _ _) _) _ _ _); (rename Fr _ _ _ _ => zF'); (with_unfolding_all refine' For_invVF zF' ?zk1 ?zk2 ?_; (case zk1 => exact rfl); (case zk2 => exact rfl); k_whole)) | (k_unfold; (try dsimp only)) | (k_end; wrow_close) | walk1 | (dsimp only; walk1) | (leave1; walk_say "STEP leave1"; try dsimp only) | (dsimp only; k_unfold; (try dsimp only)) | fail "no step")))); (all_goals (try (rename Fr _ _ _ _ => zF'; dsimp only at zF'))); (all_goals (try dsimp only)))
    k_dflt (refine' endM_of (tl := []) (by k_asm) (by k_asm) ?e1 ?e2 ?e3 ⟨rfl, _, rfl⟩)
    case e1 => walk_at "mine sub"
    case e2 => walk_at "mine sub"
    case e3 => walk_at "mine ne"

theorem digits_law_walk {w : World} {mean : ExcName → Option Value} {mg mb : Str → Option Value} {b n : Int} {t1 t2 : Tok} (hb : 1 < b) (hb2 : LtP b 2000) (hn : 0 ≤ n) (hn2 : LtP n 1000) :
    Does w mean mg mb 198 1 20 [.int n t1, .int b t2] [] (OutL (limZ b n).reverse) := by
  unfold Does
  k_fill
  intro dp u gd cn cs L a ccd cl outer A₀ base h₀ m s Q E B F X N T hk hd hu ret
  k_dflt (refine' enterM (binds := [(Str.ofString "n", .int n t1), (Str.ofString "base", .int b t2)]) ?k1 ?k2 ?k3 ?k4 ?k5 ?kA ?kF ?kK ?k6 ?k7 ?k8 ?k9 ?kB ?kR ?_ ?c2 ?c3 ?c4 ?c5; ((case kA => exact rfl); (case kF => exact rfl); (case kK => assumption); (case k1 => k_asm); (case k2 => k_asm); (case k3 => k_asm); (case k4 => k_asm); (case k5 => k_asm); (case kR => assumption); (case k6 => k_is); (case k7 => k_is); (case k8 => ((dsimp only); omega)); (case k9 => exact BindsTo.of_eq rfl); (case c5 => decide); (case kB => exact locs rfl); (case c2 => exact rfl); (case c3 => exact rfl); (case c4 => exact rfl); k_whole; intro g' L' h' F' N' B' X' T'; (try dsimp only); (try k_fold)))
  have hlen := limZ_len hb 1000 hn2
  ((repeat' (((fail_if_success (with_reducible show wpAny _ _ (exec (PySem.Stmt.While _ _ _ _) _) _ _ _)); (fail_if_success (with_reducible show wpAny _ _ (pyIter _) _ _ _)); (fail_if_success (with_reducible show wpAny _ _ (eval (PySem.Expr.ListComp _ _ _ _) _) _ _ _)); (fail_if_success (with_reducible show LCg.CompSrc _ _ _ _ _ _ _ _ _ _ _ _ _ _)); (fail_if_success (with_reducible show wpAny _ _ (call (Value.ref _) _ _) _ _ _)); (first | ((with_reducible show wpAny _ _ (exec (PySem.Stmt.For _ _ _ _ _) _) _ _ _); (rename Fr _ _ _ _ => zF'); (with_unfolding_all refine' For_invVF zF' ?zk1 ?zk2 ?_; (case zk1 => exact rfl); (case zk2 => exact rfl); k_whole)) | (k_unfold; (try dsimp only)) | (k_end; wrow_close) | walk1 | (dsimp only; walk1) | (leave1; walk_say "STEP leave1"; try dsimp only) | (dsimp only; k_unfold; (try dsimp only)) | fail "no step")))); (all_goals (try (rename Fr _ _ _ _ => zF'; dsimp only at zF'))); (all_goals (try dsimp only)))
  rename Fr _ _ _ _ => F1
  rename News _ _ _ _ => N1
  refine' while_M (σ := Int × Tok × Addr × List Value × List Int × Nat) (fun (n, t, f, vs, xs, k) => [(f, listOf vs.toArray k)])
    (fun (n, t, f, vs, xs, k) => [(Str.ofString "n", .int n t), (Str.ofString "base", .int b t2), (Str.ofString "found", .ref f)])
    (fun (m, t, f, vs, xs, k) => 0 ≤ m ∧ IntsAre vs xs ∧ (limZ b m).reverse ++ xs = (limZ b n).reverse) (fun (n, t, f, vs, xs, k) => n.toNat) (n, t1, _, [], [], _) F1 N1 ?zl ?zf ?zp ?turn (by passes_own)
  case zf => kst_all
  case zl => walk_at "mine sub"
  case zp => exact ⟨hn, .nil, List.append_nil _⟩
  case turn =>
    rintro ⟨m, t, f, vs, xs, k⟩ u2 h2 tk2 ⟨hm0, hi, hx⟩ F2 N2
    have hl : xs.length ≤ 1000 := len_app2 hx (by rw [List.length_reverse]; exact hlen)
    have hsz : vs.toArray.size ≤ sizeLine := sz_of hi (k := 1000) hl (by decide)
    dsimp only at F2 N2 ⊢
    clear F1 N1
    have e1 : m.fdiv b = m / b := fdB hb m
    have e2 : m.fmod b = m % b := fmB hb m
    ((repeat' (((fail_if_success (with_reducible show wpAny _ _ (exec (PySem.Stmt.While _ _ _ _) _) _ _ _)); (fail_if_success (with_reducible show wpAny _ _ (pyIter _) _ _ _)); (fail_if_success (with_reducible show wpAny _ _ (eval (PySem.Expr.ListComp _ _ _ _) _) _ _ _)); (fail_if_success (with_reducible show LCg.CompSrc _ _ _ _ _ _ _ _ _ _ _ _ _ _)); (fail_if_success (with_reducible show wpAny _ _ (call (Value.ref _) _ _) _ _ _)); (first | ((with_reducible show wpAny _ _ (exec (PySem.Stmt.For _ _ _ _ _) _) _ _ _); (rename Fr _ _ _ _ => zF'); (with_unfolding_all refine' For_invVF zF' ?zk1 ?zk2 ?_; (case zk1 => exact rfl); (case zk2 => exact rfl); k_whole)) | (k_unfold; (try dsimp only)) | (k_end; wrow_close) | walk1 | (dsimp only; walk1) | (leave1; walk_say "STEP leave1"; try dsimp only) | (dsimp only; k_unfold; (try dsimp only)) | fail "no step")))); (all_goals (try (rename Fr _ _ _ _ => zF'; dsimp only at zF'))); (all_goals (try dsimp only)))
    · have hpos : 0 < m := by assumption
      rename IntsAre _ _ => I3
      rename Fr _ _ _ _ => F3
      rename News _ _ _ _ => N3
      (try simp only [List.push_toArray] at N3)
      k_dflt (refine' wh_end (_, _, _, _, [m.fmod b] ++ xs, _) F3 N3 ?zl ?zf ?zp ?zm)
      case zf => kst_all
      case zl => walk_at "mine sub"
      case zp =>
        refine ⟨?_, I3, ?_⟩
        · rw [e1]; exact dv0 hb hm0
        · dsimp only; rw [e1, e2, ← hx, limZ_pos (n := m) hpos hb, List.reverse_cons, List.append_assoc]
      case zm =>
        dsimp only
        rw [e1]
        exact tn_lt (div_lt hpos hb) hpos
    · have : xs = (limZ b n).reverse := by rw [← hx, limZ_neg (by assumption)]; rfl
      subst this
      k_dflt (refine' endM_of (tl := [(_, _)]) (by k_asm) (by k_asm) ?ze1 ?ze2 ?ze3 ⟨_, _, _, rfl, rfl, hi⟩)
      case ze1 => walk_at "mine sub"
      case ze2 => walk_at "mine sub"
      case ze3 => walk_at "mine ne"

theorem nat_of_walk {w : World} {mean : ExcName → Option Value} {mg mb : Str → Option Value} {W n : Int} {t1 t2 : Tok} (hW : 1 ≤ W) (hW2 : W ≤ 8) (hn : 0 ≤ n) (hn2 : LtP n 1000) :
    Does w mean mg mb 65 1 20 [.int n t1, .int W t2] [] (OutL (limZ (2 ^ W.toNat) n)) := by
  unfold Does
  k_fill
  intro dp u gd cn cs L a ccd cl outer A₀ base h₀ m s Q E B F X N T hk hd hu ret
  k_dflt (refine' enterM (binds := [(Str.ofString "number", .int n t1), (Str.ofString "w", .int W t2)]) ?k1 ?k2 ?k3 ?k4 ?k5 ?kA ?kF ?kK ?k6 ?k7 ?k8 ?k9 ?kB ?kR ?_ ?c2 ?c3 ?c4 ?c5; ((case kA => exact rfl); (case kF => exact rfl); (case kK => assumption); (case k1 => k_asm); (case k2 => k_asm); (case k3 => k_asm); (case k4 => k_asm); (case k5 => k_asm); (case kR => assumption); (case k6 => k_is); (case k7 => k_is); (case k8 => ((dsimp only); omega)); (case k9 => exact BindsTo.of_eq rfl); (case c5 => decide); (case kB => exact locs rfl); (case c2 => exact rfl); (case c3 => exact rfl); (case c4 => exact rfl); k_whole; intro g' L' h' F' N' B' X' T'; (try dsimp only); (try k_fold)))
  have hB := pow2_gt hW
  have hlen := limZ_len hB 1000 hn2
  ((repeat' (((fail_if_success (with_reducible show wpAny _ _ (exec (PySem.Stmt.While _ _ _ _) _) _ _ _)); (fail_if_success (with_reducible show wpAny _ _ (pyIter _) _ _ _)); (fail_if_success (with_reducible show wpAny _ _ (eval (PySem.Expr.ListComp _ _ _ _) _) _ _ _)); (fail_if_success (with_reducible show LCg.CompSrc _ _ _ _ _ _ _ _ _ _ _ _ _ _)); (fail_if_success (with_reducible show wpAny _ _ (call (Value.ref _) _ _) _ _ _)); (first | ((with_reducible show wpAny _ _ (exec (PySem.Stmt.For _ _ _ _ _) _) _ _ _); (rename Fr _ _ _ _ => zF'); (with_unfolding_all refine' For_invVF zF' ?zk1 ?zk2 ?_; (case zk1 => exact rfl); (case zk2 => exact rfl); k_whole)) | (k_unfold; (try dsimp only)) | (k_end; wrow_close) | walk1 | (dsimp only; walk1) | (leave1; walk_say "STEP leave1"; try dsimp only) | (dsimp only; k_unfold; (try dsimp only)) | fail "no step")))); (all_goals (try (rename Fr _ _ _ _ => zF'; dsimp only at zF'))); (all_goals (try dsimp only)))
  rename Fr _ _ _ _ => F1
  rename News _ _ _ _ => N1
  refine' while_M (σ := Int × Tok × Addr × List Value × List Int × Nat × Tok) (fun (n, t, f, vs, xs, k, tm) => [(f, listOf vs.toArray k)])
    (fun (n, t, f, vs, xs, k, tm) => [(Str.ofString "number", .int n t), (Str.ofString "w", .int W t2), (Str.ofString "mask", .int (1 * 2 ^ W.toNat - 1) tm), (Str.ofString "found", .ref f)])
    (fun (m, t, f, vs, xs, k, tm) => 0 ≤ m ∧ IntsAre vs xs ∧ xs ++ limZ (2 ^ W.toNat) m = limZ (2 ^ W.toNat) n) (fun (n, t, f, vs, xs, k, tm) => n.toNat) (n, t1, _, [], [], _, _) F1 N1 ?zl ?zf ?zp ?turn (by passes_own)
  case zf => kst_all
  case zl => walk_at "mine sub"
  case zp => exact ⟨hn, .nil, rfl⟩
  case turn =>
    rintro ⟨m, t, f, vs, xs, k, tm⟩ u2 h2 tk2 ⟨hm0, hi, hx⟩ F2 N2
    have hsz : vs.toArray.size ≤ sizeLine := sz_app hi hx hlen
    dsimp only at F2 N2 ⊢
    clear F1 N1
    have e1 : m.fdiv (2 ^ W.toNat) = m / 2 ^ W.toNat := fdB hB m
    have e2 : Builtin.bitAnd m (1 * 2 ^ W.toNat - 1) = m % 2 ^ W.toNat := by rw [Int.one_mul]; exact kbt_mask _ _
    ((repeat' (((fail_if_success (with_reducible show wpAny _ _ (exec (PySem.Stmt.While _ _ _ _) _) _ _ _)); (fail_if_success (with_reducible show wpAny _ _ (pyIter _) _ _ _)); (fail_if_success (with_reducible show wpAny _ _ (eval (PySem.Expr.ListComp _ _ _ _) _) _ _ _)); (fail_if_success (with_reducible show LCg.CompSrc _ _ _ _ _ _ _ _ _ _ _ _ _ _)); (fail_if_success (with_reducible show wpAny _ _ (call (Value.ref _) _ _) _ _ _)); (first | ((with_reducible show wpAny _ _ (exec (PySem.Stmt.For _ _ _ _ _) _) _ _ _); (rename Fr _ _ _ _ => zF'); (with_unfolding_all refine' For_invVF zF' ?zk1 ?zk2 ?_; (case zk1 => exact rfl); (case zk2 => exact rfl); k_whole)) | (k_unfold; (try dsimp only)) | (k_end; wrow_close) | walk1 | (dsimp only; walk1) | (leave1; walk_say "STEP leave1"; try dsimp only) | (dsimp only; k_unfold; (try dsimp only)) | fail "no step")))); (all_goals (try (rename Fr _ _ _ _ => zF'; dsimp only at zF'))); (all_goals (try dsimp only)))
    · have hpos : 0 < m := by assumption
      rename Fr _ _ _ _ => F3
      rename News _ _ _ _ => N3
      (try simp only [List.push_toArray] at N3)
      k_dflt (refine' wh_end (_, _, _, _, xs ++ [Builtin.bitAnd m (1 * 2 ^ W.toNat - 1)], _, _) F3 N3 ?zl ?zf ?zp ?zm)
      case zf => kst_all
      case zl => walk_at "mine sub"
      case zp =>
        refine ⟨?_, ints_snoc hi, ?_⟩
        · rw [e1]; exact dv0 hB hm0
        · dsimp only; rw [e1, e2, List.append_assoc, ← hx, limZ_pos (n := m) hpos hB]; rfl
      case zm =>
        dsimp only
        rw [e1]
        exact tn_lt (div_lt hpos hB) hpos
    · have : xs = limZ (2 ^ W.toNat) n := by rw [← hx, limZ_neg (by assumption), List.append_nil]
      subst this
      k_dflt (refine' endM_of (tl := [(_, _)]) (by k_asm) (by k_asm) ?ze1 ?ze2 ?ze3 ⟨_, _, _, rfl, rfl, hi⟩)
      case ze1 => walk_at "mine sub"
      case ze2 => walk_at "mine sub"
      case ze3 => walk_at "mine ne"


end
section
example : True := by
  w_top off
  trivial
theorem pow2_le {W : Int} (hW : 1 ≤ W) (hW2 : W ≤ 8) : (2 : Int) ^ W.toNat ≤ 256 := by
  have h : W.toNat ≤ 8 := Int.toNat_le.mpr hW2
  have e : (2 : Int) ^ W.toNat = ((2 ^ W.toNat : Nat) : Int) := by push_cast; rfl
  rw [e]
  exact Int.ofNat_le.mpr (Nat.le_trans (Nat.pow_le_pow_right (by decide) h) (by decide))
theorem LtP.small {n : Int} (h : n < 65536) : LtP n 1000 := LtP.up (k := 16) (show n < 2 ^ 16 by omega) (by omega)
theorem LtP.small2 {n : Int} (h : n < 65536) : LtP n 2000 := LtP.up (k := 16) (show n < 2 ^ 16 by omega) (by omega)
theorem lim_one {B c : Int} (h0 : 0 < c) (h1 : c < B) : limZ B c = [c] := by
  rw [limZ_pos h0 (by omega), Int.emod_eq_of_lt (by omega) h1, Int.ediv_eq_zero_of_lt (by omega) h1, limZ_neg (Int.lt_irrefl _)]
/-- one turn of a carry: the sum's digit and the rest -/
theorem carry_step {B S R : Int} (hB : 1 < B) (hp : 0 < S + R * B) : limZ B (S + R * B) = S % B :: limZ B (R + S / B) := by
  rw [limZ_pos hp hB, Int.add_mul_emod_self_right, Int.add_mul_ediv_right _ _ (by omega), Int.add_comm]

theorem mul_limb_walk {w : World} {mean : ExcName → Option Value} {mg mb : Str → Option Value} {W n c : Int} {t1 t2 : Tok} {l : Addr} {ws : List Value} {nn : Nat} (hW : 1 ≤ W) (hW2 : W ≤ 8) (hn : 0 ≤ n) (hn2 : LtP n 1000) (hnc : LtP (n * c) 1000) (hc : 0 < c) (hc2 : c < 2 ^ W.toNat) (hws : IntsAre ws (limZ (2 ^ W.toNat) n)) :
    Does w mean mg mb 86 1 20 [.ref l, .int c t1, .int W t2] [(l, listOf ws.toArray nn)] (OutL (limZ (2 ^ W.toNat) (n * c))) := by
  unfold Does
  k_fill
  intro dp u gd cn cs L a ccd cl outer A₀ base h₀ m s Q E B F X N T hk hd hu ret
  k_dflt (refine' enterM (binds := [(Str.ofString "a", .ref l), (Str.ofString "limb", .int c t1), (Str.ofString "w", .int W t2)]) ?k1 ?k2 ?k3 ?k4 ?k5 ?kA ?kF ?kK ?k6 ?k7 ?k8 ?k9 ?kB ?kR ?_ ?c2 ?c3 ?c4 ?c5; ((case kA => exact rfl); (case kF => exact rfl); (case kK => assumption); (case k1 => k_asm); (case k2 => k_asm); (case k3 => k_asm); (case k4 => k_asm); (case k5 => k_asm); (case kR => assumption); (case k6 => k_is); (case k7 => k_is); (case k8 => ((dsimp only); omega)); (case k9 => exact BindsTo.of_eq rfl); (case c5 => decide); (case kB => exact locs rfl); (case c2 => exact rfl); (case c3 => exact rfl); (case c4 => exact rfl); k_whole; intro g' L' h' F' N' B' X' T'; (try dsimp only); (try k_fold)))
  have hB := pow2_gt hW
  have hB2 := pow2_le hW hW2
  have hlen := limZ_len hB 1000 hnc
  have hc0 : 0 ≤ c := Int.le_of_lt hc
  have hcl : LtP c 2000 := LtP.small2 (lt_small hc2 hB2)
  ((repeat' (((fail_if_success (with_reducible show wpAny _ _ (exec (PySem.Stmt.While _ _ _ _) _) _ _ _)); (fail_if_success (with_reducible show wpAny _ _ (pyIter _) _ _ _)); (fail_if_success (with_reducible show wpAny _ _ (eval (PySem.Expr.ListComp _ _ _ _) _) _ _ _)); (fail_if_success (with_reducible show LCg.CompSrc _ _ _ _ _ _ _ _ _ _ _ _ _ _)); (fail_if_success (with_reducible show wpAny _ _ (call (Value.ref _) _ _) _ _ _)); (first | ((with_reducible show wpAny _ _ (exec (PySem.Stmt.For _ _ _ _ _) _) _ _ _); (rename Fr _ _ _ _ => zF'); (with_unfolding_all refine' For_invVF zF' ?zk1 ?zk2 ?_; (case zk1 => exact rfl); (case zk2 => exact rfl); k_whole)) | (k_unfold; (try dsimp only)) | (k_end; wrow_close) | walk1 | (dsimp only; walk1) | (leave1; walk_say "STEP leave1"; try dsimp only) | (dsimp only; k_unfold; (try dsimp only)) | fail "no step")))); (all_goals (try (rename Fr _ _ _ _ => zF'; dsimp only at zF'))); (all_goals (try dsimp only)))
  · exfalso; omega
  rename Fr _ _ _ _ => F1
  rename News _ _ _ _ => N1
  refine' for_listM (σ := Int × Tok × Addr × List Value × List Int × Nat × Tok) (fun (x, t, f, vs, xs, k, tm) => [(l, listOf ws.toArray nn), (f, listOf vs.toArray k)])
    (fun (x, t, f, vs, xs, k, tm) => [(Str.ofString "w", .int W t2), (Str.ofString "limb", .int c t1), (Str.ofString "carry", .int x t), (Str.ofString "mask", .int (1 * 2 ^ W.toNat - 1) tm), (Str.ofString "found", .ref f)])
    (fun i (x, t, f, vs, xs, k, tm) => @Ne Nat l f ∧ 0 ≤ x ∧ x < 2 ^ W.toNat ∧ IntsAre vs xs ∧ xs ++ limZ (2 ^ W.toNat) (n / (2 ^ W.toNat) ^ i * c + x) = limZ (2 ^ W.toNat) (n * c)) (0, _, _, [], [], _, _) rfl (fun _ => List.Mem.head _) hws F1 N1 ?zl ?zf ?zp ?turn ?done
  case zf => kst_all
  case zl => walk_at "mine sub"
  case zp => exact ⟨by omega, by omega, by omega, .nil, by (try dsimp only); rw [q_zero, Int.add_zero]; rfl⟩
  case turn =>
    rintro i k t ⟨x, tx, f, vs, xs, kc, tm⟩ u2 h2 tk2 I oi hk hi ⟨hlf, hx0, hx1, hI, hx⟩ hne F2 N2
    rw [lim_get hB hn _ hi] at hk
    have hkv := (Option.some.inj hk).symm
    have hq := q_step (n := n) hB i
    have hM : 0 < n / (2 ^ W.toNat) ^ i := (lim_lt hB hn i).mp hi
    have hk0 : 0 ≤ k := by rw [hkv]; exact md0 hB _
    have hk1 : k < 2 ^ W.toNat := by rw [hkv]; exact md1 hB _
    have hkl : LtP k 2000 := LtP.small2 (lt_small hk1 hB2)
    rw [← hkv] at hq
    (try dsimp only at F2)
    (try dsimp only at N2)
    (try dsimp only at hx)
    (try dsimp only at hx0)
    (try dsimp only at hx1)
    (try dsimp only at hI)
    (try dsimp only at hlf)
    (try dsimp only)
    have hsz : vs.toArray.size ≤ sizeLine := sz_app hI hx hlen
    clear F1 N1
    have hneK := hne
    simp only [Ne1, and_true] at hne
    have e1 : (x + k * c).fdiv (2 ^ W.toNat) = (x + k * c) / 2 ^ W.toNat := fdB hB _
    have e2 : Builtin.bitAnd (x + k * c) (1 * 2 ^ W.toNat - 1) = (x + k * c) % 2 ^ W.toNat := by rw [Int.one_mul]; exact kbt_mask _ _
    have hkc : 0 ≤ k * c := Int.mul_nonneg hk0 hc0
    have hkc2 : k * c ≤ (2 ^ W.toNat - 1) * (2 ^ W.toNat - 1) := Int.mul_le_mul (Int.le_sub_one_of_lt hk1) (Int.le_sub_one_of_lt hc2) hc0 (Int.sub_nonneg_of_le (Int.le_of_lt hB))
    ((repeat' (((fail_if_success (with_reducible show wpAny _ _ (exec (PySem.Stmt.While _ _ _ _) _) _ _ _)); (fail_if_success (with_reducible show wpAny _ _ (pyIter _) _ _ _)); (fail_if_success (with_reducible show wpAny _ _ (eval (PySem.Expr.ListComp _ _ _ _) _) _ _ _)); (fail_if_success (with_reducible show LCg.CompSrc _ _ _ _ _ _ _ _ _ _ _ _ _ _)); (fail_if_success (with_reducible show wpAny _ _ (call (Value.ref _) _ _) _ _ _)); (first | ((with_reducible show wpAny _ _ (exec (PySem.Stmt.For _ _ _ _ _) _) _ _ _); (rename Fr _ _ _ _ => zF'); (with_unfolding_all refine' For_invVF zF' ?zk1 ?zk2 ?_; (case zk1 => exact rfl); (case zk2 => exact rfl); k_whole)) | (k_unfold; (try dsimp only)) | (k_end; wrow_close) | walk1 | (dsimp only; walk1) | (leave1; walk_say "STEP leave1"; try dsimp only) | (dsimp only; k_unfold; (try dsimp only)) | fail "no step")))); (all_goals (try (rename Fr _ _ _ _ => zF'; dsimp only at zF'))); (all_goals (try dsimp only)))
    ·
      rename Fr _ _ _ _ => F3
      rename News _ _ _ _ => N3
      (try simp only [List.push_toArray] at N3)
      k_dflt (refine' fo_end (_, _, _, _, xs ++ [Builtin.bitAnd (x + k * c) (1 * 2 ^ W.toNat - 1)], _, _) F3 N3 ?zl ?zi ?zn ?zf ?zp)
      case zf => kst_all
      case zl => walk_at "mine sub"
      case zi => k_mem
      case zn => (first | exact ne1_all (by assumption) | (dsimp only; k_all))
      case zp =>
        obtain ⟨k1, k2, k3⟩ := carryM hB hM hc hc2 hq hk0 hk1 hx0 hx1 hx
        refine ⟨hlf, ?_, ?_, ints_snoc hI, ?_⟩
        · rw [e1]; exact k1
        · rw [e1]; exact k2
        · dsimp only; rw [e1, e2]; exact k3
  case done =>
    rintro ⟨x, tx, f, vs, xs, kc, tm⟩ u2 h2 tk2 ⟨hlf, hx0, hx1, hI, hx⟩ F2 N2
    rw [lim_end hB hn, Int.zero_mul, Int.zero_add] at hx
    (try dsimp only at F2)
    (try dsimp only at N2)
    (try dsimp only at hx)
    (try dsimp only at hx0)
    (try dsimp only at hx1)
    (try dsimp only at hI)
    (try dsimp only at hlf)
    (try dsimp only)
    have hsz : vs.toArray.size ≤ sizeLine := sz_app hI hx hlen
    clear F1 N1
    ((repeat' (((fail_if_success (with_reducible show wpAny _ _ (exec (PySem.Stmt.While _ _ _ _) _) _ _ _)); (fail_if_success (with_reducible show wpAny _ _ (pyIter _) _ _ _)); (fail_if_success (with_reducible show wpAny _ _ (eval (PySem.Expr.ListComp _ _ _ _) _) _ _ _)); (fail_if_success (with_reducible show LCg.CompSrc _ _ _ _ _ _ _ _ _ _ _ _ _ _)); (fail_if_success (with_reducible show wpAny _ _ (call (Value.ref _) _ _) _ _ _)); (first | ((with_reducible show wpAny _ _ (exec (PySem.Stmt.For _ _ _ _ _) _) _ _ _); (rename Fr _ _ _ _ => zF'); (with_unfolding_all refine' For_invVF zF' ?zk1 ?zk2 ?_; (case zk1 => exact rfl); (case zk2 => exact rfl); k_whole)) | (k_unfold; (try dsimp only)) | (k_end; wrow_close) | walk1 | (dsimp only; walk1) | (leave1; walk_say "STEP leave1"; try dsimp only) | (dsimp only; k_unfold; (try dsimp only)) | fail "no step")))); (all_goals (try (rename Fr _ _ _ _ => zF'; dsimp only at zF'))); (all_goals (try dsimp only)))
    · rename News _ _ _ _ => N3
      simp only [List.push_toArray] at N3
      rw [lim_one (by assumption) hx1] at hx
      rw [← hx]
      k_dflt (refine' endM_of (tl := [(_, _)]) (by k_asm) (by k_asm) ?ze1 ?ze2 ?ze3 ⟨_, _, _, rfl, rfl, ints_snoc hI⟩)
      case ze1 => walk_at "mine sub"
      case ze2 => walk_at "mine sub"
      case ze3 => walk_at "mine ne"
    · rw [limZ_neg (by omega), List.append_nil] at hx
      rw [← hx]
      k_dflt (refine' endM_of (tl := [(_, _)]) (by k_asm) (by k_asm) ?ze1 ?ze2 ?ze3 ⟨_, _, _, rfl, rfl, hI⟩)
      case ze1 => walk_at "mine sub"
      case ze2 => walk_at "mine sub"
      case ze3 => walk_at "mine ne"


end
section
example : True := by
  w_top off
  trivial
theorem cmp_len {B m n : Int} (hB : 1 < B) (hm : 0 ≤ m) (hn : 0 ≤ n) (h : (limZ B m).length < (limZ B n).length) : m < n := by
  have h1 := (lim_lt hB hn _).mp h
  have h2 := lim_end hB hm
  rcases Int.lt_or_le m n with h3 | h3
  · exact h3
  · have := Int.ediv_le_ediv (pow_posB hB (limZ B m).length) h3
    omega
theorem cmp_dig {B m n : Int} (hB : 1 < B) {j : Nat} (h : m / B ^ (j + 1) = n / B ^ (j + 1)) (hd : m / B ^ j % B < n / B ^ j % B) : m < n := by
  have h1 := q_step (n := m) hB j
  have h2 := q_step (n := n) hB j
  rw [h] at h1
  rcases Int.lt_or_le m n with h3 | h3
  · exact h3
  · have := Int.ediv_le_ediv (pow_posB hB j) h3
    omega

theorem lim_getD {B n : Int} (hB : 1 < B) (hn : 0 ≤ n) {j : Nat} (h : j < (limZ B n).length) : (limZ B n).getD ((j : Nat) : Int).toNat 0 = n / B ^ j % B := by
  rw [Int.toNat_natCast, List.getD_eq_getElem?_getD, lim_get hB hn j h]; rfl

theorem compare_walk {w : World} {mean : ExcName → Option Value} {mg mb : Str → Option Value} {BB n k : Int} {l l2 : Addr} {ws vs : List Value} {nn kk : Nat} (hB : 1 < BB) (hn : 0 ≤ n) (hk0 : 0 ≤ k) (hn2 : LtP n 1000) (hk2 : LtP k 1000) (hws : IntsAre ws (limZ BB n)) (hvs : IntsAre vs (limZ BB k)) :
    Does w mean mg mb 72 1 20 [.ref l, .ref l2] [(l, listOf ws.toArray nn), (l2, listOf vs.toArray kk)] (OutI (if n < k then -1 else if n = k then 0 else 1)) := by
  unfold Does
  k_fill
  intro dp u gd cn cs L a ccd cl outer A₀ base h₀ m s Q E B F X N T hk hd hu ret
  k_dflt (refine' enterM (binds := [(Str.ofString "a", .ref l), (Str.ofString "b", .ref l2)]) ?k1 ?k2 ?k3 ?k4 ?k5 ?kA ?kF ?kK ?k6 ?k7 ?k8 ?k9 ?kB ?kR ?_ ?c2 ?c3 ?c4 ?c5; ((case kA => exact rfl); (case kF => exact rfl); (case kK => assumption); (case k1 => k_asm); (case k2 => k_asm); (case k3 => k_asm); (case k4 => k_asm); (case k5 => k_asm); (case kR => assumption); (case k6 => k_is); (case k7 => k_is); (case k8 => ((dsimp only); omega)); (case k9 => exact BindsTo.of_eq rfl); (case c5 => decide); (case kB => exact locs rfl); (case c2 => exact rfl); (case c3 => exact rfl); (case c4 => exact rfl); k_whole; intro g' L' h' F' N' B' X' T'; (try dsimp only); (try k_fold)))
  have hl1 := limZ_len hB 1000 hn2
  have hl2 := limZ_len hB 1000 hk2
  ((repeat' (((fail_if_success (with_reducible show wpAny _ _ (exec (PySem.Stmt.While _ _ _ _) _) _ _ _)); (fail_if_success (with_reducible show wpAny _ _ (pyIter _) _ _ _)); (fail_if_success (with_reducible show wpAny _ _ (eval (PySem.Expr.ListComp _ _ _ _) _) _ _ _)); (fail_if_success (with_reducible show LCg.CompSrc _ _ _ _ _ _ _ _ _ _ _ _ _ _)); (fail_if_success (with_reducible show wpAny _ _ (call (Value.ref _) _ _) _ _ _)); (first | ((with_reducible show wpAny _ _ (exec (PySem.Stmt.For _ _ _ _ _) _) _ _ _); (rename Fr _ _ _ _ => zF'); (with_unfolding_all refine' For_invVF zF' ?zk1 ?zk2 ?_; (case zk1 => exact rfl); (case zk2 => exact rfl); k_whole)) | (k_unfold; (try dsimp only)) | (k_end; wrow_close) | walk1 | (dsimp only; walk1) | (leave1; walk_say "STEP leave1"; try dsimp only) | (dsimp only; k_unfold; (try dsimp only)) | fail "no step")))); (all_goals (try (rename Fr _ _ _ _ => zF'; dsimp only at zF'))); (all_goals (try dsimp only)))
  · have : n < k := cmp_len hB hn hk0 (by omega)
    k_dflt (refine' endM_of (tl := []) (by k_asm) (by k_asm) ?ze1 ?ze2 ?ze3 ⟨rfl, _, by rw [if_pos this]⟩)
    case ze1 => walk_at "mine sub"
    case ze2 => walk_at "mine sub"
    case ze3 => walk_at "mine ne"
  · have : k < n := cmp_len hB hk0 hn (by omega)
    k_dflt (refine' endM_of (tl := []) (by k_asm) (by k_asm) ?ze1 ?ze2 ?ze3 ⟨rfl, _, by rw [if_neg (by omega), if_neg (by omega)]⟩)
    case ze1 => walk_at "mine sub"
    case ze2 => walk_at "mine sub"
    case ze3 => walk_at "mine ne"
  have hll : (limZ BB n).length = (limZ BB k).length := by omega
  rename IsRange _ _ _ _ _ _ _ _ => R1
  rename Fr _ _ _ _ => F1
  rename News _ _ _ _ => N1
  refine' for_rangeM (σ := Unit) (n := (limZ BB n).length) (fun _ => [(l, listOf ws.toArray nn), (l2, listOf vs.toArray kk)])
    (fun _ => [(Str.ofString "a", .ref l), (Str.ofString "b", .ref l2)])
    (fun i _ => n / BB ^ ((limZ BB n).length - i) = k / BB ^ ((limZ BB n).length - i)) () rfl R1 (dn_small hl1) dn_size F1 N1 ?zl ?zf ?zp ?turn ?done
  case zf => kst_all
  case zl => walk_at "mine sub"
  case zp => (try dsimp only); rw [Nat.sub_zero, lim_end hB hn, hll, lim_end hB hk0]
  case turn =>
    rintro i t c u2 h2 tk2 I oi hi hP hne F2 N2
    (try dsimp only at F2)
    (try dsimp only at N2)
    (try dsimp only at hP)
    (try dsimp only)
    clear F1 N1
    obtain ⟨j, hjd⟩ := dn_ex hi
    rw [dn_at hjd] at F2
    have hjl := dn_lt hjd
    have hjl2 : j < (limZ BB k).length := hll ▸ hjl
    have e1 := lim_getD hB hn hjl
    have e2 := lim_getD hB hk0 hjl2
    rw [dn_s hjd] at hP
    ((repeat' (((fail_if_success (with_reducible show wpAny _ _ (exec (PySem.Stmt.While _ _ _ _) _) _ _ _)); (fail_if_success (with_reducible show wpAny _ _ (pyIter _) _ _ _)); (fail_if_success (with_reducible show wpAny _ _ (eval (PySem.Expr.ListComp _ _ _ _) _) _ _ _)); (fail_if_success (with_reducible show LCg.CompSrc _ _ _ _ _ _ _ _ _ _ _ _ _ _)); (fail_if_success (with_reducible show wpAny _ _ (call (Value.ref _) _ _) _ _ _)); (first | ((with_reducible show wpAny _ _ (exec (PySem.Stmt.For _ _ _ _ _) _) _ _ _); (rename Fr _ _ _ _ => zF'); (with_unfolding_all refine' For_invVF zF' ?zk1 ?zk2 ?_; (case zk1 => exact rfl); (case zk2 => exact rfl); k_whole)) | (k_unfold; (try dsimp only)) | (k_end; wrow_close) | walk1 | (dsimp only; walk1) | (leave1; walk_say "STEP leave1"; try dsimp only) | (dsimp only; k_unfold; (try dsimp only)) | fail "no step")))); (all_goals (try (rename Fr _ _ _ _ => zF'; dsimp only at zF'))); (all_goals (try dsimp only)))
    · have : n < k := cmp_dig hB hP (by rw [← e1, ← e2]; assumption)
      k_dflt (refine' endM_of (tl := []) (by k_asm) (by k_asm) ?ze1 ?ze2 ?ze3 ⟨rfl, _, by rw [if_pos this]⟩)
      case ze1 => walk_at "mine sub"
      case ze2 => walk_at "mine sub"
      case ze3 => walk_at "mine ne"
    · have : k < n := cmp_dig hB hP.symm (by rw [← e1, ← e2]; omega)
      k_dflt (refine' endM_of (tl := []) (by k_asm) (by k_asm) ?ze1 ?ze2 ?ze3 ⟨rfl, _, by rw [if_neg (by omega), if_neg (by omega)]⟩)
      case ze1 => walk_at "mine sub"
      case ze2 => walk_at "mine sub"
      case ze3 => walk_at "mine ne"
    · have hd : n / BB ^ j % BB = k / BB ^ j % BB := by rw [← e1, ← e2]; first | assumption | omega
      rename Fr _ _ _ _ => F3
      rename News _ _ _ _ => N3
      (try simp only [List.push_toArray] at N3)
      k_dflt (refine' fo_end () F3 N3 ?zl ?zi ?zn ?zf ?zp)
      case zf => kst_all
      case zl => walk_at "mine sub"
      case zi => k_mem
      case zn => (first | exact ne1_all (by assumption) | (dsimp only; k_all))
      case zp =>
        (try dsimp only)
        have h1 := q_step (n := n) hB j
        have h2 := q_step (n := k) hB j
        rw [dn_s1 hjd, ← h1, ← h2, hP, hd]
  case done =>
    rintro c u2 h2 tk2 hP F2 N2
    (try dsimp only at F2)
    (try dsimp only at N2)
    (try dsimp only at hP)
    (try dsimp only)
    clear F1 N1
    rw [Nat.sub_self, q_zero, q_zero] at hP
    ((repeat' (((fail_if_success (with_reducible show wpAny _ _ (exec (PySem.Stmt.While _ _ _ _) _) _ _ _)); (fail_if_success (with_reducible show wpAny _ _ (pyIter _) _ _ _)); (fail_if_success (with_reducible show wpAny _ _ (eval (PySem.Expr.ListComp _ _ _ _) _) _ _ _)); (fail_if_success (with_reducible show LCg.CompSrc _ _ _ _ _ _ _ _ _ _ _ _ _ _)); (fail_if_success (with_reducible show wpAny _ _ (call (Value.ref _) _ _) _ _ _)); (first | ((with_reducible show wpAny _ _ (exec (PySem.Stmt.For _ _ _ _ _) _) _ _ _); (rename Fr _ _ _ _ => zF'); (with_unfolding_all refine' For_invVF zF' ?zk1 ?zk2 ?_; (case zk1 => exact rfl); (case zk2 => exact rfl); k_whole)) | (k_unfold; (try dsimp only)) | (k_end; wrow_close) | walk1 | (dsimp only; walk1) | (leave1; walk_say "STEP leave1"; try dsimp only) | (dsimp only; k_unfold; (try dsimp only)) | fail "no step")))); (all_goals (try (rename Fr _ _ _ _ => zF'; dsimp only at zF'))); (all_goals (try dsimp only)))
    k_dflt (refine' endM_of (tl := []) (by k_asm) (by k_asm) ?ze1 ?ze2 ?ze3 ⟨rfl, _, by rw [if_neg (by omega), if_pos hP]⟩)
    case ze1 => walk_at "mine sub"
    case ze2 => walk_at "mine sub"
    case ze3 => walk_at "mine ne"


end
section
example : True := by
  w_top off
  trivial
theorem endM_sub {s : Shared} {g : Heap} {L' : Addr} {news newsB : List (Addr × Obj)} {Out : List (Addr × Obj) → Value → Prop} {v : Value} {s' : Shared} (hs : ∀ p ∈ news, p ∈ newsB) (h : EndM s g L' newsB Out v s') : EndM s g L' news Out v s' := by
  obtain ⟨h', tk, m', news', tl, e, F, N, hn, ht, ho, out⟩ := h
  exact ⟨h', tk, m', news', tl, e, F, N, fun p hp => hn p (hs p hp), ht, fun p hp q hq => ho p hp q (hs q hq), out⟩
noncomputable def AddMid (s : Shared) (g' : Heap) (L' : Addr) (B : Int) (wv : Value) (m : Int) (news : List (Addr × Obj)) (fl : Flow) (s2 : Shared) : Prop :=
  fl = .next ∧ ∃ (la lb : Addr) (va vb : List Value) (na nb : Nat) (y z : Int) (h : Heap) (tk : Nat) (u : Str → Option Value), s2 = { s with heap := h, toks := tk } ∧ Fr g' L' h (kstB u [(Str.ofString "a", .ref la), (Str.ofString "b", .ref lb), (Str.ofString "w", wv)]) ∧ News g' L' h [(la, listOf va.toArray na), (lb, listOf vb.toArray nb)]
    ∧ IntsAre va (limZ B y) ∧ IntsAre vb (limZ B z) ∧ 0 ≤ y ∧ 0 ≤ z ∧ (limZ B y).length ≤ 1000 ∧ (limZ B z).length ≤ (limZ B y).length ∧ y + z = m
    ∧ (∀ p ∈ news, p ∈ [(la, listOf va.toArray na), (lb, listOf vb.toArray nb)])
theorem fr_kst {h₀ g : Heap} {L : Addr} {m : Str → Option Value} {ps : List (Str × Value)} (F : Fr h₀ L g m) (hm : ∀ p ∈ ps, m p.1 = some p.2) : Fr h₀ L g (kstB m ps) := by rw [kst_self hm]; exact F
theorem add_walk {w : World} {mean : ExcName → Option Value} {mg mb : Str → Option Value} {W n c : Int} {t2 : Tok} {l l2 : Addr} {ws vs : List Value} {nn kk : Nat} (hW : 1 ≤ W) (hW2 : W ≤ 8) (hn : 0 ≤ n) (hc0 : 0 ≤ c) (hn2 : LtP n 900) (hc2 : LtP c 900) (hws : IntsAre ws (limZ (2 ^ W.toNat) n)) (hvs : IntsAre vs (limZ (2 ^ W.toNat) c)) :
    Does w mean mg mb 79 1 20 [.ref l, .ref l2, .int W t2] [(l, listOf ws.toArray nn), (l2, listOf vs.toArray kk)] (OutL (limZ (2 ^ W.toNat) (n + c))) := by
  unfold Does
  k_fill
  intro dp u gd cn cs L a ccd cl outer A₀ base h₀ m s Q E B F X N T hk hd hu ret
  k_dflt (refine' enterM (binds := [(Str.ofString "a", .ref l), (Str.ofString "b", .ref l2), (Str.ofString "w", .int W t2)]) ?k1 ?k2 ?k3 ?k4 ?k5 ?kA ?kF ?kK ?k6 ?k7 ?k8 ?k9 ?kB ?kR ?_ ?c2 ?c3 ?c4 ?c5; ((case kA => exact rfl); (case kF => exact rfl); (case kK => assumption); (case k1 => k_asm); (case k2 => k_asm); (case k3 => k_asm); (case k4 => k_asm); (case k5 => k_asm); (case kR => assumption); (case k6 => k_is); (case k7 => k_is); (case k8 => ((dsimp only); omega)); (case k9 => exact BindsTo.of_eq rfl); (case c5 => decide); (case kB => exact locs rfl); (case c2 => exact rfl); (case c3 => exact rfl); (case c4 => exact rfl); k_whole; intro g' L' h' F' N' B' X' T'; (try dsimp only); (try k_fold)))
  have hB := pow2_gt hW
  have hB2 := pow2_le hW hW2
  have hl1 := limZ_len hB 1000 (hn2.up (by omega))
  have hl2 := limZ_len hB 1000 (hc2.up (by omega))
  have hlen := limZ_len hB 1000 ((hn2.add hc2).up (by omega))
  walk1
  rename Fr _ _ _ _ => F0
  rename News _ _ _ _ => N0
  refine wpAny_mono (Q := AddMid s g' L' (2 ^ W.toNat) (.int W t2) (n + c) [(l, listOf ws.toArray nn), (l2, listOf vs.toArray kk)]) ?first (fun fl s2 hm => ?second) (fun _ _ e => e)
  case first =>
    ((repeat' (((fail_if_success (with_reducible show wpAny _ _ (exec (PySem.Stmt.While _ _ _ _) _) _ _ _)); (fail_if_success (with_reducible show wpAny _ _ (pyIter _) _ _ _)); (fail_if_success (with_reducible show wpAny _ _ (eval (PySem.Expr.ListComp _ _ _ _) _) _ _ _)); (fail_if_success (with_reducible show LCg.CompSrc _ _ _ _ _ _ _ _ _ _ _ _ _ _)); (fail_if_success (with_reducible show wpAny _ _ (call (Value.ref _) _ _) _ _ _)); (first | ((with_reducible show wpAny _ _ (exec (PySem.Stmt.For _ _ _ _ _) _) _ _ _); (rename Fr _ _ _ _ => zF'); (with_unfolding_all refine' For_invVF zF' ?zk1 ?zk2 ?_; (case zk1 => exact rfl); (case zk2 => exact rfl); k_whole)) | (k_unfold; (try dsimp only)) | (k_end; wrow_close) | walk1 | (dsimp only; walk1) | (leave1; walk_say "STEP leave1"; try dsimp only) | (dsimp only; k_unfold; (try dsimp only)) | fail "no step")))); (all_goals (try (rename Fr _ _ _ _ => zF'; dsimp only at zF'))); (all_goals (try dsimp only)))
    · (try dsimp only)
      rename Fr _ _ _ _ => F9
      rename News _ _ _ _ => N9
      exact ⟨rfl, l2, l, vs, ws, kk, nn, c, n, _, _, _, rfl, fr_kst F9 (by kst_all), fun p hp => N9 p (by
        simp only [List.mem_cons, List.not_mem_nil, or_false] at hp ⊢
        rcases hp with h | h <;> simp [h]), hvs, hws, hc0, hn, hl2, by omega, by omega, fun p hp => by
        simp only [List.mem_cons, List.not_mem_nil, or_false] at hp ⊢
        rcases hp with h | h <;> simp [h]⟩
    · (try dsimp only)
      rename Fr _ _ _ _ => F9
      rename News _ _ _ _ => N9
      exact ⟨rfl, l, l2, ws, vs, nn, kk, n, c, _, _, _, rfl, fr_kst F9 (by kst_all), fun p hp => N9 p (by
        simp only [List.mem_cons, List.not_mem_nil, or_false] at hp ⊢
        rcases hp with h | h <;> simp [h]), hws, hvs, hn, hc0, hl1, by omega, by omega, fun p hp => by
        simp only [List.mem_cons, List.not_mem_nil, or_false] at hp ⊢
        rcases hp with h | h <;> simp [h]⟩
  case second =>
    obtain ⟨rfl, la, lb, va, vb, na, nb, y, z, h9, tk9, u9, rfl, F1, N1, Ia, Ib, hy0, hz0, hly, hlzy, hyz, hsub⟩ := hm
    clear F0 N0 hws hvs hl1 hl2
    (try dsimp only)
    ((repeat' (((fail_if_success (with_reducible show wpAny _ _ (exec (PySem.Stmt.While _ _ _ _) _) _ _ _)); (fail_if_success (with_reducible show wpAny _ _ (pyIter _) _ _ _)); (fail_if_success (with_reducible show wpAny _ _ (eval (PySem.Expr.ListComp _ _ _ _) _) _ _ _)); (fail_if_success (with_reducible show LCg.CompSrc _ _ _ _ _ _ _ _ _ _ _ _ _ _)); (fail_if_success (with_reducible show wpAny _ _ (call (Value.ref _) _ _) _ _ _)); (first | ((with_reducible show wpAny _ _ (exec (PySem.Stmt.For _ _ _ _ _) _) _ _ _); (rename Fr _ _ _ _ => zF'); (with_unfolding_all refine' For_invVF zF' ?zk1 ?zk2 ?_; (case zk1 => exact rfl); (case zk2 => exact rfl); k_whole)) | (k_unfold; (try dsimp only)) | (k_end; wrow_close) | walk1 | (dsimp only; walk1) | (leave1; walk_say "STEP leave1"; try dsimp only) | (dsimp only; k_unfold; (try dsimp only)) | fail "no step")))); (all_goals (try (rename Fr _ _ _ _ => zF'; dsimp only at zF'))); (all_goals (try dsimp only)))
    have hmn : limZ (2 ^ W.toNat) (y + z) = limZ (2 ^ W.toNat) (n + c) := by rw [show y + z = n + c by omega]
    rename IsRange _ _ _ _ _ _ _ _ => R1
    rename Fr _ _ _ _ => F1
    rename News _ _ _ _ => N1
    have hEn := lim_end hB (n := z) hz0
    refine' for_rangeM (σ := Int × Tok × Addr × List Value × List Int × Nat × Tok) (n := (limZ (2 ^ W.toNat) z).length) (fun (x, t, f, fs, xs, k9, tm) => [(la, listOf va.toArray na), (lb, listOf vb.toArray nb), (f, listOf fs.toArray k9)])
      (fun (x, t, f, fs, xs, k9, tm) => [(Str.ofString "a", .ref la), (Str.ofString "b", .ref lb), (Str.ofString "w", .int W t2), (Str.ofString "carry", .int x t), (Str.ofString "mask", .int (1 * 2 ^ W.toNat - 1) tm), (Str.ofString "found", .ref f)])
      (fun i (x, t, f, fs, xs, k9, tm) => @Ne Nat la f ∧ @Ne Nat lb f ∧ 0 ≤ x ∧ x ≤ 1 ∧ IntsAre fs xs ∧ xs ++ limZ (2 ^ W.toNat) (y / (2 ^ W.toNat) ^ i + z / (2 ^ W.toNat) ^ i + x) = limZ (2 ^ W.toNat) (n + c)) (0, _, _, [], [], _, _) rfl R1 (small_0 (Nat.le_trans hlzy hly)) rs0 F1 N1 ?zl ?zf ?zp ?turn ?done
    case zf => kst_all
    case zl => walk_at "mine sub"
    case zp => exact ⟨by omega, by omega, by omega, by omega, .nil, by (try dsimp only); rw [q_zero, q_zero, Int.add_zero, ← hmn]; rfl⟩
    case turn =>
      rintro i t ⟨x, tx, f, fs, xs, kc, tm⟩ u2 h2 tk2 I oi hi ⟨hlf, hlf2, hx0, hx1, hI, hx⟩ hne F2 N2
      have hq1 := q_step (n := y) hB i
      have hq2 := q_step (n := z) hB i
      have hiy := Nat.lt_of_lt_of_le hi hlzy
      have hM : 0 < y / (2 ^ W.toNat) ^ i := (lim_lt hB hy0 i).mp hiy
      have g1 := lim_getD hB hy0 (j := i) hiy
      have g2 := lim_getD hB hz0 (j := i) hi
      have hN0 := q_nonneg hB hz0 i
      have d1 := md0 hB (y / (2 ^ W.toNat) ^ i)
      have d2 := md1 hB (y / (2 ^ W.toNat) ^ i)
      have d3 := md0 hB (z / (2 ^ W.toNat) ^ i)
      have d4 := md1 hB (z / (2 ^ W.toNat) ^ i)
      (try dsimp only at F2)
      (try dsimp only at N2)
      (try dsimp only at hx)
      (try dsimp only at hx0)
      (try dsimp only at hx1)
      (try dsimp only at hI)
      (try dsimp only at hlf)
      (try dsimp only at hlf2)
      (try dsimp only)
      have hsz : fs.toArray.size ≤ sizeLine := sz_app hI hx hlen
      clear F1 N1
      simp only [Ne1, and_true] at hne
      have hat : (0 : Int) + (i : Int) * 1 = ((i : Nat) : Int) := by omega
      rw [hat] at F2
      ((repeat' (((fail_if_success (with_reducible show wpAny _ _ (exec (PySem.Stmt.While _ _ _ _) _) _ _ _)); (fail_if_success (with_reducible show wpAny _ _ (pyIter _) _ _ _)); (fail_if_success (with_reducible show wpAny _ _ (eval (PySem.Expr.ListComp _ _ _ _) _) _ _ _)); (fail_if_success (with_reducible show LCg.CompSrc _ _ _ _ _ _ _ _ _ _ _ _ _ _)); (fail_if_success (with_reducible show wpAny _ _ (call (Value.ref _) _ _) _ _ _)); (first | ((with_reducible show wpAny _ _ (exec (PySem.Stmt.For _ _ _ _ _) _) _ _ _); (rename Fr _ _ _ _ => zF'); (with_unfolding_all refine' For_invVF zF' ?zk1 ?zk2 ?_; (case zk1 => exact rfl); (case zk2 => exact rfl); k_whole)) | (k_unfold; (try dsimp only)) | (k_end; wrow_close) | walk1 | (dsimp only; walk1) | (leave1; walk_say "STEP leave1"; try dsimp only) | (dsimp only; k_unfold; (try dsimp only)) | fail "no step")))); (all_goals (try (rename Fr _ _ _ _ => zF'; dsimp only at zF'))); (all_goals (try dsimp only)))
      rename Fr _ _ _ _ => F3
      rename News _ _ _ _ => N3
      (try simp only [List.push_toArray] at N3)
      k_dflt (refine' fo_end (_, _, _, _, xs ++ [Builtin.bitAnd (x + ((limZ (2 ^ W.toNat) y).getD ((i : Nat) : Int).toNat 0 + (limZ (2 ^ W.toNat) z).getD ((i : Nat) : Int).toNat 0)) (1 * 2 ^ W.toNat - 1)], _, _) F3 N3 ?zl ?zi ?zn ?zf ?zp)
      case zf => kst_all
      case zl => walk_at "mine sub"
      case zi => k_mem
      case zn => (first | exact ne1_all (by assumption) | (dsimp only; k_all))
      case zp =>
        rw [g1, g2]
        obtain ⟨k1, k2, k3⟩ := carry2 hB hM hN0 hq1 hq2 d1 d2 d3 d4 hx0 hx1 hx
        refine ⟨hlf, hlf2, ?_, ?_, ints_snoc hI, ?_⟩
        · rw [fdB hB]; exact k1
        · rw [fdB hB]; exact Int.le_of_lt_add_one k2
        · (try dsimp only)
          rw [fdB hB, Int.one_mul, kbt_mask]; exact k3
    case done =>
      rintro ⟨x, tx, f, fs, xs, kc, tm⟩ u2 h2 tk2 ⟨hlf, hlf2, hx0, hx1, hI, hx⟩ F2 N2
      (try dsimp only at F2)
      (try dsimp only at N2)
      (try dsimp only at hx)
      (try dsimp only at hx0)
      (try dsimp only at hx1)
      (try dsimp only at hI)
      (try dsimp only at hlf)
      (try dsimp only at hlf2)
      (try dsimp only)
      rw [hEn, Int.add_zero] at hx
      clear F1 N1 R1
      ((repeat' (((fail_if_success (with_reducible show wpAny _ _ (exec (PySem.Stmt.While _ _ _ _) _) _ _ _)); (fail_if_success (with_reducible show wpAny _ _ (pyIter _) _ _ _)); (fail_if_success (with_reducible show wpAny _ _ (eval (PySem.Expr.ListComp _ _ _ _) _) _ _ _)); (fail_if_success (with_reducible show LCg.CompSrc _ _ _ _ _ _ _ _ _ _ _ _ _ _)); (fail_if_success (with_reducible show wpAny _ _ (call (Value.ref _) _ _) _ _ _)); (first | ((with_reducible show wpAny _ _ (exec (PySem.Stmt.For _ _ _ _ _) _) _ _ _); (rename Fr _ _ _ _ => zF'); (with_unfolding_all refine' For_invVF zF' ?zk1 ?zk2 ?_; (case zk1 => exact rfl); (case zk2 => exact rfl); k_whole)) | (k_unfold; (try dsimp only)) | (k_end; wrow_close) | walk1 | (dsimp only; walk1) | (leave1; walk_say "STEP leave1"; try dsimp only) | (dsimp only; k_unfold; (try dsimp only)) | fail "no step")))); (all_goals (try (rename Fr _ _ _ _ => zF'; dsimp only at zF'))); (all_goals (try dsimp only)))
      rename IsRange _ _ _ _ _ _ _ _ => R1
      rename Fr _ _ _ _ => F1
      rename News _ _ _ _ => N1
      obtain ⟨dl, hdl⟩ := Nat.exists_eq_add_of_le hlzy
      refine' for_rangeM (σ := Int × Tok × Addr × List Value × List Int × Nat × Tok) (n := dl) (fun (x, t, f, fs, xs, k9, tm) => [(la, listOf va.toArray na), (lb, listOf vb.toArray nb), (f, listOf fs.toArray k9)])
        (fun (x, t, f, fs, xs, k9, tm) => [(Str.ofString "a", .ref la), (Str.ofString "b", .ref lb), (Str.ofString "w", .int W t2), (Str.ofString "carry", .int x t), (Str.ofString "mask", .int (1 * 2 ^ W.toNat - 1) tm), (Str.ofString "found", .ref f)])
        (fun i (x, t, f, fs, xs, k9, tm) => @Ne Nat la f ∧ @Ne Nat lb f ∧ 0 ≤ x ∧ x ≤ 1 ∧ IntsAre fs xs ∧ xs ++ limZ (2 ^ W.toNat) (y / (2 ^ W.toNat) ^ ((limZ (2 ^ W.toNat) z).length + i) + x) = limZ (2 ^ W.toNat) (n + c)) (x, _, _, _, xs, _, _) rfl R1 (small_nat (Nat.le_trans hlzy hly) hly) (rs_sub hdl) F1 N1 ?zl ?zf ?zp ?turn ?done
      case zf => kst_all
      case zl => walk_at "mine sub"
      case zp => exact ⟨hlf, hlf2, hx0, hx1, hI, hx⟩
      case turn =>
        clear hlf hlf2 hx0 hx1 hI hx F1 N1
        rintro i t ⟨x, tx, f, fs, xs, kc, tm⟩ u2 h2 tk2 I oi hi ⟨hlf, hlf2, hx0, hx1, hI, hx⟩ hne F2 N2
        have hq1 := q_step (n := y) hB ((limZ (2 ^ W.toNat) z).length + i)
        have hiy : (limZ (2 ^ W.toNat) z).length + i < (limZ (2 ^ W.toNat) y).length := by rw [hdl]; exact Nat.add_lt_add_left hi _
        have hM : 0 < y / (2 ^ W.toNat) ^ ((limZ (2 ^ W.toNat) z).length + i) := (lim_lt hB hy0 _).mp hiy
        have g1 := lim_getD hB hy0 hiy
        have d1 := md0 hB (y / (2 ^ W.toNat) ^ ((limZ (2 ^ W.toNat) z).length + i))
        have d2 := md1 hB (y / (2 ^ W.toNat) ^ ((limZ (2 ^ W.toNat) z).length + i))
        (try dsimp only at F2)
        (try dsimp only at N2)
        (try dsimp only at hx)
        (try dsimp only at hx0)
        (try dsimp only at hx1)
        (try dsimp only at hI)
        (try dsimp only at hlf)
        (try dsimp only at hlf2)
        (try dsimp only)
        have hsz : fs.toArray.size ≤ sizeLine := sz_app hI hx hlen
        simp only [Ne1, and_true] at hne
        have hat : ((limZ (2 ^ W.toNat) z).length : Int) + (i : Int) * 1 = (((limZ (2 ^ W.toNat) z).length + i : Nat) : Int) := by omega
        rw [hat] at F2
        ((repeat' (((fail_if_success (with_reducible show wpAny _ _ (exec (PySem.Stmt.While _ _ _ _) _) _ _ _)); (fail_if_success (with_reducible show wpAny _ _ (pyIter _) _ _ _)); (fail_if_success (with_reducible show wpAny _ _ (eval (PySem.Expr.ListComp _ _ _ _) _) _ _ _)); (fail_if_success (with_reducible show LCg.CompSrc _ _ _ _ _ _ _ _ _ _ _ _ _ _)); (fail_if_success (with_reducible show wpAny _ _ (call (Value.ref _) _ _) _ _ _)); (first | ((with_reducible show wpAny _ _ (exec (PySem.Stmt.For _ _ _ _ _) _) _ _ _); (rename Fr _ _ _ _ => zF'); (with_unfolding_all refine' For_invVF zF' ?zk1 ?zk2 ?_; (case zk1 => exact rfl); (case zk2 => exact rfl); k_whole)) | (k_unfold; (try dsimp only)) | (k_end; wrow_close) | walk1 | (dsimp only; walk1) | (leave1; walk_say "STEP leave1"; try dsimp only) | (dsimp only; k_unfold; (try dsimp only)) | fail "no step")))); (all_goals (try (rename Fr _ _ _ _ => zF'; dsimp only at zF'))); (all_goals (try dsimp only)))
        rename Fr _ _ _ _ => F3
        rename News _ _ _ _ => N3
        (try simp only [List.push_toArray] at N3)
        k_dflt (refine' fo_end (_, _, _, _, xs ++ [Builtin.bitAnd (x + (limZ (2 ^ W.toNat) y).getD (((limZ (2 ^ W.toNat) z).length + i : Nat) : Int).toNat 0) (1 * 2 ^ W.toNat - 1)], _, _) F3 N3 ?zl ?zi ?zn ?zf ?zp)
        case zf => kst_all
        case zl => walk_at "mine sub"
        case zi => k_mem
        case zn => (first | exact ne1_all (by assumption) | (dsimp only; k_all))
        case zp =>
          rw [g1]
          obtain ⟨k1, k2, k3⟩ := carry1 hB hM hq1 d1 d2 hx0 hx1 hx
          refine ⟨hlf, hlf2, ?_, ?_, ints_snoc hI, ?_⟩
          · rw [fdB hB]; exact k1
          · rw [fdB hB]; exact Int.le_of_lt_add_one k2
          · (try dsimp only)
            rw [fdB hB, Int.one_mul, kbt_mask]; exact k3
      case done =>
        clear hlf hlf2 hx0 hx1 hI hx F1 N1
        rintro ⟨x, tx, f, fs, xs, kc, tm⟩ u2 h2 tk2 ⟨hlf, hlf2, hx0, hx1, hI, hx⟩ F2 N2
        (try dsimp only at F2)
        (try dsimp only at N2)
        (try dsimp only at hx)
        (try dsimp only at hx0)
        (try dsimp only at hx1)
        (try dsimp only at hI)
        (try dsimp only at hlf)
        (try dsimp only at hlf2)
        (try dsimp only)
        rw [← hdl, lim_end hB hy0, Int.zero_add] at hx
        have hsz : fs.toArray.size ≤ sizeLine := sz_app hI hx hlen
        ((repeat' (((fail_if_success (with_reducible show wpAny _ _ (exec (PySem.Stmt.While _ _ _ _) _) _ _ _)); (fail_if_success (with_reducible show wpAny _ _ (pyIter _) _ _ _)); (fail_if_success (with_reducible show wpAny _ _ (eval (PySem.Expr.ListComp _ _ _ _) _) _ _ _)); (fail_if_success (with_reducible show LCg.CompSrc _ _ _ _ _ _ _ _ _ _ _ _ _ _)); (fail_if_success (with_reducible show wpAny _ _ (call (Value.ref _) _ _) _ _ _)); (first | ((with_reducible show wpAny _ _ (exec (PySem.Stmt.For _ _ _ _ _) _) _ _ _); (rename Fr _ _ _ _ => zF'); (with_unfolding_all refine' For_invVF zF' ?zk1 ?zk2 ?_; (case zk1 => exact rfl); (case zk2 => exact rfl); k_whole)) | (k_unfold; (try dsimp only)) | (k_end; wrow_close) | walk1 | (dsimp only; walk1) | (leave1; walk_say "STEP leave1"; try dsimp only) | (dsimp only; k_unfold; (try dsimp only)) | fail "no step")))); (all_goals (try (rename Fr _ _ _ _ => zF'; dsimp only at zF'))); (all_goals (try dsimp only)))
        · rename News _ _ _ _ => N3
          simp only [List.push_toArray] at N3
          rw [lim_one (by assumption) (by omega)] at hx
          rw [← hx]
          refine endM_sub hsub ?_
          k_dflt (refine' endM_of (tl := [(_, _)]) (by k_asm) (by k_asm) ?ze1 ?ze2 ?ze3 ⟨_, _, _, rfl, rfl, ints_snoc hI⟩)
          case ze1 => walk_at "mine sub"
          case ze2 => walk_at "mine sub"
          case ze3 => walk_at "mine ne"
        · rw [limZ_neg (by omega), List.append_nil] at hx
          rw [← hx]
          refine endM_sub hsub ?_
          k_dflt (refine' endM_of (tl := [(_, _)]) (by k_asm) (by k_asm) ?ze1 ?ze2 ?ze3 ⟨_, _, _, rfl, rfl, hI⟩)
          case ze1 => walk_at "mine sub"
          case ze2 => walk_at "mine sub"
          case ze3 => walk_at "mine ne"



end
section
example : True := by
  w_top off
  trivial
noncomputable def stripZ : List Int → List Int
  | [] => []
  | x :: r => if x = 0 ∧ stripZ r = [] then [] else x :: stripZ r
theorem strip_snoc0 : ∀ xs : List Int, stripZ (xs ++ [0]) = stripZ xs
  | [] => by simp [stripZ]
  | x :: r => by rw [List.cons_append, stripZ, stripZ, strip_snoc0 r]
theorem strip_snoc : ∀ {x : Int} (xs : List Int), x ≠ 0 → stripZ (xs ++ [x]) = xs ++ [x]
  | x, [], h => by simp [stripZ, h]
  | x, y :: r, h => by
    rw [List.cons_append, stripZ, strip_snoc r h, if_neg]
    simp
noncomputable def digL (B : Int) (q : Int) : Nat → List Int
  | 0 => []
  | k + 1 => q % B :: digL B (q / B) k
theorem digL_len (B q : Int) : ∀ k, (digL B q k).length = k := by
  intro k
  induction k generalizing q with
  | zero => rfl
  | succ k ih => rw [digL, List.length_cons, ih]
theorem strip_dig {B : Int} (hB : 1 < B) : ∀ (k : Nat) (q : Int), 0 ≤ q → q < B ^ k → stripZ (digL B q k) = limZ B q := by
  intro k
  induction k with
  | zero => intro q h0 h; rw [Int.pow_zero] at h; rw [limZ_neg (by omega)]; rfl
  | succ k ih =>
    intro q h0 h
    have h1 : q / B < B ^ k := Int.ediv_lt_of_lt_mul (by omega) (by rw [← Int.pow_succ]; exact h)
    have h2 := Int.ediv_nonneg (a := q) (b := B) (by omega) (by omega)
    rw [digL, stripZ, ih _ h2 h1]
    by_cases hq : 0 < q
    · rw [limZ_pos hq hB, if_neg]
      rintro ⟨e1, e2⟩
      have h3 : ¬ 0 < q / B := fun h9 => by rw [limZ_pos h9 hB] at e2; cases e2
      have h4 := Int.mul_ediv_add_emod q B
      have h5 : q / B = 0 := by omega
      rw [h5, e1] at h4
      omega
    · have : q = 0 := by omega
      subst this
      rw [Int.zero_emod, Int.zero_ediv, limZ_neg (by omega), if_pos ⟨rfl, rfl⟩]

theorem normal_walk {w : World} {mean : ExcName → Option Value} {mg mb : Str → Option Value} {xs : List Int} {l : Addr} {ws : List Value} {nn : Nat} (hlen : xs.length ≤ 1000) (hws : IntsAre ws xs) :
    Does w mean mg mb 58 1 20 [.ref l] [(l, listOf ws.toArray nn)] (OutL (stripZ xs)) := by
  unfold Does
  k_fill
  intro dp u gd cn cs L a ccd cl outer A₀ base h₀ m s Q E B F X N T hk hd hu ret
  k_dflt (refine' enterM (binds := [(Str.ofString "a", .ref l)]) ?k1 ?k2 ?k3 ?k4 ?k5 ?kA ?kF ?kK ?k6 ?k7 ?k8 ?k9 ?kB ?kR ?_ ?c2 ?c3 ?c4 ?c5; ((case kA => exact rfl); (case kF => exact rfl); (case kK => assumption); (case k1 => k_asm); (case k2 => k_asm); (case k3 => k_asm); (case k4 => k_asm); (case k5 => k_asm); (case kR => assumption); (case k6 => k_is); (case k7 => k_is); (case k8 => ((dsimp only); omega)); (case k9 => exact BindsTo.of_eq rfl); (case c5 => decide); (case kB => exact locs rfl); (case c2 => exact rfl); (case c3 => exact rfl); (case c4 => exact rfl); k_whole; intro g' L' h' F' N' B' X' T'; (try dsimp only); (try k_fold)))
  ((repeat' (((fail_if_success (with_reducible show wpAny _ _ (exec (PySem.Stmt.While _ _ _ _) _) _ _ _)); (fail_if_success (with_reducible show wpAny _ _ (pyIter _) _ _ _)); (fail_if_success (with_reducible show wpAny _ _ (eval (PySem.Expr.ListComp _ _ _ _) _) _ _ _)); (fail_if_success (with_reducible show LCg.CompSrc _ _ _ _ _ _ _ _ _ _ _ _ _ _)); (fail_if_success (with_reducible show wpAny _ _ (call (Value.ref _) _ _) _ _ _)); (first | ((with_reducible show wpAny _ _ (exec (PySem.Stmt.For _ _ _ _ _) _) _ _ _); (rename Fr _ _ _ _ => zF'); (with_unfolding_all refine' For_invVF zF' ?zk1 ?zk2 ?_; (case zk1 => exact rfl); (case zk2 => exact rfl); k_whole)) | (k_unfold; (try dsimp only)) | (k_end; wrow_close) | walk1 | (dsimp only; walk1) | (leave1; walk_say "STEP leave1"; try dsimp only) | (dsimp only; k_unfold; (try dsimp only)) | fail "no step")))); (all_goals (try (rename Fr _ _ _ _ => zF'; dsimp only at zF'))); (all_goals (try dsimp only)))
  rename Fr _ _ _ _ => F1
  rename News _ _ _ _ => N1
  refine' while_M (σ := Int × Tok) (fun _ => [(l, listOf ws.toArray nn)]) (fun (e, t) => [(Str.ofString "a", .ref l), (Str.ofString "end", .int e t)])
    (fun (e, t) => 0 ≤ e ∧ e ≤ (xs.length : Int) ∧ stripZ (xs.take e.toNat) = stripZ xs) (fun (e, t) => e.toNat) ((xs.length : Int), _) F1 N1 ?zl ?zf ?zp ?turn (by passes_own)
  case zf => kst_all
  case zl => walk_at "mine sub"
  case zp => exact ⟨by (try dsimp only); omega, by (try dsimp only); omega, by (try dsimp only); rw [Int.toNat_natCast, List.take_length]⟩
  case turn =>
    rintro ⟨e, t⟩ u2 h2 tk2 ⟨he0, he, hx⟩ F2 N2
    (try dsimp only at F2)
    (try dsimp only at N2)
    (try dsimp only at he)
    (try dsimp only at he0)
    (try dsimp only at hx)
    (try dsimp only)
    clear F1 N1
    have hsn : 0 < e → xs.take e.toNat = xs.take (e - 1).toNat ++ [xs.getD (e - 1).toNat 0] := fun hp => by
      have h1 : e.toNat = (e - 1).toNat + 1 := by omega
      have h2 : (e - 1).toNat < xs.length := by omega
      rw [h1, List.take_add_one, List.getD_eq_getElem?_getD, List.getElem?_eq_getElem h2]
      rfl
    ((repeat' (((fail_if_success (with_reducible show wpAny _ _ (exec (PySem.Stmt.While _ _ _ _) _) _ _ _)); (fail_if_success (with_reducible show wpAny _ _ (pyIter _) _ _ _)); (fail_if_success (with_reducible show wpAny _ _ (eval (PySem.Expr.ListComp _ _ _ _) _) _ _ _)); (fail_if_success (with_reducible show LCg.CompSrc _ _ _ _ _ _ _ _ _ _ _ _ _ _)); (fail_if_success (with_reducible show wpAny _ _ (call (Value.ref _) _ _) _ _ _)); (first | ((with_reducible show wpAny _ _ (exec (PySem.Stmt.For _ _ _ _ _) _) _ _ _); (rename Fr _ _ _ _ => zF'); (with_unfolding_all refine' For_invVF zF' ?zk1 ?zk2 ?_; (case zk1 => exact rfl); (case zk2 => exact rfl); k_whole)) | (k_unfold; (try dsimp only)) | (k_end; wrow_close) | walk1 | (dsimp only; walk1) | (leave1; walk_say "STEP leave1"; try dsimp only) | (dsimp only; k_unfold; (try dsimp only)) | fail "no step")))); (all_goals (try (rename Fr _ _ _ _ => zF'; dsimp only at zF'))); (all_goals (try dsimp only)))
    · have h0 : xs.getD (e - 1).toNat 0 = 0 := by assumption
      have hp : 0 < e := by assumption
      rw [hsn hp, h0, strip_snoc0] at hx
      rename Fr _ _ _ _ => F3
      rename News _ _ _ _ => N3
      (try simp only [List.push_toArray] at N3)
      k_dflt (refine' wh_end (e - 1, _) F3 N3 ?zl ?zf ?zp ?zm)
      case zf => kst_all
      case zl => walk_at "mine sub"
      case zp => exact ⟨by (try dsimp only); omega, by (try dsimp only); omega, hx⟩
      case zm => (try dsimp only); omega
    · have h0 : xs.getD (e - 1).toNat 0 ≠ 0 := by assumption
      have hp : 0 < e := by assumption
      rename IntsAre _ _ => I3
      rw [hsn hp, strip_snoc _ h0, ← hsn hp] at hx
      k_dflt (refine' endM_of (tl := [(_, _)]) (by k_asm) (by k_asm) ?ze1 ?ze2 ?ze3 ⟨_, _, _, rfl, rfl, by rw [← hx]; exact I3⟩)
      case ze1 => walk_at "mine sub"
      case ze2 => walk_at "mine sub"
      case ze3 => walk_at "mine ne"
    · rename IntsAre _ _ => I3
      have h0 : e = 0 := by omega
      subst h0
      have hx' : stripZ xs = [] := by rw [← hx]; rfl
      k_dflt (refine' endM_of (tl := [(_, _)]) (by k_asm) (by k_asm) ?ze1 ?ze2 ?ze3 ⟨_, _, _, rfl, rfl, by rw [hx']; exact I3⟩)
      case ze1 => walk_at "mine sub"
      case ze2 => walk_at "mine sub"
      case ze3 => walk_at "mine ne"


end
section
example : True := by
  w_top off
  trivial
theorem dl_rest {B n c : Int} {j : Nat} (hB : 1 < B) : (n / B ^ (j + 1) % c * B + n / B ^ j % B) % c = n / B ^ j % c := by
  have h1 := q_step (n := n) hB j
  have h2 := Int.mul_ediv_add_emod (n / B ^ (j + 1)) c
  have h3 : n / B ^ j = (n / B ^ (j + 1) % c * B + n / B ^ j % B) + c * (n / B ^ (j + 1) / c * B) := by
    have h4 : n / B ^ (j + 1) * B = c * (n / B ^ (j + 1) / c * B) + n / B ^ (j + 1) % c * B := by
      rw [← Int.mul_assoc, ← Int.add_mul, h2]
    omega
  have h5 := Int.add_mul_emod_self_left (n / B ^ (j + 1) % c * B + n / B ^ j % B) c (n / B ^ (j + 1) / c * B)
  rw [← h3] at h5
  exact h5.symm
theorem dl_digit {B n c : Int} {j : Nat} (hB : 1 < B) (hn : 0 ≤ n) (hc : 0 < c) : (n / B ^ (j + 1) % c * B + n / B ^ j % B) / c = n / c / B ^ j % B := by
  have h1 := q_step (n := n) hB j
  have h2 := Int.mul_ediv_add_emod (n / B ^ (j + 1)) c
  have x0 : 0 ≤ n / B ^ (j + 1) % c := mdc0 hc _
  have x1 : n / B ^ (j + 1) % c < c := Int.emod_lt_of_pos _ hc
  have d0 : 0 ≤ n / B ^ j % B := md0 hB _
  have d1 : n / B ^ j % B < B := md1 hB _
  have hq : n / c / B ^ j = n / B ^ j / c := by
    have hp := pow_posB hB j
    rw [Int.ediv_ediv, if_neg (by omega), Int.ediv_ediv, if_neg (by omega), Int.mul_comm]
  have h3 : n / B ^ j = (n / B ^ (j + 1) % c * B + n / B ^ j % B) + c * (n / B ^ (j + 1) / c * B) := by
    have h4 : n / B ^ (j + 1) * B = c * (n / B ^ (j + 1) / c * B) + n / B ^ (j + 1) % c * B := by
      rw [← Int.mul_assoc, ← Int.add_mul, h2]
    omega
  have h6 : n / B ^ j / c = (n / B ^ (j + 1) % c * B + n / B ^ j % B) / c + n / B ^ (j + 1) / c * B := by
    have h5 : (n / B ^ (j + 1) % c * B + n / B ^ j % B + c * (n / B ^ (j + 1) / c * B)) / c = (n / B ^ (j + 1) % c * B + n / B ^ j % B) / c + n / B ^ (j + 1) / c * B := Int.add_mul_ediv_left _ _ (by omega)
    rw [← h3] at h5
    exact h5
  have g0 : 0 ≤ (n / B ^ (j + 1) % c * B + n / B ^ j % B) / c := Int.ediv_nonneg (Int.add_nonneg (Int.mul_nonneg x0 (by omega)) d0) (by omega)
  have g1 : (n / B ^ (j + 1) % c * B + n / B ^ j % B) / c < B := by
    refine Int.ediv_lt_of_lt_mul hc ?_
    have : n / B ^ (j + 1) % c * B ≤ (c - 1) * B := Int.mul_le_mul_of_nonneg_right (by omega) (by omega)
    rw [Int.sub_mul, Int.one_mul] at this
    rw [Int.mul_comm B c]
    omega
  rw [hq, h6, Int.add_mul_emod_self_right, Int.emod_eq_of_lt g0 g1]
theorem dl_set {j : Nat} {D : List Int} {v : Int} : (List.replicate (j + 1) (0 : Int) ++ D).set j v = List.replicate j 0 ++ v :: D := by
  rw [List.replicate_succ', List.append_assoc, List.set_append_right _ _ (by simp)]
  simp

theorem divrem_limb_walk {w : World} {mean : ExcName → Option Value} {mg mb : Str → Option Value} {W n c : Int} {t1 t2 : Tok} {l : Addr} {ws : List Value} {nn : Nat} (hW : 1 ≤ W) (hW2 : W ≤ 8) (hn : 0 ≤ n) (hn2 : LtP n 1000) (hc : 0 < c) (hc2 : c < 2 ^ W.toNat) (hws : IntsAre ws (limZ (2 ^ W.toNat) n)) :
    Does w mean mg mb 93 2 40 [.ref l, .int c t1, .int W t2] [(l, listOf ws.toArray nn)] (OutLI (limZ (2 ^ W.toNat) (n / c)) (n % c)) := by
  unfold Does
  k_fill
  intro dp u gd cn cs L a ccd cl outer A₀ base h₀ m s Q E B F X N T hk hd hu ret
  k_dflt (refine' enterM (binds := [(Str.ofString "a", .ref l), (Str.ofString "limb", .int c t1), (Str.ofString "w", .int W t2)]) ?k1 ?k2 ?k3 ?k4 ?k5 ?kA ?kF ?kK ?k6 ?k7 ?k8 ?k9 ?kB ?kR ?_ ?c2 ?c3 ?c4 ?c5; ((case kA => exact rfl); (case kF => exact rfl); (case kK => assumption); (case k1 => k_asm); (case k2 => k_asm); (case k3 => k_asm); (case k4 => k_asm); (case k5 => k_asm); (case kR => assumption); (case k6 => k_is); (case k7 => k_is); (case k8 => ((dsimp only); omega)); (case k9 => exact BindsTo.of_eq rfl); (case c5 => decide); (case kB => exact locs rfl); (case c2 => exact rfl); (case c3 => exact rfl); (case c4 => exact rfl); k_whole; intro g' L' h' F' N' B' X' T'; (try dsimp only); (try k_fold)))
  have hB := pow2_gt hW
  have hB2 := pow2_le hW hW2
  have hlen := limZ_len hB 1000 hn2
  have hcl : LtP c 2000 := LtP.small2 (lt_small hc2 hB2)
  ((repeat' (((fail_if_success (with_reducible show wpAny _ _ (exec (PySem.Stmt.While _ _ _ _) _) _ _ _)); (fail_if_success (with_reducible show wpAny _ _ (pyIter _) _ _ _)); (fail_if_success (with_reducible show wpAny _ _ (eval (PySem.Expr.ListComp _ _ _ _) _) _ _ _)); (fail_if_success (with_reducible show LCg.CompSrc _ _ _ _ _ _ _ _ _ _ _ _ _ _)); (fail_if_success (with_reducible show wpAny _ _ (call (Value.ref _) _ _) _ _ _)); (first | ((with_reducible show wpAny _ _ (exec (PySem.Stmt.For _ _ _ _ _) _) _ _ _); (rename Fr _ _ _ _ => zF'); (with_unfolding_all refine' For_invVF zF' ?zk1 ?zk2 ?_; (case zk1 => exact rfl); (case zk2 => exact rfl); k_whole)) | (k_unfold; (try dsimp only)) | (k_end; wrow_close) | walk1 | (dsimp only; walk1) | (leave1; walk_say "STEP leave1"; try dsimp only) | (dsimp only; k_unfold; (try dsimp only)) | fail "no step")))); (all_goals (try (rename Fr _ _ _ _ => zF'; dsimp only at zF'))); (all_goals (try dsimp only)))
  rename IsRange _ _ _ _ _ _ _ _ => R1
  rename Fr _ _ _ _ => F1
  rename News _ _ _ _ => N1
  rename IntsAre _ (List.flatten _) => I1
  have hfl : (List.replicate ((limZ (2 ^ W.toNat) n).length : Int).toNat [(0 : Int)]).flatten = List.replicate (limZ (2 ^ W.toNat) n).length 0 := by
    rw [Int.toNat_natCast]; exact List.flatten_replicate_singleton
  rw [hfl] at I1
  refine' for_rangeM (σ := Int × Tok × Addr × List Value × List Int × Nat) (n := (limZ (2 ^ W.toNat) n).length) (fun (x, t, f, fs, xs, k9) => [(l, listOf ws.toArray nn), (f, listOf fs.toArray k9)])
    (fun (x, t, f, fs, xs, k9) => [(Str.ofString "a", .ref l), (Str.ofString "limb", .int c t1), (Str.ofString "w", .int W t2), (Str.ofString "rest", .int x t), (Str.ofString "found", .ref f)])
    (fun i (x, t, f, fs, xs, k9) => @Ne Nat l f ∧ IntsAre fs xs ∧ x = n / (2 ^ W.toNat) ^ ((limZ (2 ^ W.toNat) n).length - i) % c ∧ xs = List.replicate ((limZ (2 ^ W.toNat) n).length - i) 0 ++ digL (2 ^ W.toNat) (n / c / (2 ^ W.toNat) ^ ((limZ (2 ^ W.toNat) n).length - i)) i) (0, _, _, _, _, _) rfl R1 (dn_small hlen) dn_size F1 N1 ?zl ?zf ?zp ?turn ?done
  case zf => kst_all
  case zl => walk_at "mine sub"
  case zp => exact ⟨by omega, I1, by (try dsimp only); rw [Nat.sub_zero, lim_end hB hn]; rfl, by (try dsimp only); rw [Nat.sub_zero, digL, List.append_nil]⟩
  case turn =>
    rintro i t ⟨x, tx, f, fs, xs, kc⟩ u2 h2 tk2 I oi hi ⟨hlf, hI, hx, hxs⟩ hne F2 N2
    (try dsimp only at F2)
    (try dsimp only at N2)
    (try dsimp only at hlf)
    (try dsimp only at hI)
    (try dsimp only at hx)
    (try dsimp only at hxs)
    (try dsimp only)
    clear F1 N1 I1
    have hneK := hne
    simp only [Ne1, and_true] at hne
    obtain ⟨j, hjd⟩ := dn_ex hi
    rw [dn_at hjd] at F2
    have hjl := dn_lt hjd
    have e1 := lim_getD hB hn hjl
    have hx0 : 0 ≤ x := by rw [hx]; exact mdc0 hc _
    have hx1 : x < c := by rw [hx]; exact Int.emod_lt_of_pos _ hc
    have hxl : LtP x 2000 := LtP.small2 (lt_small (Int.lt_trans hx1 hc2) hB2)
    have hxsl : xs.length = (limZ (2 ^ W.toNat) n).length := by rw [hxs, List.length_append, List.length_replicate, digL_len, dn_s hjd, ← hjd]
    have hfsl : fs.length = (limZ (2 ^ W.toNat) n).length := by rw [← hxsl]; exact hI.length
    have d1 := md0 hB (n / (2 ^ W.toNat) ^ j)
    have d2 := md1 hB (n / (2 ^ W.toNat) ^ j)
    have eo : Builtin.bitOr (x * 2 ^ W.toNat) ((limZ (2 ^ W.toNat) n).getD ((j : Nat) : Int).toNat 0) = x * 2 ^ W.toNat + n / (2 ^ W.toNat) ^ j % 2 ^ W.toNat := by
      rw [e1]; exact or_add hx0 d1 d2
    ((repeat' (((fail_if_success (with_reducible show wpAny _ _ (exec (PySem.Stmt.While _ _ _ _) _) _ _ _)); (fail_if_success (with_reducible show wpAny _ _ (pyIter _) _ _ _)); (fail_if_success (with_reducible show wpAny _ _ (eval (PySem.Expr.ListComp _ _ _ _) _) _ _ _)); (fail_if_success (with_reducible show LCg.CompSrc _ _ _ _ _ _ _ _ _ _ _ _ _ _)); (fail_if_success (with_reducible show wpAny _ _ (call (Value.ref _) _ _) _ _ _)); (first | ((with_reducible show wpAny _ _ (exec (PySem.Stmt.For _ _ _ _ _) _) _ _ _); (rename Fr _ _ _ _ => zF'); (with_unfolding_all refine' For_invVF zF' ?zk1 ?zk2 ?_; (case zk1 => exact rfl); (case zk2 => exact rfl); k_whole)) | (k_unfold; (try dsimp only)) | (k_end; wrow_close) | walk1 | (dsimp only; walk1) | (leave1; walk_say "STEP leave1"; try dsimp only) | (dsimp only; k_unfold; (try dsimp only)) | fail "no step")))); (all_goals (try (rename Fr _ _ _ _ => zF'; dsimp only at zF'))); (all_goals (try dsimp only)))
    rename IntsAre (List.set _ _ _) _ => I3
    rename Fr _ _ _ _ => F3
    rename News _ _ _ _ => N3
    (try simp only [List.push_toArray] at N3)
    k_dflt (refine' fo_end (_, _, _, _, xs.set ((j : Nat) : Int).toNat ((Builtin.bitOr (x * 2 ^ W.toNat) ((limZ (2 ^ W.toNat) n).getD ((j : Nat) : Int).toNat 0)).fdiv c), _) F3 N3 ?zl ?zi ?zn ?zf ?zp)
    case zf => kst_all
    case zl => walk_at "mine sub"
    case zi => k_mem
    case zn => (first | exact ne1_all (by assumption) | (dsimp only; k_all))
    case zp =>
      have hj := dn_s hjd
      have hj2 := dn_s1 hjd
      refine ⟨hlf, I3, ?_, ?_⟩
      · (try dsimp only)
        rw [hj2, eo, fmod_e (Int.le_of_lt hc), hx, hj, dl_rest hB]
      · (try dsimp only)
        rw [hj2, eo, fdiv_e (Int.le_of_lt hc), hx, hj, dl_digit hB hn hc, hxs, hj, Int.toNat_natCast, dl_set, digL, ← q_succ hB]
  case done =>
    rintro ⟨x, tx, f, fs, xs, kc⟩ u2 h2 tk2 ⟨hlf, hI, hx, hxs⟩ F2 N2
    (try dsimp only at F2)
    (try dsimp only at N2)
    (try dsimp only at hlf)
    (try dsimp only at hI)
    (try dsimp only at hx)
    (try dsimp only at hxs)
    (try dsimp only)
    clear F1 N1 I1
    rw [Nat.sub_self, q_zero] at hx hxs
    have hnB : n < (2 ^ W.toNat) ^ (limZ (2 ^ W.toNat) n).length := by
      have h1 := lim_end hB hn
      have h2 := Int.mul_ediv_add_emod n ((2 ^ W.toNat) ^ (limZ (2 ^ W.toNat) n).length)
      have h3 := Int.emod_lt_of_pos n (pow_posB hB (limZ (2 ^ W.toNat) n).length)
      rw [h1, Int.mul_zero] at h2
      omega
    have hd0 : 0 ≤ n / c := Int.ediv_nonneg hn (Int.le_of_lt hc)
    have hd1 : n / c ≤ n := Int.ediv_le_self _ hn
    have hst : stripZ xs = limZ (2 ^ W.toNat) (n / c) := by
      rw [hxs]; exact strip_dig hB _ _ hd0 (by omega)
    have hxsl : xs.length ≤ 1000 := by rw [hxs, List.length_append, List.length_replicate, digL_len]; omega
    ((repeat' (((fail_if_success (with_reducible show wpAny _ _ (exec (PySem.Stmt.While _ _ _ _) _) _ _ _)); (fail_if_success (with_reducible show wpAny _ _ (pyIter _) _ _ _)); (fail_if_success (with_reducible show wpAny _ _ (eval (PySem.Expr.ListComp _ _ _ _) _) _ _ _)); (fail_if_success (with_reducible show LCg.CompSrc _ _ _ _ _ _ _ _ _ _ _ _ _ _)); (fail_if_success (with_reducible show wpAny _ _ (call (Value.ref _) _ _) _ _ _)); (first | ((with_reducible show wpAny _ _ (exec (PySem.Stmt.For _ _ _ _ _) _) _ _ _); (rename Fr _ _ _ _ => zF'); (with_unfolding_all refine' For_invVF zF' ?zk1 ?zk2 ?_; (case zk1 => exact rfl); (case zk2 => exact rfl); k_whole)) | (k_unfold; (try dsimp only)) | (k_end; wrow_close) | walk1 | (dsimp only; walk1) | (leave1; walk_say "STEP leave1"; try dsimp only) | (dsimp only; k_unfold; (try dsimp only)) | fail "no step")))); (all_goals (try (rename Fr _ _ _ _ => zF'; dsimp only at zF'))); (all_goals (try dsimp only)))
    k_dflt (refine' use_L (normal_walk hxsl hI) ?zB ?zF ?zX ?zN ?zT ?zk ?zs ?zd ?zu ?_)
    ((case zB => k_asm); (case zF => k_asm); (case zX => k_asm); (case zN => k_asm); (case zT => k_asm); (case zk => first | exact rfl | assumption); (case zs => walk_at "mine sub"); (case zd => first | ((try dsimp only); exact room1 (by assumption) (by first | decide | exact Nat.le_refl _ | exact Nat.le_trans (by decide) (Nat.le_add_right _ _) | omega)) | (dsimp only; omega) | (simp only [depth_deeper]; omega)); (case zu => first | ((try dsimp only); exact room3 (by assumption) (by first | decide | exact Nat.le_refl _ | exact Nat.le_trans (by decide) (Nat.le_add_right _ _) | omega)) | (dsimp only; omega) | (simp only [units_deeper]; omega)))
    intro b5 vs5 n5 h5 tk5 F5 N5 ne5 I5
    simp only [Ne1, and_true] at ne5
    ((repeat' (((fail_if_success (with_reducible show wpAny _ _ (exec (PySem.Stmt.While _ _ _ _) _) _ _ _)); (fail_if_success (with_reducible show wpAny _ _ (pyIter _) _ _ _)); (fail_if_success (with_reducible show wpAny _ _ (eval (PySem.Expr.ListComp _ _ _ _) _) _ _ _)); (fail_if_success (with_reducible show LCg.CompSrc _ _ _ _ _ _ _ _ _ _ _ _ _ _)); (fail_if_success (with_reducible show wpAny _ _ (call (Value.ref _) _ _) _ _ _)); (first | ((with_reducible show wpAny _ _ (exec (PySem.Stmt.For _ _ _ _ _) _) _ _ _); (rename Fr _ _ _ _ => zF'); (with_unfolding_all refine' For_invVF zF' ?zk1 ?zk2 ?_; (case zk1 => exact rfl); (case zk2 => exact rfl); k_whole)) | (k_unfold; (try dsimp only)) | (k_end; wrow_close) | walk1 | (dsimp only; walk1) | (leave1; walk_say "STEP leave1"; try dsimp only) | (dsimp only; k_unfold; (try dsimp only)) | fail "no step")))); (all_goals (try (rename Fr _ _ _ _ => zF'; dsimp only at zF'))); (all_goals (try dsimp only)))
    rw [hst] at I5
    subst hx
    k_dflt (refine' endM_of (tl := [(_, _), (_, _)]) (by k_asm) (by k_asm) ?ze1 ?ze2 ?ze3 ⟨_, _, _, _, _, rfl, rfl, I5, ?ze4⟩)
    case ze1 => walk_at "mine sub"
    case ze2 => walk_at "mine sub"
    case ze3 => walk_at "mine ne"
    case ze4 => omega


end
section
example : True := by
  w_top off
  trivial
theorem digit_off_walk {w : World} {mean : ExcName → Option Value} {mg mb : Str → Option Value} {W n b : Int} {t1 t2 : Tok} {l : Addr} {ws : List Value} {nn : Nat} (hW : 1 ≤ W) (hW2 : W ≤ 8) (hn : 0 ≤ n) (hn2 : LtP n 1000) (hb : 2 ≤ b) (hb2 : b ≤ 20) (hws : IntsAre ws (limZ (2 ^ W.toNat) n)) :
    Does w mean mg mb 107 3 60 [.ref l, .int b t1, .int W t2, .ref 191] [(l, listOf ws.toArray nn)] (OutLI (limZ (2 ^ W.toNat) (n / b)) (n % b)) := by
  unfold Does
  k_fill
  intro dp u gd cn cs L a ccd cl outer A₀ base h₀ m s Q E B F X N T hk hd hu ret
  k_dflt (refine' enterM (binds := [(Str.ofString "a", .ref l), (Str.ofString "base", .int b t1), (Str.ofString "w", .int W t2), (Str.ofString "divrem", .ref 191)]) ?k1 ?k2 ?k3 ?k4 ?k5 ?kA ?kF ?kK ?k6 ?k7 ?k8 ?k9 ?kB ?kR ?_ ?c2 ?c3 ?c4 ?c5; ((case kA => exact rfl); (case kF => exact rfl); (case kK => assumption); (case k1 => k_asm); (case k2 => k_asm); (case k3 => k_asm); (case k4 => k_asm); (case k5 => k_asm); (case kR => assumption); (case k6 => k_is); (case k7 => k_is); (case k8 => ((dsimp only); omega)); (case k9 => exact BindsTo.of_eq rfl); (case c5 => decide); (case kB => exact locs rfl); (case c2 => exact rfl); (case c3 => exact rfl); (case c4 => exact rfl); k_whole; intro g' L' h' F' N' B' X' T'; (try dsimp only); (try k_fold)))
  have hB := pow2_gt hW
  have hB2 := pow2_le hW hW2
  have hlen := limZ_len hB 1000 hn2
  have hbl : LtP b 1000 := LtP.small (by omega)
  ((repeat' (((fail_if_success (with_reducible show wpAny _ _ (exec (PySem.Stmt.While _ _ _ _) _) _ _ _)); (fail_if_success (with_reducible show wpAny _ _ (pyIter _) _ _ _)); (fail_if_success (with_reducible show wpAny _ _ (eval (PySem.Expr.ListComp _ _ _ _) _) _ _ _)); (fail_if_success (with_reducible show LCg.CompSrc _ _ _ _ _ _ _ _ _ _ _ _ _ _)); (fail_if_success (with_reducible show wpAny _ _ (call (Value.ref _) _ _) _ _ _)); (first | ((with_reducible show wpAny _ _ (exec (PySem.Stmt.For _ _ _ _ _) _) _ _ _); (rename Fr _ _ _ _ => zF'); (with_unfolding_all refine' For_invVF zF' ?zk1 ?zk2 ?_; (case zk1 => exact rfl); (case zk2 => exact rfl); k_whole)) | (k_unfold; (try dsimp only)) | (k_end; wrow_close) | walk1 | (dsimp only; walk1) | (leave1; walk_say "STEP leave1"; try dsimp only) | (dsimp only; k_unfold; (try dsimp only)) | fail "no step")))); (all_goals (try (rename Fr _ _ _ _ => zF'; dsimp only at zF'))); (all_goals (try dsimp only)))
  ·
    k_dflt (refine' use_LI (divrem_limb_walk hW hW2 hn hn2 (by omega) (by omega) hws) ?zB ?zF ?zX ?zN ?zT ?zk ?zs ?zd ?zu ?_)
    ((case zB => k_asm); (case zF => k_asm); (case zX => k_asm); (case zN => k_asm); (case zT => k_asm); (case zk => first | exact rfl | assumption); (case zs => walk_at "mine sub"); (case zd => first | ((try dsimp only); exact room1 (by assumption) (by first | decide | exact Nat.le_refl _ | exact Nat.le_trans (by decide) (Nat.le_add_right _ _) | omega)) | (dsimp only; omega) | (simp only [depth_deeper]; omega)); (case zu => first | ((try dsimp only); exact room3 (by assumption) (by first | decide | exact Nat.le_refl _ | exact Nat.le_trans (by decide) (Nat.le_add_right _ _) | omega)) | (dsimp only; omega) | (simp only [units_deeper]; omega)))
    intro p3 a3 vs3 n3 t3 h3 tk3 F3 N3 nea neb hpa I3
    simp only [Ne1, and_true] at nea
    simp only [Ne1, and_true] at neb
    ((repeat' (((fail_if_success (with_reducible show wpAny _ _ (exec (PySem.Stmt.While _ _ _ _) _) _ _ _)); (fail_if_success (with_reducible show wpAny _ _ (pyIter _) _ _ _)); (fail_if_success (with_reducible show wpAny _ _ (eval (PySem.Expr.ListComp _ _ _ _) _) _ _ _)); (fail_if_success (with_reducible show LCg.CompSrc _ _ _ _ _ _ _ _ _ _ _ _ _ _)); (fail_if_success (with_reducible show wpAny _ _ (call (Value.ref _) _ _) _ _ _)); (first | ((with_reducible show wpAny _ _ (exec (PySem.Stmt.For _ _ _ _ _) _) _ _ _); (rename Fr _ _ _ _ => zF'); (with_unfolding_all refine' For_invVF zF' ?zk1 ?zk2 ?_; (case zk1 => exact rfl); (case zk2 => exact rfl); k_whole)) | (k_unfold; (try dsimp only)) | (k_end; wrow_close) | walk1 | (dsimp only; walk1) | (leave1; walk_say "STEP leave1"; try dsimp only) | (dsimp only; k_unfold; (try dsimp only)) | fail "no step")))); (all_goals (try (rename Fr _ _ _ _ => zF'; dsimp only at zF'))); (all_goals (try dsimp only)))
    k_dflt (refine' endM_of (tl := [(_, _), (_, _)]) (by k_asm) (by k_asm) ?ze1 ?ze2 ?ze3 ⟨_, _, _, _, _, rfl, rfl, I3, ?ze4⟩)
    case ze1 => walk_at "mine sub"
    case ze2 => walk_at "mine sub"
    case ze3 => walk_at "mine ne"
    case ze4 => omega
  ·
    k_dflt (refine' use_L (nat_of_walk hW hW2 (by omega) hbl) ?zB ?zF ?zX ?zN ?zT ?zk ?zs ?zd ?zu ?_)
    ((case zB => k_asm); (case zF => k_asm); (case zX => k_asm); (case zN => k_asm); (case zT => k_asm); (case zk => first | exact rfl | assumption); (case zs => walk_at "mine sub"); (case zd => first | ((try dsimp only); exact room1 (by assumption) (by first | decide | exact Nat.le_refl _ | exact Nat.le_trans (by decide) (Nat.le_add_right _ _) | omega)) | (dsimp only; omega) | (simp only [depth_deeper]; omega)); (case zu => first | ((try dsimp only); exact room3 (by assumption) (by first | decide | exact Nat.le_refl _ | exact Nat.le_trans (by decide) (Nat.le_add_right _ _) | omega)) | (dsimp only; omega) | (simp only [units_deeper]; omega)))
    intro b5 vs5 n5 h5 tk5 F5 N5 ne5 I5
    simp only [Ne1, and_true] at ne5
    ((repeat' (((fail_if_success (with_reducible show wpAny _ _ (exec (PySem.Stmt.While _ _ _ _) _) _ _ _)); (fail_if_success (with_reducible show wpAny _ _ (pyIter _) _ _ _)); (fail_if_success (with_reducible show wpAny _ _ (eval (PySem.Expr.ListComp _ _ _ _) _) _ _ _)); (fail_if_success (with_reducible show LCg.CompSrc _ _ _ _ _ _ _ _ _ _ _ _ _ _)); (fail_if_success (with_reducible show wpAny _ _ (call (Value.ref _) _ _) _ _ _)); (first | ((with_reducible show wpAny _ _ (exec (PySem.Stmt.For _ _ _ _ _) _) _ _ _); (rename Fr _ _ _ _ => zF'); (with_unfolding_all refine' For_invVF zF' ?zk1 ?zk2 ?_; (case zk1 => exact rfl); (case zk2 => exact rfl); k_whole)) | (k_unfold; (try dsimp only)) | (k_end; wrow_close) | walk1 | (dsimp only; walk1) | (leave1; walk_say "STEP leave1"; try dsimp only) | (dsimp only; k_unfold; (try dsimp only)) | fail "no step")))); (all_goals (try (rename Fr _ _ _ _ => zF'; dsimp only at zF'))); (all_goals (try dsimp only)))
    k_dflt (refine' use_LL (parts_walk hW hW2 hn hn2 (by omega) hbl hws I5) ?zB ?zF ?zX ?zN ?zT ?zk ?zs ?zd ?zu ?_)
    ((case zB => k_asm); (case zF => k_asm); (case zX => k_asm); (case zN => k_asm); (case zT => k_asm); (case zk => first | exact rfl | assumption); (case zs => walk_at "mine sub"); (case zd => first | ((try dsimp only); exact room1 (by assumption) (by first | decide | exact Nat.le_refl _ | exact Nat.le_trans (by decide) (Nat.le_add_right _ _) | omega)) | (dsimp only; omega) | (simp only [depth_deeper]; omega)); (case zu => first | ((try dsimp only); exact room3 (by assumption) (by first | decide | exact Nat.le_refl _ | exact Nat.le_trans (by decide) (Nat.le_add_right _ _) | omega)) | (dsimp only; omega) | (simp only [units_deeper]; omega)))
    intro p6 a6 c6 vs6 n6 ws6 k6 h6 tk6 F6 N6 nea neb nec hpa hpb hab I6 J6
    simp only [Ne1, and_true] at nea
    simp only [Ne1, and_true] at neb
    simp only [Ne1, and_true] at nec
    have hm1 : n % b < b := Int.emod_lt_of_pos _ (Int.lt_of_lt_of_le (by decide) hb)
    have hm0 : 0 ≤ n % b := mdc0 (Int.lt_of_lt_of_le (by decide) hb) _
    ((repeat' (((fail_if_success (with_reducible show wpAny _ _ (exec (PySem.Stmt.While _ _ _ _) _) _ _ _)); (fail_if_success (with_reducible show wpAny _ _ (pyIter _) _ _ _)); (fail_if_success (with_reducible show wpAny _ _ (eval (PySem.Expr.ListComp _ _ _ _) _) _ _ _)); (fail_if_success (with_reducible show LCg.CompSrc _ _ _ _ _ _ _ _ _ _ _ _ _ _)); (fail_if_success (with_reducible show wpAny _ _ (call (Value.ref _) _ _) _ _ _)); (first | ((with_reducible show wpAny _ _ (exec (PySem.Stmt.For _ _ _ _ _) _) _ _ _); (rename Fr _ _ _ _ => zF'); (with_unfolding_all refine' For_invVF zF' ?zk1 ?zk2 ?_; (case zk1 => exact rfl); (case zk2 => exact rfl); k_whole)) | (k_unfold; (try dsimp only)) | (k_end; wrow_close) | walk1 | (dsimp only; walk1) | (leave1; walk_say "STEP leave1"; try dsimp only) | (dsimp only; k_unfold; (try dsimp only)) | fail "no step")))); (all_goals (try (rename Fr _ _ _ _ => zF'; dsimp only at zF'))); (all_goals (try dsimp only)))
    k_dflt (refine' use_I (plain_walk hW hW2 hm0 (LtP.small (by omega)) J6) ?zB ?zF ?zX ?zN ?zT ?zk ?zs ?zd ?zu ?_)
    ((case zB => k_asm); (case zF => k_asm); (case zX => k_asm); (case zN => k_asm); (case zT => k_asm); (case zk => first | exact rfl | assumption); (case zs => walk_at "mine sub"); (case zd => first | ((try dsimp only); exact room1 (by assumption) (by first | decide | exact Nat.le_refl _ | exact Nat.le_trans (by decide) (Nat.le_add_right _ _) | omega)) | (dsimp only; omega) | (simp only [depth_deeper]; omega)); (case zu => first | ((try dsimp only); exact room3 (by assumption) (by first | decide | exact Nat.le_refl _ | exact Nat.le_trans (by decide) (Nat.le_add_right _ _) | omega)) | (dsimp only; omega) | (simp only [units_deeper]; omega)))
    intro t7 h7 tk7 F7 N7
    ((repeat' (((fail_if_success (with_reducible show wpAny _ _ (exec (PySem.Stmt.While _ _ _ _) _) _ _ _)); (fail_if_success (with_reducible show wpAny _ _ (pyIter _) _ _ _)); (fail_if_success (with_reducible show wpAny _ _ (eval (PySem.Expr.ListComp _ _ _ _) _) _ _ _)); (fail_if_success (with_reducible show LCg.CompSrc _ _ _ _ _ _ _ _ _ _ _ _ _ _)); (fail_if_success (with_reducible show wpAny _ _ (call (Value.ref _) _ _) _ _ _)); (first | ((with_reducible show wpAny _ _ (exec (PySem.Stmt.For _ _ _ _ _) _) _ _ _); (rename Fr _ _ _ _ => zF'); (with_unfolding_all refine' For_invVF zF' ?zk1 ?zk2 ?_; (case zk1 => exact rfl); (case zk2 => exact rfl); k_whole)) | (k_unfold; (try dsimp only)) | (k_end; wrow_close) | walk1 | (dsimp only; walk1) | (leave1; walk_say "STEP leave1"; try dsimp only) | (dsimp only; k_unfold; (try dsimp only)) | fail "no step")))); (all_goals (try (rename Fr _ _ _ _ => zF'; dsimp only at zF'))); (all_goals (try dsimp only)))
    k_dflt (refine' endM_of (tl := [(_, _), (_, _)]) (by k_asm) (by k_asm) ?ze1 ?ze2 ?ze3 ⟨_, _, _, _, _, rfl, rfl, I6, ?ze4⟩)
    case ze1 => walk_at "mine sub"
    case ze2 => walk_at "mine sub"
    case ze3 => walk_at "mine ne"
    case ze4 => omega

theorem digits_plain_walk {w : World} {mean : ExcName → Option Value} {mg mb : Str → Option Value} {W n b : Int} {t1 t2 : Tok} {l : Addr} {ws : List Value} {nn : Nat} (hW : 1 ≤ W) (hW2 : W ≤ 8) (hn : 0 ≤ n) (hn2 : LtP n 1000) (hb : 2 ≤ b) (hb2 : b ≤ 20) (hws : IntsAre ws (limZ (2 ^ W.toNat) n)) :
    Does w mean mg mb 114 4 80 [.ref l, .int b t1, .int W t2, .ref 191] [(l, listOf ws.toArray nn)] (OutL (limZ b n).reverse) := by
  unfold Does
  k_fill
  intro dp u gd cn cs L a ccd cl outer A₀ base h₀ m s Q E B F X N T hk hd hu ret
  k_dflt (refine' enterM (binds := [(Str.ofString "a", .ref l), (Str.ofString "base", .int b t1), (Str.ofString "w", .int W t2), (Str.ofString "divrem", .ref 191)]) ?k1 ?k2 ?k3 ?k4 ?k5 ?kA ?kF ?kK ?k6 ?k7 ?k8 ?k9 ?kB ?kR ?_ ?c2 ?c3 ?c4 ?c5; ((case kA => exact rfl); (case kF => exact rfl); (case kK => assumption); (case k1 => k_asm); (case k2 => k_asm); (case k3 => k_asm); (case k4 => k_asm); (case k5 => k_asm); (case kR => assumption); (case k6 => k_is); (case k7 => k_is); (case k8 => ((dsimp only); omega)); (case k9 => exact BindsTo.of_eq rfl); (case c5 => decide); (case kB => exact locs rfl); (case c2 => exact rfl); (case c3 => exact rfl); (case c4 => exact rfl); k_whole; intro g' L' h' F' N' B' X' T'; (try dsimp only); (try k_fold)))
  have hB := pow2_gt hW
  have hb1 : 1 < b := hb
  have hlen := limZ_len hb1 1000 hn2
  have hlen2 := limZ_len hB 1000 hn2
  ((repeat' (((fail_if_success (with_reducible show wpAny _ _ (exec (PySem.Stmt.While _ _ _ _) _) _ _ _)); (fail_if_success (with_reducible show wpAny _ _ (pyIter _) _ _ _)); (fail_if_success (with_reducible show wpAny _ _ (eval (PySem.Expr.ListComp _ _ _ _) _) _ _ _)); (fail_if_success (with_reducible show LCg.CompSrc _ _ _ _ _ _ _ _ _ _ _ _ _ _)); (fail_if_success (with_reducible show wpAny _ _ (call (Value.ref _) _ _) _ _ _)); (first | ((with_reducible show wpAny _ _ (exec (PySem.Stmt.For _ _ _ _ _) _) _ _ _); (rename Fr _ _ _ _ => zF'); (with_unfolding_all refine' For_invVF zF' ?zk1 ?zk2 ?_; (case zk1 => exact rfl); (case zk2 => exact rfl); k_whole)) | (k_unfold; (try dsimp only)) | (k_end; wrow_close) | walk1 | (dsimp only; walk1) | (leave1; walk_say "STEP leave1"; try dsimp only) | (dsimp only; k_unfold; (try dsimp only)) | fail "no step")))); (all_goals (try (rename Fr _ _ _ _ => zF'; dsimp only at zF'))); (all_goals (try dsimp only)))
  rename Fr _ _ _ _ => F1
  rename News _ _ _ _ => N1
  refine' while_M (σ := Int × Addr × List Value × Nat × Addr × List Value × List Int × Nat) (fun (m, l2, vs, kk, f, fs, xs, k9) => [(f, listOf fs.toArray k9), (l, listOf ws.toArray nn), (l2, listOf vs.toArray kk)])
    (fun (m, l2, vs, kk, f, fs, xs, k9) => [(Str.ofString "a", .ref l2), (Str.ofString "base", .int b t1), (Str.ofString "w", .int W t2), (Str.ofString "divrem", .ref 191), (Str.ofString "found", .ref f)])
    (fun (m, l2, vs, kk, f, fs, xs, k9) => @Ne Nat l f ∧ @Ne Nat l2 f ∧ 0 ≤ m ∧ m ≤ n ∧ IntsAre vs (limZ (2 ^ W.toNat) m) ∧ IntsAre fs xs ∧ xs ++ limZ b m = limZ b n) (fun (m, l2, vs, kk, f, fs, xs, k9) => m.toNat) (n, l, ws, nn, _, [], [], _) F1 N1 ?zl ?zf ?zp ?turn (by passes_own)
  case zf => kst_all
  case zl => walk_at "mine sub"
  case zp => exact ⟨by omega, by omega, hn, Int.le_refl _, hws, .nil, rfl⟩
  case turn =>
    rintro ⟨m, l2, vs, kk, f, fs, xs, k9⟩ u2 h2 tk2 ⟨hlf, hlf2, hm0, hm1, hvs, hI, hx⟩ F2 N2
    (try dsimp only at F2)
    (try dsimp only at N2)
    (try dsimp only at hlf)
    (try dsimp only at hlf2)
    (try dsimp only at hm0)
    (try dsimp only at hm1)
    (try dsimp only at hvs)
    (try dsimp only at hI)
    (try dsimp only at hx)
    (try dsimp only)
    clear F1 N1
    have hsz : fs.toArray.size ≤ sizeLine := sz_app hI hx hlen
    have hlen3 := limZ_len hB 1000 (hn2.le hm1)
    ((repeat' (((fail_if_success (with_reducible show wpAny _ _ (exec (PySem.Stmt.While _ _ _ _) _) _ _ _)); (fail_if_success (with_reducible show wpAny _ _ (pyIter _) _ _ _)); (fail_if_success (with_reducible show wpAny _ _ (eval (PySem.Expr.ListComp _ _ _ _) _) _ _ _)); (fail_if_success (with_reducible show LCg.CompSrc _ _ _ _ _ _ _ _ _ _ _ _ _ _)); (fail_if_success (with_reducible show wpAny _ _ (call (Value.ref _) _ _) _ _ _)); (first | ((with_reducible show wpAny _ _ (exec (PySem.Stmt.For _ _ _ _ _) _) _ _ _); (rename Fr _ _ _ _ => zF'); (with_unfolding_all refine' For_invVF zF' ?zk1 ?zk2 ?_; (case zk1 => exact rfl); (case zk2 => exact rfl); k_whole)) | (k_unfold; (try dsimp only)) | (k_end; wrow_close) | walk1 | (dsimp only; walk1) | (leave1; walk_say "STEP leave1"; try dsimp only) | (dsimp only; k_unfold; (try dsimp only)) | fail "no step")))); (all_goals (try (rename Fr _ _ _ _ => zF'; dsimp only at zF'))); (all_goals (try dsimp only)))
    · have hpos : 0 < m := by
        have := (lim_lt hB hm0 0).mp (by omega)
        rwa [q_zero] at this
      k_dflt (refine' use_LI (digit_off_walk hW hW2 hm0 (hn2.le hm1) hb hb2 hvs) ?zB ?zF ?zX ?zN ?zT ?zk ?zs ?zd ?zu ?_)
      ((case zB => k_asm); (case zF => k_asm); (case zX => k_asm); (case zN => k_asm); (case zT => k_asm); (case zk => first | exact rfl | assumption); (case zs => walk_at "mine sub"); (case zd => first | ((try dsimp only); exact room1 (by assumption) (by first | decide | exact Nat.le_refl _ | exact Nat.le_trans (by decide) (Nat.le_add_right _ _) | omega)) | (dsimp only; omega) | (simp only [depth_deeper]; omega)); (case zu => first | ((try dsimp only); exact room3 (by assumption) (by first | decide | exact Nat.le_refl _ | exact Nat.le_trans (by decide) (Nat.le_add_right _ _) | omega)) | (dsimp only; omega) | (simp only [units_deeper]; omega)))
      intro p3 a3 vs3 n3 t3 h3 tk3 F3 N3 nea neb hpa I3
      simp only [Ne1, and_true] at nea
      simp only [Ne1, and_true] at neb
      obtain ⟨nea1, nea2, nea3⟩ := nea
      obtain ⟨neb1, neb2, neb3⟩ := neb
      have nea4 := Ne.symm nea1
      have neb4 := Ne.symm neb1
      ((repeat' (((fail_if_success (with_reducible show wpAny _ _ (exec (PySem.Stmt.While _ _ _ _) _) _ _ _)); (fail_if_success (with_reducible show wpAny _ _ (pyIter _) _ _ _)); (fail_if_success (with_reducible show wpAny _ _ (eval (PySem.Expr.ListComp _ _ _ _) _) _ _ _)); (fail_if_success (with_reducible show LCg.CompSrc _ _ _ _ _ _ _ _ _ _ _ _ _ _)); (fail_if_success (with_reducible show wpAny _ _ (call (Value.ref _) _ _) _ _ _)); (first | ((with_reducible show wpAny _ _ (exec (PySem.Stmt.For _ _ _ _ _) _) _ _ _); (rename Fr _ _ _ _ => zF'); (with_unfolding_all refine' For_invVF zF' ?zk1 ?zk2 ?_; (case zk1 => exact rfl); (case zk2 => exact rfl); k_whole)) | (k_unfold; (try dsimp only)) | (k_end; wrow_close) | walk1 | (dsimp only; walk1) | (leave1; walk_say "STEP leave1"; try dsimp only) | (dsimp only; k_unfold; (try dsimp only)) | fail "no step")))); (all_goals (try (rename Fr _ _ _ _ => zF'; dsimp only at zF'))); (all_goals (try dsimp only)))
      rename Fr _ _ _ _ => F3
      rename News _ _ _ _ => N3
      (try simp only [List.push_toArray] at N3)
      k_dflt (refine' wh_end (m / b, _, _, _, _, _, xs ++ [m % b], _) F3 N3 ?zl ?zf ?zp ?zm)
      case zf => kst_all
      case zl => walk_at "mine sub"
      case zp =>
        refine ⟨hlf, neb4, ?_, ?_, I3, ints_snoc hI, ?_⟩
        · exact dv0 hb1 hm0
        · exact Int.le_trans (Int.ediv_le_self _ hm0) hm1
        · (try dsimp only); rw [List.append_assoc, ← hx, limZ_pos (n := m) hpos hb1]; rfl
      case zm =>
        dsimp only
        exact tn_lt (div_lt hpos hb1) hpos
    · have hz : m = 0 := lim_zero hB hm0 (by omega)
      subst hz
      rw [limZ_neg (Int.lt_irrefl _), List.append_nil] at hx
      subst hx
      k_dflt (refine' reverse_head_ints (its := fs.toArray) F2 N2 ?zh hI ?_ ?zsz)
      case zh => k_all
      case zsz => rw [sizeLine_eq]; omega
      intro h4 F4 N4 I4
      ((repeat' (((fail_if_success (with_reducible show wpAny _ _ (exec (PySem.Stmt.While _ _ _ _) _) _ _ _)); (fail_if_success (with_reducible show wpAny _ _ (pyIter _) _ _ _)); (fail_if_success (with_reducible show wpAny _ _ (eval (PySem.Expr.ListComp _ _ _ _) _) _ _ _)); (fail_if_success (with_reducible show LCg.CompSrc _ _ _ _ _ _ _ _ _ _ _ _ _ _)); (fail_if_success (with_reducible show wpAny _ _ (call (Value.ref _) _ _) _ _ _)); (first | ((with_reducible show wpAny _ _ (exec (PySem.Stmt.For _ _ _ _ _) _) _ _ _); (rename Fr _ _ _ _ => zF'); (with_unfolding_all refine' For_invVF zF' ?zk1 ?zk2 ?_; (case zk1 => exact rfl); (case zk2 => exact rfl); k_whole)) | (k_unfold; (try dsimp only)) | (k_end; wrow_close) | walk1 | (dsimp only; walk1) | (leave1; walk_say "STEP leave1"; try dsimp only) | (dsimp only; k_unfold; (try dsimp only)) | fail "no step")))); (all_goals (try (rename Fr _ _ _ _ => zF'; dsimp only at zF'))); (all_goals (try dsimp only)))
      k_dflt (refine' endM_of (tl := [(_, _)]) (by k_asm) (by k_asm) ?ze1 ?ze2 ?ze3 ⟨_, _, _, rfl, rfl, I4⟩)
      case ze1 => walk_at "mine sub"
      case ze2 => walk_at "mine sub"
      case ze3 => walk_at "mine ne"


end
section
example : True := by
  w_top off
  trivial
theorem noughts_walk {w : World} {mean : ExcName → Option Value} {mg mb : Str → Option Value} {M : Int} {xs : List Int} {t1 : Tok} {l : Addr} {ws : List Value} {nn : Nat} (hM : 0 ≤ M) (hM2 : M ≤ 10000) (hlen : xs.length ≤ 10000) (hws : IntsAre ws xs) :
    Does w mean mg mb 128 1 20 [.ref l, .int M t1] [(l, listOf ws.toArray nn)] (OutL (List.replicate (M - xs.length).toNat 0 ++ xs)) := by
  unfold Does
  k_fill
  intro dp u gd cn cs L a ccd cl outer A₀ base h₀ m s Q E B F X N T hk hd hu ret
  k_dflt (refine' enterM (binds := [(Str.ofString "digits", .ref l), (Str.ofString "many", .int M t1)]) ?k1 ?k2 ?k3 ?k4 ?k5 ?kA ?kF ?kK ?k6 ?k7 ?k8 ?k9 ?kB ?kR ?_ ?c2 ?c3 ?c4 ?c5; ((case kA => exact rfl); (case kF => exact rfl); (case kK => assumption); (case k1 => k_asm); (case k2 => k_asm); (case k3 => k_asm); (case k4 => k_asm); (case k5 => k_asm); (case kR => assumption); (case k6 => k_is); (case k7 => k_is); (case k8 => ((dsimp only); omega)); (case k9 => exact BindsTo.of_eq rfl); (case c5 => decide); (case kB => exact locs rfl); (case c2 => exact rfl); (case c3 => exact rfl); (case c4 => exact rfl); k_whole; intro g' L' h' F' N' B' X' T'; (try dsimp only); (try k_fold)))
  ((repeat' (((fail_if_success (with_reducible show wpAny _ _ (exec (PySem.Stmt.While _ _ _ _) _) _ _ _)); (fail_if_success (with_reducible show wpAny _ _ (pyIter _) _ _ _)); (fail_if_success (with_reducible show wpAny _ _ (eval (PySem.Expr.ListComp _ _ _ _) _) _ _ _)); (fail_if_success (with_reducible show LCg.CompSrc _ _ _ _ _ _ _ _ _ _ _ _ _ _)); (fail_if_success (with_reducible show wpAny _ _ (call (Value.ref _) _ _) _ _ _)); (first | ((with_reducible show wpAny _ _ (exec (PySem.Stmt.For _ _ _ _ _) _) _ _ _); (rename Fr _ _ _ _ => zF'); (with_unfolding_all refine' For_invVF zF' ?zk1 ?zk2 ?_; (case zk1 => exact rfl); (case zk2 => exact rfl); k_whole)) | (k_unfold; (try dsimp only)) | (k_end; wrow_close) | walk1 | (dsimp only; walk1) | (leave1; walk_say "STEP leave1"; try dsimp only) | (dsimp only; k_unfold; (try dsimp only)) | fail "no step")))); (all_goals (try (rename Fr _ _ _ _ => zF'; dsimp only at zF'))); (all_goals (try dsimp only)))
  rename IntsAre _ (_ ++ xs) => I3
  have hfl : (List.replicate (M - (xs.length : Int)).toNat [(0 : Int)]).flatten = List.replicate (M - xs.length).toNat 0 := List.flatten_replicate_singleton
  rw [hfl] at I3
  k_dflt (refine' endM_of (tl := [(_, _)]) (by k_asm) (by k_asm) ?ze1 ?ze2 ?ze3 ⟨_, _, _, rfl, rfl, I3⟩)
  case ze1 => walk_at "mine sub"
  case ze2 => walk_at "mine sub"
  case ze3 => walk_at "mine ne"

theorem times_base_walk {w : World} {mean : ExcName → Option Value} {mg mb : Str → Option Value} {W n b : Int} {t1 t2 : Tok} {l : Addr} {ws : List Value} {nn : Nat} (hW : 1 ≤ W) (hW2 : W ≤ 8) (hn : 0 ≤ n) (hn2 : LtP n 1000) (hnb : LtP (n * b) 1000) (hb : 2 ≤ b) (hb2 : b ≤ 20) (hws : IntsAre ws (limZ (2 ^ W.toNat) n)) :
    Does w mean mg mb 142 3 60 [.ref l, .int b t1, .int W t2, .ref 184] [(l, listOf ws.toArray nn)] (OutL (limZ (2 ^ W.toNat) (n * b))) := by
  unfold Does
  k_fill
  intro dp u gd cn cs L a ccd cl outer A₀ base h₀ m s Q E B F X N T hk hd hu ret
  k_dflt (refine' enterM (binds := [(Str.ofString "a", .ref l), (Str.ofString "base", .int b t1), (Str.ofString "w", .int W t2), (Str.ofString "mul", .ref 184)]) ?k1 ?k2 ?k3 ?k4 ?k5 ?kA ?kF ?kK ?k6 ?k7 ?k8 ?k9 ?kB ?kR ?_ ?c2 ?c3 ?c4 ?c5; ((case kA => exact rfl); (case kF => exact rfl); (case kK => assumption); (case k1 => k_asm); (case k2 => k_asm); (case k3 => k_asm); (case k4 => k_asm); (case k5 => k_asm); (case kR => assumption); (case k6 => k_is); (case k7 => k_is); (case k8 => ((dsimp only); omega)); (case k9 => exact BindsTo.of_eq rfl); (case c5 => decide); (case kB => exact locs rfl); (case c2 => exact rfl); (case c3 => exact rfl); (case c4 => exact rfl); k_whole; intro g' L' h' F' N' B' X' T'; (try dsimp only); (try k_fold)))
  have hB := pow2_gt hW
  have hB2 := pow2_le hW hW2
  have hlen := limZ_len hB 1000 hn2
  have hbl : LtP b 1000 := LtP.small (by omega)
  ((repeat' (((fail_if_success (with_reducible show wpAny _ _ (exec (PySem.Stmt.While _ _ _ _) _) _ _ _)); (fail_if_success (with_reducible show wpAny _ _ (pyIter _) _ _ _)); (fail_if_success (with_reducible show wpAny _ _ (eval (PySem.Expr.ListComp _ _ _ _) _) _ _ _)); (fail_if_success (with_reducible show LCg.CompSrc _ _ _ _ _ _ _ _ _ _ _ _ _ _)); (fail_if_success (with_reducible show wpAny _ _ (call (Value.ref _) _ _) _ _ _)); (first | ((with_reducible show wpAny _ _ (exec (PySem.Stmt.For _ _ _ _ _) _) _ _ _); (rename Fr _ _ _ _ => zF'); (with_unfolding_all refine' For_invVF zF' ?zk1 ?zk2 ?_; (case zk1 => exact rfl); (case zk2 => exact rfl); k_whole)) | (k_unfold; (try dsimp only)) | (k_end; wrow_close) | walk1 | (dsimp only; walk1) | (leave1; walk_say "STEP leave1"; try dsimp only) | (dsimp only; k_unfold; (try dsimp only)) | fail "no step")))); (all_goals (try (rename Fr _ _ _ _ => zF'; dsimp only at zF'))); (all_goals (try dsimp only)))
  ·
    k_dflt (refine' use_L (mul_limb_walk hW hW2 hn hn2 hnb (by omega) (by omega) hws) ?zB ?zF ?zX ?zN ?zT ?zk ?zs ?zd ?zu ?_)
    ((case zB => k_asm); (case zF => k_asm); (case zX => k_asm); (case zN => k_asm); (case zT => k_asm); (case zk => first | exact rfl | assumption); (case zs => walk_at "mine sub"); (case zd => first | ((try dsimp only); exact room1 (by assumption) (by first | decide | exact Nat.le_refl _ | exact Nat.le_trans (by decide) (Nat.le_add_right _ _) | omega)) | (dsimp only; omega) | (simp only [depth_deeper]; omega)); (case zu => first | ((try dsimp only); exact room3 (by assumption) (by first | decide | exact Nat.le_refl _ | exact Nat.le_trans (by decide) (Nat.le_add_right _ _) | omega)) | (dsimp only; omega) | (simp only [units_deeper]; omega)))
    intro b5 vs5 n5 h5 tk5 F5 N5 ne5 I5
    simp only [Ne1, and_true] at ne5
    ((repeat' (((fail_if_success (with_reducible show wpAny _ _ (exec (PySem.Stmt.While _ _ _ _) _) _ _ _)); (fail_if_success (with_reducible show wpAny _ _ (pyIter _) _ _ _)); (fail_if_success (with_reducible show wpAny _ _ (eval (PySem.Expr.ListComp _ _ _ _) _) _ _ _)); (fail_if_success (with_reducible show LCg.CompSrc _ _ _ _ _ _ _ _ _ _ _ _ _ _)); (fail_if_success (with_reducible show wpAny _ _ (call (Value.ref _) _ _) _ _ _)); (first | ((with_reducible show wpAny _ _ (exec (PySem.Stmt.For _ _ _ _ _) _) _ _ _); (rename Fr _ _ _ _ => zF'); (with_unfolding_all refine' For_invVF zF' ?zk1 ?zk2 ?_; (case zk1 => exact rfl); (case zk2 => exact rfl); k_whole)) | (k_unfold; (try dsimp only)) | (k_end; wrow_close) | walk1 | (dsimp only; walk1) | (leave1; walk_say "STEP leave1"; try dsimp only) | (dsimp only; k_unfold; (try dsimp only)) | fail "no step")))); (all_goals (try (rename Fr _ _ _ _ => zF'; dsimp only at zF'))); (all_goals (try dsimp only)))
    k_dflt (refine' endM_of (tl := [(_, _)]) (by k_asm) (by k_asm) ?ze1 ?ze2 ?ze3 ⟨_, _, _, rfl, rfl, I5⟩)
    case ze1 => walk_at "mine sub"
    case ze2 => walk_at "mine sub"
    case ze3 => walk_at "mine ne"
  ·
    k_dflt (refine' use_L (nat_of_walk hW hW2 (by omega) hbl) ?zB ?zF ?zX ?zN ?zT ?zk ?zs ?zd ?zu ?_)
    ((case zB => k_asm); (case zF => k_asm); (case zX => k_asm); (case zN => k_asm); (case zT => k_asm); (case zk => first | exact rfl | assumption); (case zs => walk_at "mine sub"); (case zd => first | ((try dsimp only); exact room1 (by assumption) (by first | decide | exact Nat.le_refl _ | exact Nat.le_trans (by decide) (Nat.le_add_right _ _) | omega)) | (dsimp only; omega) | (simp only [depth_deeper]; omega)); (case zu => first | ((try dsimp only); exact room3 (by assumption) (by first | decide | exact Nat.le_refl _ | exact Nat.le_trans (by decide) (Nat.le_add_right _ _) | omega)) | (dsimp only; omega) | (simp only [units_deeper]; omega)))
    intro b5 vs5 n5 h5 tk5 F5 N5 ne5 I5
    simp only [Ne1, and_true] at ne5
    ((repeat' (((fail_if_success (with_reducible show wpAny _ _ (exec (PySem.Stmt.While _ _ _ _) _) _ _ _)); (fail_if_success (with_reducible show wpAny _ _ (pyIter _) _ _ _)); (fail_if_success (with_reducible show wpAny _ _ (eval (PySem.Expr.ListComp _ _ _ _) _) _ _ _)); (fail_if_success (with_reducible show LCg.CompSrc _ _ _ _ _ _ _ _ _ _ _ _ _ _)); (fail_if_success (with_reducible show wpAny _ _ (call (Value.ref _) _ _) _ _ _)); (first | ((with_reducible show wpAny _ _ (exec (PySem.Stmt.For _ _ _ _ _) _) _ _ _); (rename Fr _ _ _ _ => zF'); (with_unfolding_all refine' For_invVF zF' ?zk1 ?zk2 ?_; (case zk1 => exact rfl); (case zk2 => exact rfl); k_whole)) | (k_unfold; (try dsimp only)) | (k_end; wrow_close) | walk1 | (dsimp only; walk1) | (leave1; walk_say "STEP leave1"; try dsimp only) | (dsimp only; k_unfold; (try dsimp only)) | fail "no step")))); (all_goals (try (rename Fr _ _ _ _ => zF'; dsimp only at zF'))); (all_goals (try dsimp only)))
    k_dflt (refine' use_L (times_walk hW hW2 hn hn2 (by omega) hbl hnb hws I5) ?zB ?zF ?zX ?zN ?zT ?zk ?zs ?zd ?zu ?_)
    ((case zB => k_asm); (case zF => k_asm); (case zX => k_asm); (case zN => k_asm); (case zT => k_asm); (case zk => first | exact rfl | assumption); (case zs => walk_at "mine sub"); (case zd => first | ((try dsimp only); exact room1 (by assumption) (by first | decide | exact Nat.le_refl _ | exact Nat.le_trans (by decide) (Nat.le_add_right _ _) | omega)) | (dsimp only; omega) | (simp only [depth_deeper]; omega)); (case zu => first | ((try dsimp only); exact room3 (by assumption) (by first | decide | exact Nat.le_refl _ | exact Nat.le_trans (by decide) (Nat.le_add_right _ _) | omega)) | (dsimp only; omega) | (simp only [units_deeper]; omega)))
    intro b6 vs6 n6 h6 tk6 F6 N6 ne6 I6
    simp only [Ne1, and_true] at ne6
    ((repeat' (((fail_if_success (with_reducible show wpAny _ _ (exec (PySem.Stmt.While _ _ _ _) _) _ _ _)); (fail_if_success (with_reducible show wpAny _ _ (pyIter _) _ _ _)); (fail_if_success (with_reducible show wpAny _ _ (eval (PySem.Expr.ListComp _ _ _ _) _) _ _ _)); (fail_if_success (with_reducible show LCg.CompSrc _ _ _ _ _ _ _ _ _ _ _ _ _ _)); (fail_if_success (with_reducible show wpAny _ _ (call (Value.ref _) _ _) _ _ _)); (first | ((with_reducible show wpAny _ _ (exec (PySem.Stmt.For _ _ _ _ _) _) _ _ _); (rename Fr _ _ _ _ => zF'); (with_unfolding_all refine' For_invVF zF' ?zk1 ?zk2 ?_; (case zk1 => exact rfl); (case zk2 => exact rfl); k_whole)) | (k_unfold; (try dsimp only)) | (k_end; wrow_close) | walk1 | (dsimp only; walk1) | (leave1; walk_say "STEP leave1"; try dsimp only) | (dsimp only; k_unfold; (try dsimp only)) | fail "no step")))); (all_goals (try (rename Fr _ _ _ _ => zF'; dsimp only at zF'))); (all_goals (try dsimp only)))
    k_dflt (refine' endM_of (tl := [(_, _)]) (by k_asm) (by k_asm) ?ze1 ?ze2 ?ze3 ⟨_, _, _, rfl, rfl, I6⟩)
    case ze1 => walk_at "mine sub"
    case ze2 => walk_at "mine sub"
    case ze3 => walk_at "mine ne"

noncomputable def valB (b : Int) (ds : List Int) : Int := ds.foldl (fun a d => a * b + d) 0
theorem val_ge {b : Int} (hb : 1 ≤ b) : ∀ (ds : List Int) (a : Int), (∀ d ∈ ds, 0 ≤ d) → 0 ≤ a → a ≤ ds.foldl (fun a d => a * b + d) a
  | [], a, _, _ => Int.le_refl _
  | d :: r, a, h, h0 => by
    have h1 := h d (.head _)
    have h2 : a * 1 ≤ a * b := Int.mul_le_mul_of_nonneg_left hb h0
    have := val_ge hb r (a * b + d) (fun x hx => h x (.tail _ hx)) (by omega)
    rw [List.foldl_cons]
    omega
theorem val_take {b : Int} (hb : 1 ≤ b) {ds : List Int} (h : ∀ d ∈ ds, 0 ≤ d) (i : Nat) : 0 ≤ valB b (ds.take i) ∧ valB b (ds.take i) ≤ valB b ds := by
  have h0 : 0 ≤ valB b (ds.take i) := val_ge hb (ds.take i) 0 (fun x hx => h x (List.mem_of_mem_take hx)) (Int.le_refl _)
  refine ⟨h0, ?_⟩
  have h1 := val_ge hb (ds.drop i) (valB b (ds.take i)) (fun x hx => h x (List.mem_of_mem_drop hx)) h0
  have h2 : valB b ds = (ds.drop i).foldl (fun a d => a * b + d) (valB b (ds.take i)) := by
    unfold valB
    rw [← List.foldl_append, List.take_append_drop]
  rw [h2]; exact h1
theorem val_succ {b : Int} {ds : List Int} {i : Nat} {d : Int} (h : ds[i]? = some d) : valB b (ds.take (i + 1)) = valB b (ds.take i) * b + d := by
  unfold valB
  rw [List.take_add_one, h, List.foldl_append]; rfl

theorem number_plain_walk {w : World} {mean : ExcName → Option Value} {mg mb : Str → Option Value} {W b : Int} {ds : List Int} {t1 t2 : Tok} {l : Addr} {ws : List Value} {nn : Nat} (hW : 1 ≤ W) (hW2 : W ≤ 8) (hb : 2 ≤ b) (hb2 : b ≤ 20) (hds : ∀ d ∈ ds, 0 ≤ d ∧ d < b) (hv : LtP (valB b ds) 900) (hws : IntsAre ws ds) :
    Does w mean mg mb 149 4 80 [.ref l, .int b t1, .int W t2, .ref 184] [(l, listOf ws.toArray nn)] (OutL (limZ (2 ^ W.toNat) (valB b ds))) := by
  unfold Does
  k_fill
  intro dp u gd cn cs L a ccd cl outer A₀ base h₀ m s Q E B F X N T hk hd hu ret
  k_dflt (refine' enterM (binds := [(Str.ofString "digits", .ref l), (Str.ofString "base", .int b t1), (Str.ofString "w", .int W t2), (Str.ofString "mul", .ref 184)]) ?k1 ?k2 ?k3 ?k4 ?k5 ?kA ?kF ?kK ?k6 ?k7 ?k8 ?k9 ?kB ?kR ?_ ?c2 ?c3 ?c4 ?c5; ((case kA => exact rfl); (case kF => exact rfl); (case kK => assumption); (case k1 => k_asm); (case k2 => k_asm); (case k3 => k_asm); (case k4 => k_asm); (case k5 => k_asm); (case kR => assumption); (case k6 => k_is); (case k7 => k_is); (case k8 => ((dsimp only); omega)); (case k9 => exact BindsTo.of_eq rfl); (case c5 => decide); (case kB => exact locs rfl); (case c2 => exact rfl); (case c3 => exact rfl); (case c4 => exact rfl); k_whole; intro g' L' h' F' N' B' X' T'; (try dsimp only); (try k_fold)))
  have hB := pow2_gt hW
  have hds0 : ∀ d ∈ ds, 0 ≤ d := fun d hd => (hds d hd).1
  ((repeat' (((fail_if_success (with_reducible show wpAny _ _ (exec (PySem.Stmt.While _ _ _ _) _) _ _ _)); (fail_if_success (with_reducible show wpAny _ _ (pyIter _) _ _ _)); (fail_if_success (with_reducible show wpAny _ _ (eval (PySem.Expr.ListComp _ _ _ _) _) _ _ _)); (fail_if_success (with_reducible show LCg.CompSrc _ _ _ _ _ _ _ _ _ _ _ _ _ _)); (fail_if_success (with_reducible show wpAny _ _ (call (Value.ref _) _ _) _ _ _)); (first | ((with_reducible show wpAny _ _ (exec (PySem.Stmt.For _ _ _ _ _) _) _ _ _); (rename Fr _ _ _ _ => zF'); (with_unfolding_all refine' For_invVF zF' ?zk1 ?zk2 ?_; (case zk1 => exact rfl); (case zk2 => exact rfl); k_whole)) | (k_unfold; (try dsimp only)) | (k_end; wrow_close) | walk1 | (dsimp only; walk1) | (leave1; walk_say "STEP leave1"; try dsimp only) | (dsimp only; k_unfold; (try dsimp only)) | fail "no step")))); (all_goals (try (rename Fr _ _ _ _ => zF'; dsimp only at zF'))); (all_goals (try dsimp only)))
  rename Fr _ _ _ _ => F1
  rename News _ _ _ _ => N1
  refine' for_listM (σ := Addr × List Value × Nat) (fun (f, fs, k9) => [(l, listOf ws.toArray nn), (f, listOf fs.toArray k9)])
    (fun (f, fs, k9) => [(Str.ofString "base", .int b t1), (Str.ofString "w", .int W t2), (Str.ofString "mul", .ref 184), (Str.ofString "found", .ref f)])
    (fun i (f, fs, k9) => @Ne Nat l f ∧ IntsAre fs (limZ (2 ^ W.toNat) (valB b (ds.take i)))) (_, [], _) rfl (fun _ => List.Mem.head _) hws F1 N1 ?zl ?zf ?zp ?turn ?done
  case zf => kst_all
  case zl => walk_at "mine sub"
  case zp => exact ⟨by omega, by (try dsimp only); rw [List.take_zero, show valB b [] = 0 from rfl, limZ_neg (show ¬ (0 : Int) < 0 by decide)]; exact .nil⟩
  case turn =>
    rintro i k t ⟨f, fs, k9⟩ u2 h2 tk2 I oi hk hi ⟨hlf, hI⟩ hne F2 N2
    (try dsimp only at F2)
    (try dsimp only at N2)
    (try dsimp only at hI)
    (try dsimp only at hlf)
    (try dsimp only)
    clear F1 N1
    simp only [Ne1, and_true] at hne
    obtain ⟨hk0, hk1⟩ := hds k (List.mem_of_getElem? hk)
    have hs := val_succ (b := b) hk
    obtain ⟨v0, v1⟩ := val_take (b := b) (by omega) hds0 i
    obtain ⟨v2, v3⟩ := val_take (b := b) (by omega) hds0 (i + 1)
    rw [hs] at v2 v3
    have hm0 : 0 ≤ valB b (ds.take i) * b := Int.mul_nonneg v0 (by omega)
    have hl1 : LtP (valB b (ds.take i)) 1000 := (hv.le v1).up (by omega)
    have hl2 : LtP (valB b (ds.take i) * b) 900 := hv.le (by omega)
    ((repeat' (((fail_if_success (with_reducible show wpAny _ _ (exec (PySem.Stmt.While _ _ _ _) _) _ _ _)); (fail_if_success (with_reducible show wpAny _ _ (pyIter _) _ _ _)); (fail_if_success (with_reducible show wpAny _ _ (eval (PySem.Expr.ListComp _ _ _ _) _) _ _ _)); (fail_if_success (with_reducible show LCg.CompSrc _ _ _ _ _ _ _ _ _ _ _ _ _ _)); (fail_if_success (with_reducible show wpAny _ _ (call (Value.ref _) _ _) _ _ _)); (first | ((with_reducible show wpAny _ _ (exec (PySem.Stmt.For _ _ _ _ _) _) _ _ _); (rename Fr _ _ _ _ => zF'); (with_unfolding_all refine' For_invVF zF' ?zk1 ?zk2 ?_; (case zk1 => exact rfl); (case zk2 => exact rfl); k_whole)) | (k_unfold; (try dsimp only)) | (k_end; wrow_close) | walk1 | (dsimp only; walk1) | (leave1; walk_say "STEP leave1"; try dsimp only) | (dsimp only; k_unfold; (try dsimp only)) | fail "no step")))); (all_goals (try (rename Fr _ _ _ _ => zF'; dsimp only at zF'))); (all_goals (try dsimp only)))
    k_dflt (refine' use_L (times_base_walk hW hW2 v0 hl1 (hl2.up (by omega)) hb hb2 hI) ?zB ?zF ?zX ?zN ?zT ?zk ?zs ?zd ?zu ?_)
    ((case zB => k_asm); (case zF => k_asm); (case zX => k_asm); (case zN => k_asm); (case zT => k_asm); (case zk => first | exact rfl | assumption); (case zs => walk_at "mine sub"); (case zd => first | ((try dsimp only); exact room1 (by assumption) (by first | decide | exact Nat.le_refl _ | exact Nat.le_trans (by decide) (Nat.le_add_right _ _) | omega)) | (dsimp only; omega) | (simp only [depth_deeper]; omega)); (case zu => first | ((try dsimp only); exact room3 (by assumption) (by first | decide | exact Nat.le_refl _ | exact Nat.le_trans (by decide) (Nat.le_add_right _ _) | omega)) | (dsimp only; omega) | (simp only [units_deeper]; omega)))
    intro b5 vs5 n5 h5 tk5 F5 N5 ne5 I5
    simp only [Ne1, and_true] at ne5
    ((repeat' (((fail_if_success (with_reducible show wpAny _ _ (exec (PySem.Stmt.While _ _ _ _) _) _ _ _)); (fail_if_success (with_reducible show wpAny _ _ (pyIter _) _ _ _)); (fail_if_success (with_reducible show wpAny _ _ (eval (PySem.Expr.ListComp _ _ _ _) _) _ _ _)); (fail_if_success (with_reducible show LCg.CompSrc _ _ _ _ _ _ _ _ _ _ _ _ _ _)); (fail_if_success (with_reducible show wpAny _ _ (call (Value.ref _) _ _) _ _ _)); (first | ((with_reducible show wpAny _ _ (exec (PySem.Stmt.For _ _ _ _ _) _) _ _ _); (rename Fr _ _ _ _ => zF'); (with_unfolding_all refine' For_invVF zF' ?zk1 ?zk2 ?_; (case zk1 => exact rfl); (case zk2 => exact rfl); k_whole)) | (k_unfold; (try dsimp only)) | (k_end; wrow_close) | walk1 | (dsimp only; walk1) | (leave1; walk_say "STEP leave1"; try dsimp only) | (dsimp only; k_unfold; (try dsimp only)) | fail "no step")))); (all_goals (try (rename Fr _ _ _ _ => zF'; dsimp only at zF'))); (all_goals (try dsimp only)))
    k_dflt (refine' use_L (nat_of_walk hW hW2 hk0 (LtP.small (by omega))) ?zB ?zF ?zX ?zN ?zT ?zk ?zs ?zd ?zu ?_)
    ((case zB => k_asm); (case zF => k_asm); (case zX => k_asm); (case zN => k_asm); (case zT => k_asm); (case zk => first | exact rfl | assumption); (case zs => walk_at "mine sub"); (case zd => first | ((try dsimp only); exact room1 (by assumption) (by first | decide | exact Nat.le_refl _ | exact Nat.le_trans (by decide) (Nat.le_add_right _ _) | omega)) | (dsimp only; omega) | (simp only [depth_deeper]; omega)); (case zu => first | ((try dsimp only); exact room3 (by assumption) (by first | decide | exact Nat.le_refl _ | exact Nat.le_trans (by decide) (Nat.le_add_right _ _) | omega)) | (dsimp only; omega) | (simp only [units_deeper]; omega)))
    intro b6 vs6 n6 h6 tk6 F6 N6 ne6 I6
    simp only [Ne1, and_true] at ne6
    ((repeat' (((fail_if_success (with_reducible show wpAny _ _ (exec (PySem.Stmt.While _ _ _ _) _) _ _ _)); (fail_if_success (with_reducible show wpAny _ _ (pyIter _) _ _ _)); (fail_if_success (with_reducible show wpAny _ _ (eval (PySem.Expr.ListComp _ _ _ _) _) _ _ _)); (fail_if_success (with_reducible show LCg.CompSrc _ _ _ _ _ _ _ _ _ _ _ _ _ _)); (fail_if_success (with_reducible show wpAny _ _ (call (Value.ref _) _ _) _ _ _)); (first | ((with_reducible show wpAny _ _ (exec (PySem.Stmt.For _ _ _ _ _) _) _ _ _); (rename Fr _ _ _ _ => zF'); (with_unfolding_all refine' For_invVF zF' ?zk1 ?zk2 ?_; (case zk1 => exact rfl); (case zk2 => exact rfl); k_whole)) | (k_unfold; (try dsimp only)) | (k_end; wrow_close) | walk1 | (dsimp only; walk1) | (leave1; walk_say "STEP leave1"; try dsimp only) | (dsimp only; k_unfold; (try dsimp only)) | fail "no step")))); (all_goals (try (rename Fr _ _ _ _ => zF'; dsimp only at zF'))); (all_goals (try dsimp only)))
    k_dflt (refine' use_L (add_walk hW hW2 hm0 hk0 hl2 (LtP.up (k := 16) (show k < 2 ^ 16 by omega) (by omega)) I5 I6) ?zB ?zF ?zX ?zN ?zT ?zk ?zs ?zd ?zu ?_)
    ((case zB => k_asm); (case zF => k_asm); (case zX => k_asm); (case zN => k_asm); (case zT => k_asm); (case zk => first | exact rfl | assumption); (case zs => walk_at "mine sub"); (case zd => first | ((try dsimp only); exact room1 (by assumption) (by first | decide | exact Nat.le_refl _ | exact Nat.le_trans (by decide) (Nat.le_add_right _ _) | omega)) | (dsimp only; omega) | (simp only [depth_deeper]; omega)); (case zu => first | ((try dsimp only); exact room3 (by assumption) (by first | decide | exact Nat.le_refl _ | exact Nat.le_trans (by decide) (Nat.le_add_right _ _) | omega)) | (dsimp only; omega) | (simp only [units_deeper]; omega)))
    intro b7 vs7 n7 h7 tk7 F7 N7 ne7 I7
    simp only [Ne1, and_true] at ne7
    ((repeat' (((fail_if_success (with_reducible show wpAny _ _ (exec (PySem.Stmt.While _ _ _ _) _) _ _ _)); (fail_if_success (with_reducible show wpAny _ _ (pyIter _) _ _ _)); (fail_if_success (with_reducible show wpAny _ _ (eval (PySem.Expr.ListComp _ _ _ _) _) _ _ _)); (fail_if_success (with_reducible show LCg.CompSrc _ _ _ _ _ _ _ _ _ _ _ _ _ _)); (fail_if_success (with_reducible show wpAny _ _ (call (Value.ref _) _ _) _ _ _)); (first | ((with_reducible show wpAny _ _ (exec (PySem.Stmt.For _ _ _ _ _) _) _ _ _); (rename Fr _ _ _ _ => zF'); (with_unfolding_all refine' For_invVF zF' ?zk1 ?zk2 ?_; (case zk1 => exact rfl); (case zk2 => exact rfl); k_whole)) | (k_unfold; (try dsimp only)) | (k_end; wrow_close) | walk1 | (dsimp only; walk1) | (leave1; walk_say "STEP leave1"; try dsimp only) | (dsimp only; k_unfold; (try dsimp only)) | fail "no step")))); (all_goals (try (rename Fr _ _ _ _ => zF'; dsimp only at zF'))); (all_goals (try dsimp only)))
    obtain ⟨hq1, hq2, hq3, hq4, hq5⟩ := ne7
    obtain ⟨hr1, hr2⟩ := hne
    rename Fr _ _ _ _ => F3
    rename News _ _ _ _ => N3
    (try simp only [List.push_toArray] at N3)
    k_dflt (refine' fo_end (_, _, _) F3 N3 ?zl ?zi ?zn ?zf ?zp)
    case zf => kst_all
    case zl => walk_at "mine sub"
    case zi => k_mem
    case zn => (first | exact ne1_all (by assumption) | (dsimp only; k_all))
    case zp => exact ⟨hq4, by (try dsimp only); rw [hs]; exact I7⟩
  case done =>
    rintro ⟨f, fs, k9⟩ u2 h2 tk2 ⟨hlf, hI⟩ F2 N2
    (try dsimp only at F2)
    (try dsimp only at N2)
    (try dsimp only at hI)
    (try dsimp only at hlf)
    (try dsimp only)
    clear F1 N1
    rw [List.take_length] at hI
    ((repeat' (((fail_if_success (with_reducible show wpAny _ _ (exec (PySem.Stmt.While _ _ _ _) _) _ _ _)); (fail_if_success (with_reducible show wpAny _ _ (pyIter _) _ _ _)); (fail_if_success (with_reducible show wpAny _ _ (eval (PySem.Expr.ListComp _ _ _ _) _) _ _ _)); (fail_if_success (with_reducible show LCg.CompSrc _ _ _ _ _ _ _ _ _ _ _ _ _ _)); (fail_if_success (with_reducible show wpAny _ _ (call (Value.ref _) _ _) _ _ _)); (first | ((with_reducible show wpAny _ _ (exec (PySem.Stmt.For _ _ _ _ _) _) _ _ _); (rename Fr _ _ _ _ => zF'); (with_unfolding_all refine' For_invVF zF' ?zk1 ?zk2 ?_; (case zk1 => exact rfl); (case zk2 => exact rfl); k_whole)) | (k_unfold; (try dsimp only)) | (k_end; wrow_close) | walk1 | (dsimp only; walk1) | (leave1; walk_say "STEP leave1"; try dsimp only) | (dsimp only; k_unfold; (try dsimp only)) | fail "no step")))); (all_goals (try (rename Fr _ _ _ _ => zF'; dsimp only at zF'))); (all_goals (try dsimp only)))
    k_dflt (refine' endM_of (tl := [(_, _)]) (by k_asm) (by k_asm) ?ze1 ?ze2 ?ze3 ⟨_, _, _, rfl, rfl, hI⟩)
    case ze1 => walk_at "mine sub"
    case ze2 => walk_at "mine sub"
    case ze3 => walk_at "mine ne"


end
section
example : True := by
  w_top off
  trivial
/-- rows on the ledger: lists of ints -/
inductive Rows : List (Addr × Obj) → List (List Int) → Prop
  | nil : Rows [] []
  | cons {a : Addr} {vs : List Value} {n : Nat} {xs : List Int} {ps : List (Addr × Obj)} {xss : List (List Int)} : IntsAre vs xs → Rows ps xss → Rows ((a, listOf vs.toArray n) :: ps) (xs :: xss)
theorem Rows.snoc {a : Addr} {vs : List Value} {n : Nat} {xs : List Int} (h : IntsAre vs xs) : ∀ {ps : List (Addr × Obj)} {xss : List (List Int)}, Rows ps xss → Rows (ps ++ [(a, listOf vs.toArray n)]) (xss ++ [xs])
  | _, _, .nil => .cons h .nil
  | _, _, .cons g r => .cons g (Rows.snoc h r)
theorem Rows.length : ∀ {ps : List (Addr × Obj)} {xss : List (List Int)}, Rows ps xss → ps.length = xss.length
  | _, _, .nil => rfl
  | _, _, .cons _ r => by rw [List.length_cons, List.length_cons, Rows.length r]
noncomputable abbrev refsOf (ps : List (Addr × Obj)) : List Value := ps.map fun p => Value.ref p.1
noncomputable def OutRows (xss : List (List Int)) (tl : List (Addr × Obj)) (v : Value) : Prop := ∃ f ps n, tl = (f, listOf (refsOf ps).toArray n) :: ps ∧ v = .ref f ∧ Rows ps xss ∧ (∀ p ∈ ps, p.1 ≠ f)
/-- the powers with exponents 1, 2, 4 .. -/
noncomputable def pws (B b : Int) (k : Nat) : List (List Int) := (List.range k).map fun j => limZ B (b ^ (2 ^ j))
theorem pws_succ (B b : Int) (k : Nat) : pws B b (k + 1) = pws B b k ++ [limZ B (b ^ (2 ^ k))] := by
  unfold pws; rw [List.range_succ, List.map_append]; rfl
theorem pw_sq (b : Int) (k : Nat) : b ^ (2 ^ k) * b ^ (2 ^ k) = b ^ (2 ^ (k + 1)) := by
  rw [← Int.pow_add, Nat.pow_succ]; congr 1; omega

theorem pw_lt {b n : Int} {c k : Nat} (hb : 2 ≤ b) (hb2 : b ≤ 20) (hn : 0 ≤ n) (hn2 : LtP n 100) (hc1 : ∀ j, j < c → b ^ (2 ^ j) ≤ n) (hk : k ≤ c) : 2 ≤ b ^ (2 ^ k) ∧ LtP (b ^ (2 ^ k)) 200 := by
  have h2 : ∀ j : Nat, 2 ≤ b ^ (2 ^ j) := by
    intro j
    induction j with
    | zero => rw [Nat.pow_zero, Int.pow_succ, Int.pow_zero, Int.one_mul]; exact hb
    | succ j ih =>
      rw [← pw_sq]
      have := Int.mul_le_mul ih ih (by omega) (by omega)
      omega
  refine ⟨h2 k, ?_⟩
  cases k with
  | zero => rw [Nat.pow_zero, Int.pow_succ, Int.pow_zero, Int.one_mul]; exact LtP.up (k := 16) (show b < 2 ^ 16 by omega) (by omega)
  | succ j =>
    rw [← pw_sq]
    have hle := hc1 j (by omega)
    have := h2 j
    exact (LtP.mul hn hn hn2 hn2).le (Int.mul_le_mul hle hle (by omega) hn)

theorem base_powers_walk {w : World} {mean : ExcName → Option Value} {mg mb : Str → Option Value} {W n b : Int} {t1 t2 : Tok} {l : Addr} {ws : List Value} {nn c : Nat} (hW : 1 ≤ W) (hW2 : W ≤ 8) (hn : 0 ≤ n) (hn2 : LtP n 100) (hb : 2 ≤ b) (hb2 : b ≤ 20) (hc1 : ∀ j, j < c → b ^ (2 ^ j) ≤ n) (hc2 : n < b ^ (2 ^ c)) (hc : c ≤ 1000) (hws : IntsAre ws (limZ (2 ^ W.toNat) n)) :
    Does w mean mg mb 121 3 60 [.ref l, .int b t1, .int W t2, .ref 184] [(l, listOf ws.toArray nn)] (OutRows (pws (2 ^ W.toNat) b c)) := by
  unfold Does
  k_fill
  intro dp u gd cn cs L a ccd cl outer A₀ base h₀ m s Q E B F X N T hk hd hu ret
  k_dflt (refine' enterM (binds := [(Str.ofString "a", .ref l), (Str.ofString "base", .int b t1), (Str.ofString "w", .int W t2), (Str.ofString "mul", .ref 184)]) ?k1 ?k2 ?k3 ?k4 ?k5 ?kA ?kF ?kK ?k6 ?k7 ?k8 ?k9 ?kB ?kR ?_ ?c2 ?c3 ?c4 ?c5; ((case kA => exact rfl); (case kF => exact rfl); (case kK => assumption); (case k1 => k_asm); (case k2 => k_asm); (case k3 => k_asm); (case k4 => k_asm); (case k5 => k_asm); (case kR => assumption); (case k6 => k_is); (case k7 => k_is); (case k8 => ((dsimp only); omega)); (case k9 => exact BindsTo.of_eq rfl); (case c5 => decide); (case kB => exact locs rfl); (case c2 => exact rfl); (case c3 => exact rfl); (case c4 => exact rfl); k_whole; intro g' L' h' F' N' B' X' T'; (try dsimp only); (try k_fold)))
  have hB := pow2_gt hW
  have hB2 := pow2_le hW hW2
  have hbl : LtP b 1000 := LtP.small (by omega)
  ((repeat' (((fail_if_success (with_reducible show wpAny _ _ (exec (PySem.Stmt.While _ _ _ _) _) _ _ _)); (fail_if_success (with_reducible show wpAny _ _ (pyIter _) _ _ _)); (fail_if_success (with_reducible show wpAny _ _ (eval (PySem.Expr.ListComp _ _ _ _) _) _ _ _)); (fail_if_success (with_reducible show LCg.CompSrc _ _ _ _ _ _ _ _ _ _ _ _ _ _)); (fail_if_success (with_reducible show wpAny _ _ (call (Value.ref _) _ _) _ _ _)); (first | ((with_reducible show wpAny _ _ (exec (PySem.Stmt.For _ _ _ _ _) _) _ _ _); (rename Fr _ _ _ _ => zF'); (with_unfolding_all refine' For_invVF zF' ?zk1 ?zk2 ?_; (case zk1 => exact rfl); (case zk2 => exact rfl); k_whole)) | (k_unfold; (try dsimp only)) | (k_end; wrow_close) | walk1 | (dsimp only; walk1) | (leave1; walk_say "STEP leave1"; try dsimp only) | (dsimp only; k_unfold; (try dsimp only)) | fail "no step")))); (all_goals (try (rename Fr _ _ _ _ => zF'; dsimp only at zF'))); (all_goals (try dsimp only)))
  k_dflt (refine' use_L (nat_of_walk hW hW2 (by omega) hbl) ?zB ?zF ?zX ?zN ?zT ?zk ?zs ?zd ?zu ?_)
  ((case zB => k_asm); (case zF => k_asm); (case zX => k_asm); (case zN => k_asm); (case zT => k_asm); (case zk => first | exact rfl | assumption); (case zs => walk_at "mine sub"); (case zd => first | ((try dsimp only); exact room1 (by assumption) (by first | decide | exact Nat.le_refl _ | exact Nat.le_trans (by decide) (Nat.le_add_right _ _) | omega)) | (dsimp only; omega) | (simp only [depth_deeper]; omega)); (case zu => first | ((try dsimp only); exact room3 (by assumption) (by first | decide | exact Nat.le_refl _ | exact Nat.le_trans (by decide) (Nat.le_add_right _ _) | omega)) | (dsimp only; omega) | (simp only [units_deeper]; omega)))
  intro b5 vs5 n5 h5 tk5 F5 N5 ne5 I5
  simp only [Ne1, and_true] at ne5
  ((repeat' (((fail_if_success (with_reducible show wpAny _ _ (exec (PySem.Stmt.While _ _ _ _) _) _ _ _)); (fail_if_success (with_reducible show wpAny _ _ (pyIter _) _ _ _)); (fail_if_success (with_reducible show wpAny _ _ (eval (PySem.Expr.ListComp _ _ _ _) _) _ _ _)); (fail_if_success (with_reducible show LCg.CompSrc _ _ _ _ _ _ _ _ _ _ _ _ _ _)); (fail_if_success (with_reducible show wpAny _ _ (call (Value.ref _) _ _) _ _ _)); (first | ((with_reducible show wpAny _ _ (exec (PySem.Stmt.For _ _ _ _ _) _) _ _ _); (rename Fr _ _ _ _ => zF'); (with_unfolding_all refine' For_invVF zF' ?zk1 ?zk2 ?_; (case zk1 => exact rfl); (case zk2 => exact rfl); k_whole)) | (k_unfold; (try dsimp only)) | (k_end; wrow_close) | walk1 | (dsimp only; walk1) | (leave1; walk_say "STEP leave1"; try dsimp only) | (dsimp only; k_unfold; (try dsimp only)) | fail "no step")))); (all_goals (try (rename Fr _ _ _ _ => zF'; dsimp only at zF'))); (all_goals (try dsimp only)))
  rename Fr _ _ _ _ => F1
  rename News _ _ _ _ => N1
  rename IntsAre vs5 _ => I5
  refine' while_M (σ := Nat × Addr × List Value × Nat × Addr × List (Addr × Obj) × Nat) (fun (k, p, vs, kk, f, ps, k9) => (f, listOf (refsOf ps).toArray k9) :: (p, listOf vs.toArray kk) :: (l, listOf ws.toArray nn) :: ps)
    (fun (k, p, vs, kk, f, ps, k9) => [(Str.ofString "a", .ref l), (Str.ofString "base", .int b t1), (Str.ofString "w", .int W t2), (Str.ofString "mul", .ref 184), (Str.ofString "power", .ref p), (Str.ofString "found", .ref f)])
    (fun (k, p, vs, kk, f, ps, k9) => @Ne Nat p f ∧ @Ne Nat l f ∧ @Ne Nat p l ∧ (∀ q ∈ ps, q.1 ≠ f) ∧ (∀ q ∈ ps, q.1 ≠ l) ∧ k ≤ c ∧ Rows ps (pws (2 ^ W.toNat) b k) ∧ IntsAre vs (limZ (2 ^ W.toNat) (b ^ (2 ^ k)))) (fun (k, p, vs, kk, f, ps, k9) => c - k) (0, _, _, _, _, [], _) F1 N1 ?zl ?zf ?zp ?turn (by passes_own)
  case zf => kst_all
  case zl => walk_at "mine sub"
  case zp => exact ⟨by (try dsimp only); omega, by (try dsimp only); omega, by (try dsimp only); omega, List.forall_mem_nil _, List.forall_mem_nil _, Nat.zero_le _, .nil, by (try dsimp only); rw [Nat.pow_zero, Int.pow_succ, Int.pow_zero, Int.one_mul]; exact I5⟩
  case turn =>
    rintro ⟨k, p, vs, kk, f, ps, k9⟩ u2 h2 tk2 ⟨hpf, hlf, hpl9, hpsf, hpsl, hk, hR, hI⟩ F2 N2
    (try dsimp only at F2)
    (try dsimp only at N2)
    (try dsimp only at hpf)
    (try dsimp only at hlf)
    (try dsimp only at hpl9)
    (try dsimp only at hpsf)
    (try dsimp only at hpsl)
    (try dsimp only at hk)
    (try dsimp only at hR)
    (try dsimp only at hI)
    (try dsimp only)
    clear F1 N1 I5
    obtain ⟨hp0, hpl⟩ := pw_lt hb hb2 hn hn2 hc1 hk
    have hpl2 : LtP (b ^ (2 ^ k)) 1000 := hpl.up (by omega)
    have hpn := hc1 k
    have hrl := hR.length
    have hpl3 : (pws (2 ^ W.toNat) b k).length = k := by unfold pws; rw [List.length_map, List.length_range]
    have hsz : (refsOf ps).toArray.size ≤ sizeLine := by rw [List.size_toArray, List.length_map, sizeLine_eq]; omega
    have hrf : refsOf (ps ++ [(p, listOf vs.toArray kk)]) = refsOf ps ++ [.ref p] := by simp
    ((repeat' (((fail_if_success (with_reducible show wpAny _ _ (exec (PySem.Stmt.While _ _ _ _) _) _ _ _)); (fail_if_success (with_reducible show wpAny _ _ (pyIter _) _ _ _)); (fail_if_success (with_reducible show wpAny _ _ (eval (PySem.Expr.ListComp _ _ _ _) _) _ _ _)); (fail_if_success (with_reducible show LCg.CompSrc _ _ _ _ _ _ _ _ _ _ _ _ _ _)); (fail_if_success (with_reducible show wpAny _ _ (call (Value.ref _) _ _) _ _ _)); (first | ((with_reducible show wpAny _ _ (exec (PySem.Stmt.For _ _ _ _ _) _) _ _ _); (rename Fr _ _ _ _ => zF'); (with_unfolding_all refine' For_invVF zF' ?zk1 ?zk2 ?_; (case zk1 => exact rfl); (case zk2 => exact rfl); k_whole)) | (k_unfold; (try dsimp only)) | (k_end; wrow_close) | walk1 | (dsimp only; walk1) | (leave1; walk_say "STEP leave1"; try dsimp only) | (dsimp only; k_unfold; (try dsimp only)) | fail "no step")))); (all_goals (try (rename Fr _ _ _ _ => zF'; dsimp only at zF'))); (all_goals (try dsimp only)))
    k_dflt (refine' use_I (compare_walk hB (by omega) hn hpl2 (hn2.up (by omega)) hI hws) ?zB ?zF ?zX ?zN ?zT ?zk ?zs ?zd ?zu ?_)
    ((case zB => k_asm); (case zF => k_asm); (case zX => k_asm); (case zN => k_asm); (case zT => k_asm); (case zk => first | exact rfl | assumption); (case zs => walk_at "mine sub"); (case zd => first | ((try dsimp only); exact room1 (by assumption) (by first | decide | exact Nat.le_refl _ | exact Nat.le_trans (by decide) (Nat.le_add_right _ _) | omega)) | (dsimp only; omega) | (simp only [depth_deeper]; omega)); (case zu => first | ((try dsimp only); exact room3 (by assumption) (by first | decide | exact Nat.le_refl _ | exact Nat.le_trans (by decide) (Nat.le_add_right _ _) | omega)) | (dsimp only; omega) | (simp only [units_deeper]; omega)))
    intro t6 h6 tk6 F6 N6
    ((repeat' (((fail_if_success (with_reducible show wpAny _ _ (exec (PySem.Stmt.While _ _ _ _) _) _ _ _)); (fail_if_success (with_reducible show wpAny _ _ (pyIter _) _ _ _)); (fail_if_success (with_reducible show wpAny _ _ (eval (PySem.Expr.ListComp _ _ _ _) _) _ _ _)); (fail_if_success (with_reducible show LCg.CompSrc _ _ _ _ _ _ _ _ _ _ _ _ _ _)); (fail_if_success (with_reducible show wpAny _ _ (call (Value.ref _) _ _) _ _ _)); (first | ((with_reducible show wpAny _ _ (exec (PySem.Stmt.For _ _ _ _ _) _) _ _ _); (rename Fr _ _ _ _ => zF'); (with_unfolding_all refine' For_invVF zF' ?zk1 ?zk2 ?_; (case zk1 => exact rfl); (case zk2 => exact rfl); k_whole)) | (k_unfold; (try dsimp only)) | (k_end; wrow_close) | walk1 | (dsimp only; walk1) | (leave1; walk_say "STEP leave1"; try dsimp only) | (dsimp only; k_unfold; (try dsimp only)) | fail "no step")))); (all_goals (try (rename Fr _ _ _ _ => zF'; dsimp only at zF'))); (all_goals (try dsimp only)))
    · have hle : b ^ (2 ^ k) ≤ n := by
        have h1 : (if b ^ (2 ^ k) < n then (-1 : Int) else if b ^ (2 ^ k) = n then 0 else 1) ≤ 0 := by assumption
        split at h1
        · omega
        · split at h1 <;> omega
      have hkc : k < c := by
        rcases Nat.lt_or_ge k c with h1 | h1
        · exact h1
        · have : k = c := by omega
          subst this; omega
      have hmn : b ^ (2 ^ k) * b ^ (2 ^ k) ≤ n * n := Int.mul_le_mul hle hle (by omega) hn
      have hml : LtP (b ^ (2 ^ k) * b ^ (2 ^ k)) 1000 := ((LtP.mul hn hn hn2 hn2).le hmn).up (by omega)
      k_dflt (refine' use_L (times_walk hW hW2 (by omega) hpl2 (by omega) hpl2 hml hI hI) ?zB ?zF ?zX ?zN ?zT ?zk ?zs ?zd ?zu ?_)
      ((case zB => k_asm); (case zF => k_asm); (case zX => k_asm); (case zN => k_asm); (case zT => k_asm); (case zk => first | exact rfl | assumption); (case zs => walk_at "mine sub"); (case zd => first | ((try dsimp only); exact room1 (by assumption) (by first | decide | exact Nat.le_refl _ | exact Nat.le_trans (by decide) (Nat.le_add_right _ _) | omega)) | (dsimp only; omega) | (simp only [depth_deeper]; omega)); (case zu => first | ((try dsimp only); exact room3 (by assumption) (by first | decide | exact Nat.le_refl _ | exact Nat.le_trans (by decide) (Nat.le_add_right _ _) | omega)) | (dsimp only; omega) | (simp only [units_deeper]; omega)))
      intro b7 vs7 n7 h7 tk7 F7 N7 ne7 I7
      simp only [Ne1, and_true] at ne7
      obtain ⟨q1, q2, q3, q4⟩ := ne7
      ((repeat' (((fail_if_success (with_reducible show wpAny _ _ (exec (PySem.Stmt.While _ _ _ _) _) _ _ _)); (fail_if_success (with_reducible show wpAny _ _ (pyIter _) _ _ _)); (fail_if_success (with_reducible show wpAny _ _ (eval (PySem.Expr.ListComp _ _ _ _) _) _ _ _)); (fail_if_success (with_reducible show LCg.CompSrc _ _ _ _ _ _ _ _ _ _ _ _ _ _)); (fail_if_success (with_reducible show wpAny _ _ (call (Value.ref _) _ _) _ _ _)); (first | ((with_reducible show wpAny _ _ (exec (PySem.Stmt.For _ _ _ _ _) _) _ _ _); (rename Fr _ _ _ _ => zF'); (with_unfolding_all refine' For_invVF zF' ?zk1 ?zk2 ?_; (case zk1 => exact rfl); (case zk2 => exact rfl); k_whole)) | (k_unfold; (try dsimp only)) | (k_end; wrow_close) | walk1 | (dsimp only; walk1) | (leave1; walk_say "STEP leave1"; try dsimp only) | (dsimp only; k_unfold; (try dsimp only)) | fail "no step")))); (all_goals (try (rename Fr _ _ _ _ => zF'; dsimp only at zF'))); (all_goals (try dsimp only)))
      rename Fr _ _ _ _ => F3
      rename News _ _ _ _ => N3
      simp only [List.push_toArray] at N3
      k_dflt (refine' wh_end (k + 1, _, _, _, _, ps ++ [(p, listOf vs.toArray kk)], _) F3 N3 ?zl ?zf ?zp ?zm)
      case zf => kst_all
      case zl =>
        (try dsimp only)
        rw [hrf]
        refine List.forall_mem_cons.mpr ⟨?za, List.forall_mem_cons.mpr ⟨?zb, List.forall_mem_cons.mpr ⟨?zc, ?zd⟩⟩⟩
        case za => k_mem
        case zb => k_mem
        case zc => k_mem
        case zd =>
          intro q hq
          rcases List.mem_append.mp hq with hq | hq
          · exact .tail _ (.tail _ (.tail _ (.tail _ hq)))
          · rw [List.mem_singleton.mp hq]; exact .tail _ (.tail _ (.head _))
      case zp =>
        refine ⟨by (try dsimp only); omega, by (try dsimp only); omega, by (try dsimp only); omega, ?_, ?_, by (try dsimp only); omega, ?_, ?_⟩
        · intro q hq
          rcases List.mem_append.mp hq with hq | hq
          · exact hpsf q hq
          · rw [List.mem_singleton.mp hq]; exact hpf
        · intro q hq
          rcases List.mem_append.mp hq with hq | hq
          · exact hpsl q hq
          · rw [List.mem_singleton.mp hq]; exact hpl9
        · rw [pws_succ]; exact Rows.snoc hI hR
        · (try dsimp only); rw [← pw_sq]; exact I7
      case zm => (try dsimp only); omega
    · have hgt : n < b ^ (2 ^ k) := by
        have h1 : ¬ (if b ^ (2 ^ k) < n then (-1 : Int) else if b ^ (2 ^ k) = n then 0 else 1) ≤ 0 := by assumption
        split at h1
        · omega
        · split at h1 <;> omega
      have hkc : k = c := by
        rcases Nat.lt_or_ge k c with h1 | h1
        · have := hpn h1; omega
        · omega
      subst hkc
      rename News _ _ _ _ => N3
      k_dflt (refine' endM_of (tl := (f, listOf (refsOf ps).toArray k9) :: ps) (by k_asm) N3 ?ze1 ?ze2 ?ze3 ⟨f, ps, k9, rfl, rfl, hR, hpsf⟩)
      case ze1 => walk_at "mine sub"
      case ze2 => exact List.forall_mem_cons.mpr ⟨.head _, fun q hq => .tail _ (.tail _ (.tail _ hq))⟩
      case ze3 =>
        refine List.forall_mem_cons.mpr ⟨?_, fun q hq => ?_⟩
        · intro p9 h9; rw [List.mem_singleton.mp h9]; exact hlf
        · intro p9 h9; rw [List.mem_singleton.mp h9]; exact (hpsl q hq).symm


end
section
example : True := by
  w_top off
  trivial
theorem Rows.unsnoc {xs : List Int} : ∀ {xss : List (List Int)} {ps : List (Addr × Obj)}, Rows ps (xss ++ [xs]) → ∃ qs a vs n, ps = qs ++ [(a, listOf vs.toArray n)] ∧ Rows qs xss ∧ IntsAre vs xs
  | [], _, h => by
    cases h with
    | cons hi hr =>
      cases hr
      exact ⟨[], _, _, _, rfl, .nil, hi⟩
  | y :: r, _, h => by
    cases h with
    | cons hi hr =>
      obtain ⟨qs, a, vs, n, rfl, h1, h2⟩ := Rows.unsnoc hr
      exact ⟨_ :: qs, a, vs, n, rfl, .cons hi h1, h2⟩

section
variable {prog : Program} {w : World} {A : Around} {E : Value → Shared → Prop} {s : Shared} {h₀ : Heap} {L : Addr} {m : Str → Option Value} {news : List (Addr × Obj)} {Q : Value → Shared → Prop}
theorem len_R {pl : Addr} {vs : List Value} {n k : Nat} (N : News h₀ L s.heap news) (hm : (pl, listOf vs.toArray n) ∈ news) (hk : vs.length = k) (hk2 : k < 1000000)
    (h : Q (.int (k : Int) (s.toks + 1)) { s with toks := s.toks + 1 + 1 }) : wpAny (model prog w) A (call (.builtin "len") [.ref pl]) Q E s := by
  refine len_list (items := vs.toArray) ⟨_, (N _ hm).1, rfl, n, rfl⟩ ?_ ?_
  · rw [List.size_toArray, hk]; omega
  · rw [List.size_toArray, hk]; exact h
theorem last_R {pl : Addr} {vs : List Value} {v : Value} {n : Nat} {t : Tok} {value slice : Expr} (N : News h₀ L s.heap news) (hm : (pl, listOf (vs ++ [v]).toArray n) ∈ news) (h : Q v s)
    (hs : subscripted slice false (.ref pl) (.int (-1) t) = operate [.ref pl, .int (-1) t] (getItem (.ref pl) (.int (-1) t))) (hg : ∀ r, letTemporaryGo value (.ref pl) r = pure ()) :
    wpAny (model prog w) A (subscriptTail value slice (.ref pl) (.int (-1) t)) Q E s := by
  have hl : s.heap.IsList pl (vs ++ [v]).toArray := ⟨_, (N _ hm).1, rfl, n, rfl⟩
  refine subscriptTail_builtin hl.typeIs slot_list_getitem.lookup (wpAny_getItem_list_neg hl (by decide) ?_ (by decide) (x := v) ?_ h) hs hg
  · rw [List.size_toArray, List.length_append]; simp only [List.length_cons, List.length_nil]; omega
  · rw [List.size_toArray, List.length_append]
    have e : ((-1 : Int) + ((vs.length + [v].length : Nat) : Int)).toNat = vs.length := by simp only [List.length_cons, List.length_nil]; omega
    rw [e]; simp
theorem pick_init {vs : List Value} {v : Value} : slicePick (vs ++ [v]).toArray none (some (-1)) none = vs.toArray := by
  have h := slicePick_upto (vs ++ [v]).toArray vs.length (by simp)
  have e : slicePick (vs ++ [v]).toArray none (some (-1)) none = slicePick (vs ++ [v]).toArray none (some (vs.length : Int)) none := by
    unfold slicePick
    have e2 : sliceBounds none (some (-1)) none (vs ++ [v]).toArray.size = sliceBounds none (some (vs.length : Int)) none (vs ++ [v]).toArray.size := by
      unfold sliceBounds
      simp only [List.size_toArray, List.length_append, List.length_cons, List.length_nil, Option.getD_none]
      congr 2
      simp only [show ((1 : Int) > 0) from by decide, if_true, show ((-1 : Int) < 0) from by decide, show ¬ ((vs.length : Int) < 0) from by omega, if_false]
      rw [show (-1 : Int) + ((vs.length + (0 + 1) : Nat) : Int) = (vs.length : Int) by omega]
    rw [e2]
  rw [e, h]
  simp
theorem slice_R {pl : Addr} {vs : List Value} {v : Value} {n : Nat} {t : Tok} {value slice : Expr} (F : Fr h₀ L s.heap m) (N : News h₀ L s.heap news) (hm : (pl, listOf (vs ++ [v]).toArray n) ∈ news) (hsz : (vs ++ [v]).length ≤ 100000)
    (h : ∀ la h', Fr h₀ L h' m → News h₀ L h' ((la, listOf vs.toArray 0) :: news) → Ne1 la news → Q (.ref la) { s with heap := h' })
    (hs : subscripted slice false (.ref pl) (.ref s.heap.objs.size) = operate [.ref s.heap.objs.size, .ref pl] (getItem (.ref pl) (.ref s.heap.objs.size)))
    (ht : ∀ r, letTemporaryGo value (.ref pl) r = pure ()) :
    wpAny (model prog w) A (subscriptTail value slice (.ref pl) (.ref s.heap.objs.size)) Q E { s with heap := s.heap.push { cls := .type "slice", data := .fields #[.none, .int (-1) t, .none] } } := by
  refine slice_list (hsz := by rw [List.size_toArray, sizeLine_eq]; omega) F N (items := (vs ++ [v]).toArray) ⟨_, (N _ hm).1, rfl, n, rfl⟩ .none (.int _ _) (fun h' F' N' => ?_) hs ht
  · rw [pick_init] at N'
    exact h _ h' F' N' (ne1_of fun p hp => Nat.ne_of_lt (Nat.lt_of_lt_of_le (Heap.lt_size (N p hp).1) (Nat.le_succ _)))
end
example : True := by
  (k_with "subscriptTail Name Slice ref ref" => (k_dflt (refine' slice_R ?zF ?zN ?zm ?zz ?_ (by with_unfolding_all rfl) (by intro _; with_unfolding_all rfl); (case zF => k_asm); (case zN => k_asm); (case zm => k_mem); (case zz => omega)); intro _ _ _ _ _))
  trivial

theorem dbp_sub {α : Type} {x y z : α} {l : List α} : ∀ p ∈ x :: y :: z :: l, p ∈ x :: y :: (l ++ [z]) := by
  intro p hp
  simp only [List.mem_cons, List.mem_append, List.mem_singleton] at hp ⊢
  rcases hp with h | h | h | h
  · exact .inl h
  · exact .inr (.inl h)
  · exact .inr (.inr (.inr (.inl h)))
  · exact .inr (.inr (.inl h))
theorem dbp_fin {α : Type} {x y z : α} {l : List α} {P : α → Prop} (h : ∀ p ∈ x :: y :: z :: l, P p) : ∀ p ∈ x :: y :: (l ++ [z]), P p := by
  intro p hp
  refine h p ?_
  simp only [List.mem_cons, List.mem_append, List.mem_singleton] at hp ⊢
  rcases hp with h | h | h | h | h
  · exact .inl h
  · exact .inr (.inl h)
  · exact .inr (.inr (.inr h))
  · exact .inr (.inr (.inl h))
  · exact absurd h List.not_mem_nil

theorem dig_split {b : Int} (hb : 1 < b) : ∀ (e : Nat) (n : Int), 0 ≤ n → 0 < n / b ^ e → limZ b n = digL b n e ++ limZ b (n / b ^ e) := by
  intro e
  induction e with
  | zero => intro n _ _; rw [q_zero]; rfl
  | succ e ih =>
    intro n hn h
    rw [q_succ' hb] at h
    have h1 := Int.ediv_nonneg (a := n) (b := b) hn (by omega)
    have hp : 0 < n := by
      rcases Int.lt_or_le 0 n with h9 | h9
      · exact h9
      · have : n = 0 := by omega
        subst this
        rw [Int.zero_ediv, Int.zero_ediv] at h
        omega
    rw [limZ_pos hp hb, ih _ h1 h, digL, q_succ' hb]; rfl
theorem emod_mul_ediv {n b c : Int} (hb : 0 < b) (hc : 0 < c) : n % (b * c) / b = n / b % c := by
  have hbc : 0 < b * c := Int.mul_pos hb hc
  have h1 := Int.mul_ediv_add_emod n (b * c)
  have r0 := Int.emod_nonneg n (b := b * c) (by omega)
  have r1 := Int.emod_lt_of_pos n hbc
  have h2 : n = n % (b * c) + b * (c * (n / (b * c))) := by rw [← Int.mul_assoc]; omega
  have h3 : n / b = n % (b * c) / b + c * (n / (b * c)) := by
    have h5 : (n % (b * c) + b * (c * (n / (b * c)))) / b = n % (b * c) / b + c * (n / (b * c)) := Int.add_mul_ediv_left _ _ (by omega)
    rw [← h2] at h5; exact h5
  have g0 : 0 ≤ n % (b * c) / b := Int.ediv_nonneg r0 (by omega)
  have g1 : n % (b * c) / b < c := Int.ediv_lt_of_lt_mul hb (by rw [Int.mul_comm c b]; exact r1)
  rw [h3, Int.add_mul_emod_self_left, Int.emod_eq_of_lt g0 g1]
theorem dig_mod {b : Int} (hb : 1 < b) : ∀ (e : Nat) (n : Int), digL b n e = digL b (n % b ^ e) e := by
  intro e
  induction e with
  | zero => intro n; rfl
  | succ e ih =>
    intro n
    have hp := pow_posB hb e
    rw [digL, digL, ih (n / b), Int.pow_succ, Int.mul_comm, emod_mul_ediv (by omega) hp, Int.emod_emod_of_dvd _ (Int.dvd_mul_right b (b ^ e))]
theorem dig_pad {b : Int} (hb : 1 < b) : ∀ (e : Nat) (r : Int), 0 ≤ r → r < b ^ e → digL b r e = limZ b r ++ List.replicate (e - (limZ b r).length) 0 := by
  intro e
  induction e with
  | zero => intro r h0 h; rw [Int.pow_zero] at h; rw [limZ_neg (by omega)]; rfl
  | succ e ih =>
    intro r h0 h
    have h1 : r / b < b ^ e := Int.ediv_lt_of_lt_mul (by omega) (by rw [← Int.pow_succ]; exact h)
    have h2 := Int.ediv_nonneg (a := r) (b := b) h0 (by omega)
    rw [digL, ih _ h2 h1]
    by_cases hr : 0 < r
    · rw [limZ_pos hr hb, List.length_cons, Nat.add_sub_add_right]; rfl
    · have : r = 0 := by omega
      subst this
      rw [Int.zero_emod, Int.zero_ediv, limZ_neg (by omega)]
      rfl
theorem dig_whole {b n : Int} (hb : 1 < b) (e : Nat) (hn : 0 ≤ n) (h : b ^ e ≤ n) : (limZ b (n / b ^ e)).reverse ++ (List.replicate (e - (limZ b (n % b ^ e)).length) 0 ++ (limZ b (n % b ^ e)).reverse) = (limZ b n).reverse := by
  have hp := pow_posB hb e
  have hq : 0 < n / b ^ e := by
    have := (Int.le_ediv_iff_mul_le hp (a := 1) (b := n)).mpr (by omega)
    omega
  rw [dig_split hb e n hn hq, dig_mod hb, dig_pad hb e _ (Int.emod_nonneg _ (by omega)) (Int.emod_lt_of_pos _ hp), List.reverse_append, List.reverse_append, List.reverse_replicate]

theorem dbp_walk {w : World} {mean : ExcName → Option Value} {mg mb : Str → Option Value} {W b Ls : Int} {t1 t2 t3 : Tok} (hW : 1 ≤ W) (hW2 : W ≤ 8) (hb : 2 ≤ b) (hb2 : b ≤ 20) : ∀ (k : Nat) {n : Int} {l pl : Addr} {ws : List Value} {nn kk : Nat} {ps : List (Addr × Obj)}, k ≤ 12 → (∀ j, j < k → LtP (b ^ (2 ^ j)) 1000) → 0 ≤ n → LtP n 1000 → IntsAre ws (limZ (2 ^ W.toNat) n) → Rows ps (pws (2 ^ W.toNat) b k) →
    Does w mean mg mb 135 (5 + k) (100 + 20 * k) [.ref l, .ref pl, .int b t1, .int W t2, .int Ls t3, .ref 191] ((l, listOf ws.toArray nn) :: (pl, listOf (refsOf ps).toArray kk) :: ps) (OutL (limZ b n).reverse) := by
  intro k
  induction k with
  | zero =>
    intro n l pl ws nn kk ps hk hpw hn hn2 hws hR
    cases hR
    unfold Does
    k_fill
    intro dp u gd cn cs L a ccd cl outer A₀ base h₀ m s Q E B F X N T hk hd hu ret
    k_dflt (refine' enterM (binds := [(Str.ofString "a", .ref l), (Str.ofString "powers", .ref pl), (Str.ofString "base", .int b t1), (Str.ofString "w", .int W t2), (Str.ofString "least", .int Ls t3), (Str.ofString "divrem", .ref 191)]) ?k1 ?k2 ?k3 ?k4 ?k5 ?kA ?kF ?kK ?k6 ?k7 ?k8 ?k9 ?kB ?kR ?_ ?c2 ?c3 ?c4 ?c5; ((case kA => exact rfl); (case kF => exact rfl); (case kK => assumption); (case k1 => k_asm); (case k2 => k_asm); (case k3 => k_asm); (case k4 => k_asm); (case k5 => k_asm); (case kR => assumption); (case k6 => k_is); (case k7 => k_is); (case k8 => ((dsimp only); omega)); (case k9 => exact BindsTo.of_eq rfl); (case c5 => decide); (case kB => exact locs rfl); (case c2 => exact rfl); (case c3 => exact rfl); (case c4 => exact rfl); k_whole; intro g' L' h' F' N' B' X' T'; (try dsimp only); (try k_fold)))
    have hB := pow2_gt hW
    have hlen := limZ_len hB 1000 hn2
    have hlen2 := limZ_len (B := b) (by omega) 1000 hn2
    ((repeat' (((fail_if_success (with_reducible show wpAny _ _ (exec (PySem.Stmt.While _ _ _ _) _) _ _ _)); (fail_if_success (with_reducible show wpAny _ _ (pyIter _) _ _ _)); (fail_if_success (with_reducible show wpAny _ _ (eval (PySem.Expr.ListComp _ _ _ _) _) _ _ _)); (fail_if_success (with_reducible show LCg.CompSrc _ _ _ _ _ _ _ _ _ _ _ _ _ _)); (fail_if_success (with_reducible show wpAny _ _ (call (Value.ref _) _ _) _ _ _)); (first | ((with_reducible show wpAny _ _ (exec (PySem.Stmt.For _ _ _ _ _) _) _ _ _); (rename Fr _ _ _ _ => zF'); (with_unfolding_all refine' For_invVF zF' ?zk1 ?zk2 ?_; (case zk1 => exact rfl); (case zk2 => exact rfl); k_whole)) | (k_unfold; (try dsimp only)) | (k_end; wrow_close) | walk1 | (dsimp only; walk1) | (leave1; walk_say "STEP leave1"; try dsimp only) | (dsimp only; k_unfold; (try dsimp only)) | fail "no step")))); (all_goals (try (rename Fr _ _ _ _ => zF'; dsimp only at zF'))); (all_goals (try dsimp only)))
    ·
      k_dflt (refine' use_L (digits_plain_walk hW hW2 hn hn2 hb hb2 hws) ?zB ?zF ?zX ?zN ?zT ?zk ?zs ?zd ?zu ?_)
      ((case zB => k_asm); (case zF => k_asm); (case zX => k_asm); (case zN => k_asm); (case zT => k_asm); (case zk => first | exact rfl | assumption); (case zs => walk_at "mine sub"); (case zd => first | ((try dsimp only); exact room1 (by assumption) (by first | decide | exact Nat.le_refl _ | exact Nat.le_trans (by decide) (Nat.le_add_right _ _) | omega)) | (dsimp only; omega) | (simp only [depth_deeper]; omega)); (case zu => first | ((try dsimp only); exact room3 (by assumption) (by first | decide | exact Nat.le_refl _ | exact Nat.le_trans (by decide) (Nat.le_add_right _ _) | omega)) | (dsimp only; omega) | (simp only [units_deeper]; omega)))
      intro b5 vs5 n5 h5 tk5 F5 N5 ne5 I5
      simp only [Ne1, and_true] at ne5
      ((repeat' (((fail_if_success (with_reducible show wpAny _ _ (exec (PySem.Stmt.While _ _ _ _) _) _ _ _)); (fail_if_success (with_reducible show wpAny _ _ (pyIter _) _ _ _)); (fail_if_success (with_reducible show wpAny _ _ (eval (PySem.Expr.ListComp _ _ _ _) _) _ _ _)); (fail_if_success (with_reducible show LCg.CompSrc _ _ _ _ _ _ _ _ _ _ _ _ _ _)); (fail_if_success (with_reducible show wpAny _ _ (call (Value.ref _) _ _) _ _ _)); (first | ((with_reducible show wpAny _ _ (exec (PySem.Stmt.For _ _ _ _ _) _) _ _ _); (rename Fr _ _ _ _ => zF'); (with_unfolding_all refine' For_invVF zF' ?zk1 ?zk2 ?_; (case zk1 => exact rfl); (case zk2 => exact rfl); k_whole)) | (k_unfold; (try dsimp only)) | (k_end; wrow_close) | walk1 | (dsimp only; walk1) | (leave1; walk_say "STEP leave1"; try dsimp only) | (dsimp only; k_unfold; (try dsimp only)) | fail "no step")))); (all_goals (try (rename Fr _ _ _ _ => zF'; dsimp only at zF'))); (all_goals (try dsimp only)))
      k_dflt (refine' endM_of (tl := [(_, _)]) (by k_asm) (by k_asm) ?ze1 ?ze2 ?ze3 ⟨_, _, _, rfl, rfl, I5⟩)
      case ze1 => walk_at "mine sub"
      case ze2 => walk_at "mine sub"
      case ze3 => walk_at "mine ne"
    ·
      k_dflt (refine' use_L (digits_plain_walk hW hW2 hn hn2 hb hb2 hws) ?zB ?zF ?zX ?zN ?zT ?zk ?zs ?zd ?zu ?_)
      ((case zB => k_asm); (case zF => k_asm); (case zX => k_asm); (case zN => k_asm); (case zT => k_asm); (case zk => first | exact rfl | assumption); (case zs => walk_at "mine sub"); (case zd => first | ((try dsimp only); exact room1 (by assumption) (by first | decide | exact Nat.le_refl _ | exact Nat.le_trans (by decide) (Nat.le_add_right _ _) | omega)) | (dsimp only; omega) | (simp only [depth_deeper]; omega)); (case zu => first | ((try dsimp only); exact room3 (by assumption) (by first | decide | exact Nat.le_refl _ | exact Nat.le_trans (by decide) (Nat.le_add_right _ _) | omega)) | (dsimp only; omega) | (simp only [units_deeper]; omega)))
      intro b5 vs5 n5 h5 tk5 F5 N5 ne5 I5
      simp only [Ne1, and_true] at ne5
      ((repeat' (((fail_if_success (with_reducible show wpAny _ _ (exec (PySem.Stmt.While _ _ _ _) _) _ _ _)); (fail_if_success (with_reducible show wpAny _ _ (pyIter _) _ _ _)); (fail_if_success (with_reducible show wpAny _ _ (eval (PySem.Expr.ListComp _ _ _ _) _) _ _ _)); (fail_if_success (with_reducible show LCg.CompSrc _ _ _ _ _ _ _ _ _ _ _ _ _ _)); (fail_if_success (with_reducible show wpAny _ _ (call (Value.ref _) _ _) _ _ _)); (first | ((with_reducible show wpAny _ _ (exec (PySem.Stmt.For _ _ _ _ _) _) _ _ _); (rename Fr _ _ _ _ => zF'); (with_unfolding_all refine' For_invVF zF' ?zk1 ?zk2 ?_; (case zk1 => exact rfl); (case zk2 => exact rfl); k_whole)) | (k_unfold; (try dsimp only)) | (k_end; wrow_close) | walk1 | (dsimp only; walk1) | (leave1; walk_say "STEP leave1"; try dsimp only) | (dsimp only; k_unfold; (try dsimp only)) | fail "no step")))); (all_goals (try (rename Fr _ _ _ _ => zF'; dsimp only at zF'))); (all_goals (try dsimp only)))
      k_dflt (refine' endM_of (tl := [(_, _)]) (by k_asm) (by k_asm) ?ze1 ?ze2 ?ze3 ⟨_, _, _, rfl, rfl, I5⟩)
      case ze1 => walk_at "mine sub"
      case ze2 => walk_at "mine sub"
      case ze3 => walk_at "mine ne"
  | succ k ih =>
    intro n l pl ws nn kk ps hk hpw hn hn2 hws hR
    rw [pws_succ] at hR
    obtain ⟨qs, pa, vs, pn, rfl, hR, hvs⟩ := hR.unsnoc
    unfold Does
    k_fill
    intro dp u gd cn cs L a ccd cl outer A₀ base h₀ m s Q E B F X N T hk hd hu ret
    k_dflt (refine' enterM (binds := [(Str.ofString "a", .ref l), (Str.ofString "powers", .ref pl), (Str.ofString "base", .int b t1), (Str.ofString "w", .int W t2), (Str.ofString "least", .int Ls t3), (Str.ofString "divrem", .ref 191)]) ?k1 ?k2 ?k3 ?k4 ?k5 ?kA ?kF ?kK ?k6 ?k7 ?k8 ?k9 ?kB ?kR ?_ ?c2 ?c3 ?c4 ?c5; ((case kA => exact rfl); (case kF => exact rfl); (case kK => assumption); (case k1 => k_asm); (case k2 => k_asm); (case k3 => k_asm); (case k4 => k_asm); (case k5 => k_asm); (case kR => assumption); (case k6 => k_is); (case k7 => k_is); (case k8 => ((dsimp only); omega)); (case k9 => exact BindsTo.of_eq rfl); (case c5 => decide); (case kB => exact locs rfl); (case c2 => exact rfl); (case c3 => exact rfl); (case c4 => exact rfl); k_whole; intro g' L' h' F' N' B' X' T'; (try dsimp only); (try k_fold)))
    have hB := pow2_gt hW
    have hlen := limZ_len hB 1000 hn2
    have hlen2 := limZ_len (B := b) (by omega) 1000 hn2
    have hqs : qs.length = k := by rw [hR.length]; unfold pws; rw [List.length_map, List.length_range]
    have hrl0 : (refsOf qs).length = k := by rw [List.length_map, hqs]
    have hrl : (refsOf qs ++ [Value.ref pa]).length = k + 1 := by rw [List.length_append, hrl0]; rfl
    have hrf : refsOf (qs ++ [(pa, listOf vs.toArray pn)]) = refsOf qs ++ [Value.ref pa] := by simp
    have hpk := hpw k (by omega)
    have hpp : 0 < b ^ (2 ^ k) := Int.pow_pos (by omega)
    rename News _ _ _ _ => N0
    rw [hrf] at N0
    have N1 := kst_newsOf N0 (l' := (l, listOf ws.toArray nn) :: (pl, listOf (refsOf qs ++ [Value.ref pa]).toArray kk) :: (pa, listOf vs.toArray pn) :: qs) dbp_sub
    clear N0
    ((repeat' (((fail_if_success (with_reducible show wpAny _ _ (exec (PySem.Stmt.While _ _ _ _) _) _ _ _)); (fail_if_success (with_reducible show wpAny _ _ (pyIter _) _ _ _)); (fail_if_success (with_reducible show wpAny _ _ (eval (PySem.Expr.ListComp _ _ _ _) _) _ _ _)); (fail_if_success (with_reducible show LCg.CompSrc _ _ _ _ _ _ _ _ _ _ _ _ _ _)); (fail_if_success (with_reducible show wpAny _ _ (call (Value.ref _) _ _) _ _ _)); (first | ((with_reducible show wpAny _ _ (exec (PySem.Stmt.For _ _ _ _ _) _) _ _ _); (rename Fr _ _ _ _ => zF'); (with_unfolding_all refine' For_invVF zF' ?zk1 ?zk2 ?_; (case zk1 => exact rfl); (case zk2 => exact rfl); k_whole)) | (k_unfold; (try dsimp only)) | (k_end; wrow_close) | walk1 | (dsimp only; walk1) | (leave1; walk_say "STEP leave1"; try dsimp only) | (dsimp only; k_unfold; (try dsimp only)) | fail "no step")))); (all_goals (try (rename Fr _ _ _ _ => zF'; dsimp only at zF'))); (all_goals (try dsimp only)))
    ·
      k_dflt (refine' use_L (digits_plain_walk hW hW2 hn hn2 hb hb2 hws) ?zB ?zF ?zX ?zN ?zT ?zk ?zs ?zd ?zu ?_)
      ((case zB => k_asm); (case zF => k_asm); (case zX => k_asm); (case zN => k_asm); (case zT => k_asm); (case zk => first | exact rfl | assumption); (case zs => walk_at "mine sub"); (case zd => first | ((try dsimp only); exact room1 (by assumption) (by first | decide | exact Nat.le_refl _ | exact Nat.le_trans (by decide) (Nat.le_add_right _ _) | omega)) | (dsimp only; omega) | (simp only [depth_deeper]; omega)); (case zu => first | ((try dsimp only); exact room3 (by assumption) (by first | decide | exact Nat.le_refl _ | exact Nat.le_trans (by decide) (Nat.le_add_right _ _) | omega)) | (dsimp only; omega) | (simp only [units_deeper]; omega)))
      intro b5 vs5 n5 h5 tk5 F5 N5 me5 I5
      ((repeat' (((fail_if_success (with_reducible show wpAny _ _ (exec (PySem.Stmt.While _ _ _ _) _) _ _ _)); (fail_if_success (with_reducible show wpAny _ _ (pyIter _) _ _ _)); (fail_if_success (with_reducible show wpAny _ _ (eval (PySem.Expr.ListComp _ _ _ _) _) _ _ _)); (fail_if_success (with_reducible show LCg.CompSrc _ _ _ _ _ _ _ _ _ _ _ _ _ _)); (fail_if_success (with_reducible show wpAny _ _ (call (Value.ref _) _ _) _ _ _)); (first | ((with_reducible show wpAny _ _ (exec (PySem.Stmt.For _ _ _ _ _) _) _ _ _); (rename Fr _ _ _ _ => zF'); (with_unfolding_all refine' For_invVF zF' ?zk1 ?zk2 ?_; (case zk1 => exact rfl); (case zk2 => exact rfl); k_whole)) | (k_unfold; (try dsimp only)) | (k_end; wrow_close) | walk1 | (dsimp only; walk1) | (leave1; walk_say "STEP leave1"; try dsimp only) | (dsimp only; k_unfold; (try dsimp only)) | fail "no step")))); (all_goals (try (rename Fr _ _ _ _ => zF'; dsimp only at zF'))); (all_goals (try dsimp only)))
      k_dflt (refine' endM_of (tl := [(_, _)]) (by k_asm) (by k_asm) ?ze1 ?ze2 ?ze3 ⟨_, _, _, rfl, rfl, I5⟩)
      case ze1 => rw [hrf]; refine dbp_fin ?_; walk_at "mine sub"
      case ze2 => walk_at "mine sub"
      case ze3 => rw [hrf]; refine List.forall_mem_cons.mpr ⟨?_, List.forall_mem_nil _⟩; exact dbp_fin (P := fun q : Addr × Obj => q.1 ≠ b5) (ne1_all me5)
    k_dflt (refine' len_R N1 ?zm hrl ?zk ?_)
    case zm => k_mem
    case zk => omega
    ((repeat' (((fail_if_success (with_reducible show wpAny _ _ (exec (PySem.Stmt.While _ _ _ _) _) _ _ _)); (fail_if_success (with_reducible show wpAny _ _ (pyIter _) _ _ _)); (fail_if_success (with_reducible show wpAny _ _ (eval (PySem.Expr.ListComp _ _ _ _) _) _ _ _)); (fail_if_success (with_reducible show LCg.CompSrc _ _ _ _ _ _ _ _ _ _ _ _ _ _)); (fail_if_success (with_reducible show wpAny _ _ (call (Value.ref _) _ _) _ _ _)); (first | ((with_reducible show wpAny _ _ (exec (PySem.Stmt.For _ _ _ _ _) _) _ _ _); (rename Fr _ _ _ _ => zF'); (with_unfolding_all refine' For_invVF zF' ?zk1 ?zk2 ?_; (case zk1 => exact rfl); (case zk2 => exact rfl); k_whole)) | (k_unfold; (try dsimp only)) | (k_end; wrow_close) | walk1 | (dsimp only; walk1) | (leave1; walk_say "STEP leave1"; try dsimp only) | (dsimp only; k_unfold; (try dsimp only)) | fail "no step")))); (all_goals (try (rename Fr _ _ _ _ => zF'; dsimp only at zF'))); (all_goals (try dsimp only)))
    · exfalso; omega
    k_dflt (refine' last_R N1 ?zm ?_ (by with_unfolding_all rfl) (by intro _; with_unfolding_all rfl))
    case zm => k_mem
    ((repeat' (((fail_if_success (with_reducible show wpAny _ _ (exec (PySem.Stmt.While _ _ _ _) _) _ _ _)); (fail_if_success (with_reducible show wpAny _ _ (pyIter _) _ _ _)); (fail_if_success (with_reducible show wpAny _ _ (eval (PySem.Expr.ListComp _ _ _ _) _) _ _ _)); (fail_if_success (with_reducible show LCg.CompSrc _ _ _ _ _ _ _ _ _ _ _ _ _ _)); (fail_if_success (with_reducible show wpAny _ _ (call (Value.ref _) _ _) _ _ _)); (first | ((with_reducible show wpAny _ _ (exec (PySem.Stmt.For _ _ _ _ _) _) _ _ _); (rename Fr _ _ _ _ => zF'); (with_unfolding_all refine' For_invVF zF' ?zk1 ?zk2 ?_; (case zk1 => exact rfl); (case zk2 => exact rfl); k_whole)) | (k_unfold; (try dsimp only)) | (k_end; wrow_close) | walk1 | (dsimp only; walk1) | (leave1; walk_say "STEP leave1"; try dsimp only) | (dsimp only; k_unfold; (try dsimp only)) | fail "no step")))); (all_goals (try (rename Fr _ _ _ _ => zF'; dsimp only at zF'))); (all_goals (try dsimp only)))
    rename News _ _ _ _ => N2
    rename Ne1 _ _ => me2
    k_dflt (refine' len_R N2 ?zm hrl ?zk ?_)
    case zm => k_mem
    case zk => omega
    clear N1
    ((repeat' (((fail_if_success (with_reducible show wpAny _ _ (exec (PySem.Stmt.While _ _ _ _) _) _ _ _)); (fail_if_success (with_reducible show wpAny _ _ (pyIter _) _ _ _)); (fail_if_success (with_reducible show wpAny _ _ (eval (PySem.Expr.ListComp _ _ _ _) _) _ _ _)); (fail_if_success (with_reducible show LCg.CompSrc _ _ _ _ _ _ _ _ _ _ _ _ _ _)); (fail_if_success (with_reducible show wpAny _ _ (call (Value.ref _) _ _) _ _ _)); (first | ((with_reducible show wpAny _ _ (exec (PySem.Stmt.For _ _ _ _ _) _) _ _ _); (rename Fr _ _ _ _ => zF'); (with_unfolding_all refine' For_invVF zF' ?zk1 ?zk2 ?_; (case zk1 => exact rfl); (case zk2 => exact rfl); k_whole)) | (k_unfold; (try dsimp only)) | (k_end; wrow_close) | walk1 | (dsimp only; walk1) | (leave1; walk_say "STEP leave1"; try dsimp only) | (dsimp only; k_unfold; (try dsimp only)) | fail "no step")))); (all_goals (try (rename Fr _ _ _ _ => zF'; dsimp only at zF'))); (all_goals (try dsimp only)))
    k_dflt (refine' use_I (compare_walk hB hn (by omega) hn2 hpk hws hvs) ?zB ?zF ?zX ?zN ?zT ?zk ?zs ?zd ?zu ?_)
    ((case zB => k_asm); (case zF => k_asm); (case zX => k_asm); (case zN => k_asm); (case zT => k_asm); (case zk => first | exact rfl | assumption); (case zs => walk_at "mine sub"); (case zd => first | ((try dsimp only); exact room1 (by assumption) (by first | decide | exact Nat.le_refl _ | exact Nat.le_trans (by decide) (Nat.le_add_right _ _) | omega)) | (dsimp only; omega) | (simp only [depth_deeper]; omega)); (case zu => first | ((try dsimp only); exact room3 (by assumption) (by first | decide | exact Nat.le_refl _ | exact Nat.le_trans (by decide) (Nat.le_add_right _ _) | omega)) | (dsimp only; omega) | (simp only [units_deeper]; omega)))
    intro t6 h6 tk6 F6 N6
    ((repeat' (((fail_if_success (with_reducible show wpAny _ _ (exec (PySem.Stmt.While _ _ _ _) _) _ _ _)); (fail_if_success (with_reducible show wpAny _ _ (pyIter _) _ _ _)); (fail_if_success (with_reducible show wpAny _ _ (eval (PySem.Expr.ListComp _ _ _ _) _) _ _ _)); (fail_if_success (with_reducible show LCg.CompSrc _ _ _ _ _ _ _ _ _ _ _ _ _ _)); (fail_if_success (with_reducible show wpAny _ _ (call (Value.ref _) _ _) _ _ _)); (first | ((with_reducible show wpAny _ _ (exec (PySem.Stmt.For _ _ _ _ _) _) _ _ _); (rename Fr _ _ _ _ => zF'); (with_unfolding_all refine' For_invVF zF' ?zk1 ?zk2 ?_; (case zk1 => exact rfl); (case zk2 => exact rfl); k_whole)) | (k_unfold; (try dsimp only)) | (k_end; wrow_close) | walk1 | (dsimp only; walk1) | (leave1; walk_say "STEP leave1"; try dsimp only) | (dsimp only; k_unfold; (try dsimp only)) | fail "no step")))); (all_goals (try (rename Fr _ _ _ _ => zF'; dsimp only at zF'))); (all_goals (try dsimp only)))
    · have hlt : n < b ^ (2 ^ k) := by
        have h1 : (if n < b ^ (2 ^ k) then (-1 : Int) else if n = b ^ (2 ^ k) then 0 else 1) < 0 := by assumption
        split at h1
        · assumption
        · split at h1 <;> omega
      k_dflt (refine' use_L (ih (kk := 0) (by omega) (fun j hj => hpw j (by omega)) hn hn2 hws hR) ?zB ?zF ?zX ?zN ?zT ?zk ?zs ?zd ?zu ?_)
      ((case zB => k_asm); (case zF => k_asm); (case zX => k_asm); (case zN => k_asm); (case zT => k_asm); (case zk => first | exact rfl | assumption); (case zs => walk_at "mine sub"); (case zd => first | ((try dsimp only); exact room1 (by assumption) (by first | decide | exact Nat.le_refl _ | exact Nat.le_trans (by decide) (Nat.le_add_right _ _) | omega)) | (dsimp only; omega) | (simp only [depth_deeper]; omega)); (case zu => first | ((try dsimp only); exact room3 (by assumption) (by first | decide | exact Nat.le_refl _ | exact Nat.le_trans (by decide) (Nat.le_add_right _ _) | omega)) | (dsimp only; omega) | (simp only [units_deeper]; omega)))
      intro b7 vs7 n7 h7 tk7 F7 N7 me7 I7
      ((repeat' (((fail_if_success (with_reducible show wpAny _ _ (exec (PySem.Stmt.While _ _ _ _) _) _ _ _)); (fail_if_success (with_reducible show wpAny _ _ (pyIter _) _ _ _)); (fail_if_success (with_reducible show wpAny _ _ (eval (PySem.Expr.ListComp _ _ _ _) _) _ _ _)); (fail_if_success (with_reducible show LCg.CompSrc _ _ _ _ _ _ _ _ _ _ _ _ _ _)); (fail_if_success (with_reducible show wpAny _ _ (call (Value.ref _) _ _) _ _ _)); (first | ((with_reducible show wpAny _ _ (exec (PySem.Stmt.For _ _ _ _ _) _) _ _ _); (rename Fr _ _ _ _ => zF'); (with_unfolding_all refine' For_invVF zF' ?zk1 ?zk2 ?_; (case zk1 => exact rfl); (case zk2 => exact rfl); k_whole)) | (k_unfold; (try dsimp only)) | (k_end; wrow_close) | walk1 | (dsimp only; walk1) | (leave1; walk_say "STEP leave1"; try dsimp only) | (dsimp only; k_unfold; (try dsimp only)) | fail "no step")))); (all_goals (try (rename Fr _ _ _ _ => zF'; dsimp only at zF'))); (all_goals (try dsimp only)))
      k_dflt (refine' endM_of (tl := [(_, _)]) (by k_asm) (by k_asm) ?ze1 ?ze2 ?ze3 ⟨_, _, _, rfl, rfl, I7⟩)
      case ze1 => rw [hrf]; refine dbp_fin ?_; walk_at "mine sub"
      case ze2 => walk_at "mine sub"
      case ze3 => rw [hrf]; refine List.forall_mem_cons.mpr ⟨?_, List.forall_mem_nil _⟩; exact dbp_fin (P := fun q : Addr × Obj => q.1 ≠ b7) (fun q hq => ne1_all me7 q (.tail _ (.tail _ hq)))
    · have hge : b ^ (2 ^ k) ≤ n := by
        have h1 : ¬ (if n < b ^ (2 ^ k) then (-1 : Int) else if n = b ^ (2 ^ k) then 0 else 1) < 0 := by assumption
        split at h1 <;> omega
      have hd0 : 0 ≤ n / b ^ (2 ^ k) := Int.ediv_nonneg hn (by omega)
      have hd1 : n / b ^ (2 ^ k) ≤ n := Int.ediv_le_self _ hn
      have hm0 : 0 ≤ n % b ^ (2 ^ k) := Int.emod_nonneg _ (by omega)
      have hm1 : n % b ^ (2 ^ k) < b ^ (2 ^ k) := Int.emod_lt_of_pos _ hpp
      have hml : LtP (n % b ^ (2 ^ k)) 1000 := hpk.le (by omega)
      k_dflt (refine' use_LL (parts_walk hW hW2 hn hn2 hpp hpk hws hvs) ?zB ?zF ?zX ?zN ?zT ?zk ?zs ?zd ?zu ?_)
      ((case zB => k_asm); (case zF => k_asm); (case zX => k_asm); (case zN => k_asm); (case zT => k_asm); (case zk => first | exact rfl | assumption); (case zs => walk_at "mine sub"); (case zd => first | ((try dsimp only); exact room1 (by assumption) (by first | decide | exact Nat.le_refl _ | exact Nat.le_trans (by decide) (Nat.le_add_right _ _) | omega)) | (dsimp only; omega) | (simp only [depth_deeper]; omega)); (case zu => first | ((try dsimp only); exact room3 (by assumption) (by first | decide | exact Nat.le_refl _ | exact Nat.le_trans (by decide) (Nat.le_add_right _ _) | omega)) | (dsimp only; omega) | (simp only [units_deeper]; omega)))
      intro p7 a7 c7 vs7 n7 ws7 k7 h7 tk7 F7 N7 nea neb nec hpa hpb hab I7 J7
      simp only [Ne1, and_true] at nea
      simp only [Ne1, and_true] at neb
      simp only [Ne1, and_true] at nec
      ((repeat' (((fail_if_success (with_reducible show wpAny _ _ (exec (PySem.Stmt.While _ _ _ _) _) _ _ _)); (fail_if_success (with_reducible show wpAny _ _ (pyIter _) _ _ _)); (fail_if_success (with_reducible show wpAny _ _ (eval (PySem.Expr.ListComp _ _ _ _) _) _ _ _)); (fail_if_success (with_reducible show LCg.CompSrc _ _ _ _ _ _ _ _ _ _ _ _ _ _)); (fail_if_success (with_reducible show wpAny _ _ (call (Value.ref _) _ _) _ _ _)); (first | ((with_reducible show wpAny _ _ (exec (PySem.Stmt.For _ _ _ _ _) _) _ _ _); (rename Fr _ _ _ _ => zF'); (with_unfolding_all refine' For_invVF zF' ?zk1 ?zk2 ?_; (case zk1 => exact rfl); (case zk2 => exact rfl); k_whole)) | (k_unfold; (try dsimp only)) | (k_end; wrow_close) | walk1 | (dsimp only; walk1) | (leave1; walk_say "STEP leave1"; try dsimp only) | (dsimp only; k_unfold; (try dsimp only)) | fail "no step")))); (all_goals (try (rename Fr _ _ _ _ => zF'; dsimp only at zF'))); (all_goals (try dsimp only)))
      k_dflt (refine' use_L (ih (kk := 0) (by omega) (fun j hj => hpw j (by omega)) hd0 (hn2.le hd1) I7 hR) ?zB ?zF ?zX ?zN ?zT ?zk ?zs ?zd ?zu ?_)
      ((case zB => k_asm); (case zF => k_asm); (case zX => k_asm); (case zN => k_asm); (case zT => k_asm); (case zk => first | exact rfl | assumption); (case zs => walk_at "mine sub"); (case zd => first | ((try dsimp only); exact room1 (by assumption) (by first | decide | exact Nat.le_refl _ | exact Nat.le_trans (by decide) (Nat.le_add_right _ _) | omega)) | (dsimp only; omega) | (simp only [depth_deeper]; omega)); (case zu => first | ((try dsimp only); exact room3 (by assumption) (by first | decide | exact Nat.le_refl _ | exact Nat.le_trans (by decide) (Nat.le_add_right _ _) | omega)) | (dsimp only; omega) | (simp only [units_deeper]; omega)))
      intro b8 vs8 n8 h8 tk8 F8 N8 ne8 I8
      simp only [Ne1, and_true] at ne8
      ((repeat' (((fail_if_success (with_reducible show wpAny _ _ (exec (PySem.Stmt.While _ _ _ _) _) _ _ _)); (fail_if_success (with_reducible show wpAny _ _ (pyIter _) _ _ _)); (fail_if_success (with_reducible show wpAny _ _ (eval (PySem.Expr.ListComp _ _ _ _) _) _ _ _)); (fail_if_success (with_reducible show LCg.CompSrc _ _ _ _ _ _ _ _ _ _ _ _ _ _)); (fail_if_success (with_reducible show wpAny _ _ (call (Value.ref _) _ _) _ _ _)); (first | ((with_reducible show wpAny _ _ (exec (PySem.Stmt.For _ _ _ _ _) _) _ _ _); (rename Fr _ _ _ _ => zF'); (with_unfolding_all refine' For_invVF zF' ?zk1 ?zk2 ?_; (case zk1 => exact rfl); (case zk2 => exact rfl); k_whole)) | (k_unfold; (try dsimp only)) | (k_end; wrow_close) | walk1 | (dsimp only; walk1) | (leave1; walk_say "STEP leave1"; try dsimp only) | (dsimp only; k_unfold; (try dsimp only)) | fail "no step")))); (all_goals (try (rename Fr _ _ _ _ => zF'; dsimp only at zF'))); (all_goals (try dsimp only)))
      k_dflt (refine' use_L (ih (kk := 0) (by omega) (fun j hj => hpw j (by omega)) hm0 hml J7 hR) ?zB ?zF ?zX ?zN ?zT ?zk ?zs ?zd ?zu ?_)
      ((case zB => k_asm); (case zF => k_asm); (case zX => k_asm); (case zN => k_asm); (case zT => k_asm); (case zk => first | exact rfl | assumption); (case zs => walk_at "mine sub"); (case zd => first | ((try dsimp only); exact room1 (by assumption) (by first | decide | exact Nat.le_refl _ | exact Nat.le_trans (by decide) (Nat.le_add_right _ _) | omega)) | (dsimp only; omega) | (simp only [depth_deeper]; omega)); (case zu => first | ((try dsimp only); exact room3 (by assumption) (by first | decide | exact Nat.le_refl _ | exact Nat.le_trans (by decide) (Nat.le_add_right _ _) | omega)) | (dsimp only; omega) | (simp only [units_deeper]; omega)))
      intro b9 vs9 n9 h9 tk9 F9 N9 ne9 I9
      simp only [Ne1, and_true] at ne9
      ((repeat' (((fail_if_success (with_reducible show wpAny _ _ (exec (PySem.Stmt.While _ _ _ _) _) _ _ _)); (fail_if_success (with_reducible show wpAny _ _ (pyIter _) _ _ _)); (fail_if_success (with_reducible show wpAny _ _ (eval (PySem.Expr.ListComp _ _ _ _) _) _ _ _)); (fail_if_success (with_reducible show LCg.CompSrc _ _ _ _ _ _ _ _ _ _ _ _ _ _)); (fail_if_success (with_reducible show wpAny _ _ (call (Value.ref _) _ _) _ _ _)); (first | ((with_reducible show wpAny _ _ (exec (PySem.Stmt.For _ _ _ _ _) _) _ _ _); (rename Fr _ _ _ _ => zF'); (with_unfolding_all refine' For_invVF zF' ?zk1 ?zk2 ?_; (case zk1 => exact rfl); (case zk2 => exact rfl); k_whole)) | (k_unfold; (try dsimp only)) | (k_end; wrow_close) | walk1 | (dsimp only; walk1) | (leave1; walk_say "STEP leave1"; try dsimp only) | (dsimp only; k_unfold; (try dsimp only)) | fail "no step")))); (all_goals (try (rename Fr _ _ _ _ => zF'; dsimp only at zF'))); (all_goals (try dsimp only)))
      have hlr := limZ_len (B := b) (by omega) 1000 hml
      have hlq := limZ_len (B := b) (by omega) 1000 (hn2.le hd1)
      obtain ⟨P2, hP2⟩ : ∃ P2 : Nat, 2 ^ k = P2 := ⟨_, rfl⟩
      have h2k : (1 : Int) * 2 ^ (((k + 1 : Nat) : Int) - 1).toNat = (P2 : Int) := by
        have e : (((k + 1 : Nat) : Int) - 1).toNat = k := by omega
        rw [e, Int.one_mul, ← hP2]; push_cast; rfl
      have h2k2 : P2 ≤ 4096 := by
        have : 2 ^ k ≤ 2 ^ 12 := Nat.pow_le_pow_right (by omega) (by omega)
        omega
      k_dflt (refine' use_L (noughts_walk (xs := (limZ b (n % b ^ (2 ^ k))).reverse) (by rw [h2k]; omega) (by rw [h2k]; omega) (by rw [List.length_reverse]; omega) I9) ?zB ?zF ?zX ?zN ?zT ?zk ?zs ?zd ?zu ?_)
      ((case zB => k_asm); (case zF => k_asm); (case zX => k_asm); (case zN => k_asm); (case zT => k_asm); (case zk => first | exact rfl | assumption); (case zs => walk_at "mine sub"); (case zd => first | ((try dsimp only); exact room1 (by assumption) (by first | decide | exact Nat.le_refl _ | exact Nat.le_trans (by decide) (Nat.le_add_right _ _) | omega)) | (dsimp only; omega) | (simp only [depth_deeper]; omega)); (case zu => first | ((try dsimp only); exact room3 (by assumption) (by first | decide | exact Nat.le_refl _ | exact Nat.le_trans (by decide) (Nat.le_add_right _ _) | omega)) | (dsimp only; omega) | (simp only [units_deeper]; omega)))
      intro b10 vs10 n10 h10 tk10 F10 N10 ne10 I10
      simp only [Ne1, and_true] at ne10
      have hrep : (List.replicate (1 * 2 ^ (((k + 1 : Nat) : Int) - 1).toNat - (((limZ b (n % b ^ (2 ^ k))).reverse.length : Nat) : Int)).toNat (0 : Int) ++ (limZ b (n % b ^ (2 ^ k))).reverse) = List.replicate (2 ^ k - (limZ b (n % b ^ (2 ^ k))).length) 0 ++ (limZ b (n % b ^ (2 ^ k))).reverse := by
        rw [h2k, List.length_reverse, hP2]; congr 2; omega
      rw [hrep] at I10
      have hsz1 : (limZ b (n / b ^ (2 ^ k))).reverse.length + (List.replicate (2 ^ k - (limZ b (n % b ^ (2 ^ k))).length) 0 ++ (limZ b (n % b ^ (2 ^ k))).reverse).length ≤ sizeLine := by
        rw [List.length_append, List.length_reverse, List.length_reverse, List.length_replicate, sizeLine_eq]; omega
      ((repeat' (((fail_if_success (with_reducible show wpAny _ _ (exec (PySem.Stmt.While _ _ _ _) _) _ _ _)); (fail_if_success (with_reducible show wpAny _ _ (pyIter _) _ _ _)); (fail_if_success (with_reducible show wpAny _ _ (eval (PySem.Expr.ListComp _ _ _ _) _) _ _ _)); (fail_if_success (with_reducible show LCg.CompSrc _ _ _ _ _ _ _ _ _ _ _ _ _ _)); (fail_if_success (with_reducible show wpAny _ _ (call (Value.ref _) _ _) _ _ _)); (first | ((with_reducible show wpAny _ _ (exec (PySem.Stmt.For _ _ _ _ _) _) _ _ _); (rename Fr _ _ _ _ => zF'); (with_unfolding_all refine' For_invVF zF' ?zk1 ?zk2 ?_; (case zk1 => exact rfl); (case zk2 => exact rfl); k_whole)) | (k_unfold; (try dsimp only)) | (k_end; wrow_close) | walk1 | (dsimp only; walk1) | (leave1; walk_say "STEP leave1"; try dsimp only) | (dsimp only; k_unfold; (try dsimp only)) | fail "no step")))); (all_goals (try (rename Fr _ _ _ _ => zF'; dsimp only at zF'))); (all_goals (try dsimp only)))
      rename IntsAre _ (_ ++ (_ ++ _)) => I11
      rw [dig_whole (by omega) _ hn hge] at I11
      rename @And _ _ => l1
      k_dflt (refine' endM_of (tl := [(_, _)]) (by k_asm) (by k_asm) ?ze1 ?ze2 ?ze3 ⟨_, _, _, rfl, rfl, I11⟩)
      case ze1 => rw [hrf]; refine dbp_fin ?_; walk_at "mine sub"
      case ze2 => walk_at "mine sub"
      case ze3 =>
        rw [hrf]
        refine List.forall_mem_cons.mpr ⟨?_, List.forall_mem_nil _⟩
        refine dbp_fin (P := fun q : Addr × Obj => q.1 ≠ _) ?_
        refine List.forall_mem_cons.mpr ⟨by k_ne, List.forall_mem_cons.mpr ⟨by k_ne, List.forall_mem_cons.mpr ⟨by k_ne, fun q hq => Nat.ne_of_lt (tb_ltOf l1.2.2.2.2.2.2.2.2.2.2.2 q hq)⟩⟩⟩


end
section
example : True := by
  w_top off
  trivial
theorem val_append {b : Int} : ∀ (ys xs : List Int), valB b (xs ++ ys) = valB b xs * b ^ ys.length + valB b ys := by
  have h : ∀ (ys : List Int) (a : Int), ys.foldl (fun a d => a * b + d) a = a * b ^ ys.length + valB b ys := by
    intro ys
    induction ys with
    | nil => intro a; rw [List.length_nil, Int.pow_zero]; show a = a * 1 + 0; omega
    | cons y r ih =>
      intro a
      have h1 := ih (0 * b + y)
      unfold valB
      rw [List.foldl_cons, List.foldl_cons, ih, h1, List.length_cons, Int.pow_succ, Int.add_mul, Int.zero_mul, Int.zero_add, Int.mul_assoc, Int.mul_comm b]
      omega
  intro ys xs
  unfold valB
  rw [List.foldl_append]
  exact h ys _
theorem Rows.get : ∀ {ps : List (Addr × Obj)} {xss : List (List Int)}, Rows ps xss → ∀ (i : Nat), i < ps.length → ∃ a vs n, ps[i]? = some (a, listOf vs.toArray n) ∧ IntsAre vs (xss.getD i [])
  | _, _, .cons hi hr, 0, _ => ⟨_, _, _, rfl, hi⟩
  | _, _, .cons hi hr, i + 1, h => by
    obtain ⟨a, vs, n, h1, h2⟩ := Rows.get hr i (Nat.lt_of_succ_lt_succ h)
    exact ⟨a, vs, n, h1, h2⟩
theorem pws_get {B b : Int} {k i : Nat} (h : i < k) : (pws B b k).getD i [] = limZ B (b ^ (2 ^ i)) := by
  unfold pws
  rw [List.getD_eq_getElem?_getD, List.getElem?_map, List.getElem?_range h]; rfl

section
variable {prog : Program} {w : World} {A : Around} {E : Value → Shared → Prop} {s : Shared} {h₀ : Heap} {L : Addr} {m : Str → Option Value} {news : List (Addr × Obj)} {Q : Value → Shared → Prop}
theorem item_R {pl : Addr} {vs : List Value} {v : Value} {n : Nat} {i : Int} {t : Tok} {value slice : Expr} (N : News h₀ L s.heap news) (hm : (pl, listOf vs.toArray n) ∈ news) (h0 : 0 ≤ i) (hi : i < 1000000) (hx : vs[i.toNat]? = some v) (h : Q v s)
    (hs : subscripted slice false (.ref pl) (.int i t) = operate [.ref pl, .int i t] (getItem (.ref pl) (.int i t))) (hg : ∀ r, letTemporaryGo value (.ref pl) r = pure ()) :
    wpAny (model prog w) A (subscriptTail value slice (.ref pl) (.int i t)) Q E s :=
  item_list (items := vs.toArray) ⟨_, (N _ hm).1, rfl, n, rfl⟩ h0 (by omega) (by simpa using hx) h hs hg
end

theorem kst_sub9 {α : Type} {l l' : List α} (h : ∀ p ∈ l, p ∈ l') : ∀ p, p ∈ l → p ∈ l' := h
theorem nbp_facts {b : Int} {ds : List Int} {P2 M : Nat} (hb : 2 ≤ b) (hds0 : ∀ d ∈ ds, 0 ≤ d) (hv : LtP (valB b ds) 800) (hP1 : 0 < P2) (hlt : P2 < ds.length) (hM : ds.length < M + 1) :
    valB b ds = valB b (ds.take (ds.length - P2)) * b ^ P2 + valB b (ds.drop (ds.length - P2)) ∧ 0 ≤ valB b (ds.take (ds.length - P2)) ∧ 0 ≤ valB b (ds.drop (ds.length - P2)) ∧ 0 ≤ valB b (ds.take (ds.length - P2)) * b ^ P2 ∧
    LtP (valB b (ds.take (ds.length - P2))) 800 ∧ LtP (valB b (ds.drop (ds.length - P2))) 800 ∧ LtP (valB b (ds.take (ds.length - P2)) * b ^ P2) 900 ∧ LtP (valB b (ds.take (ds.length - P2)) * b ^ P2) 1000 ∧ LtP (valB b (ds.take (ds.length - P2))) 1000 ∧ LtP (valB b (ds.drop (ds.length - P2))) 900 ∧
    (ds.take (ds.length - P2)).length < M ∧ (ds.drop (ds.length - P2)).length < M := by
  have hsp := val_append (b := b) (ds.drop (ds.length - P2)) (ds.take (ds.length - P2))
  rw [List.take_append_drop, List.length_drop, show ds.length - (ds.length - P2) = P2 by omega] at hsp
  have hpb : 0 < b ^ P2 := Int.pow_pos (by omega)
  have ht0 : 0 ≤ valB b (ds.take (ds.length - P2)) := (val_take (by omega) hds0 _).1
  have hdr0 : 0 ≤ valB b (ds.drop (ds.length - P2)) := val_ge (by omega) _ 0 (fun x hx => hds0 x (List.mem_of_mem_drop hx)) (Int.le_refl _)
  have htm : valB b (ds.take (ds.length - P2)) ≤ valB b (ds.take (ds.length - P2)) * b ^ P2 := by
    have := Int.mul_le_mul_of_nonneg_left (c := valB b (ds.take (ds.length - P2))) (show (1 : Int) ≤ b ^ P2 by omega) ht0
    omega
  have hvt := hv.le (show valB b (ds.take (ds.length - P2)) ≤ valB b ds by omega)
  have hvd := hv.le (show valB b (ds.drop (ds.length - P2)) ≤ valB b ds by omega)
  have hvm := hv.le (show valB b (ds.take (ds.length - P2)) * b ^ P2 ≤ valB b ds by omega)
  refine ⟨hsp, ht0, hdr0, by omega, hvt, hvd, hvm.up (by omega), hvm.up (by omega), hvt.up (by omega), hvd.up (by omega), ?_, ?_⟩
  · rw [List.length_take]; omega
  · rw [List.length_drop]; omega

theorem nbp_walk {w : World} {mean : ExcName → Option Value} {mg mb : Str → Option Value} {W b Ls : Int} {t1 t2 t3 : Tok} {pl : Addr} {kk k : Nat} {ps : List (Addr × Obj)} (hW : 1 ≤ W) (hW2 : W ≤ 8) (hb : 2 ≤ b) (hb2 : b ≤ 20) (hk : k ≤ 12) (hpw : ∀ j, j < k → LtP (b ^ (2 ^ j)) 1000) (hR : Rows ps (pws (2 ^ W.toNat) b k)) : ∀ (M : Nat) {l : Addr} {ws : List Value} {nn : Nat} {ds : List Int}, ds.length < M → M ≤ 1000 → (∀ d ∈ ds, 0 ≤ d ∧ d < b) → LtP (valB b ds) 800 → IntsAre ws ds →
    Does w mean mg mb 156 (5 + M) (100 + 20 * M) [.ref l, .ref pl, .int b t1, .int W t2, .int Ls t3, .ref 184] ((l, listOf ws.toArray nn) :: (pl, listOf (refsOf ps).toArray kk) :: ps) (OutL (limZ (2 ^ W.toNat) (valB b ds))) := by
  intro M
  induction M with
  | zero =>
    intro l ws nn ds hM
    exact absurd hM (Nat.not_lt_zero _)
  | succ M ih =>
    intro l ws nn ds hM hM2 hds hv hws
    unfold Does
    k_fill
    intro dp u gd cn cs L a ccd cl outer A₀ base h₀ m s Q E B F X N T hk hd hu ret
    k_dflt (refine' enterM (binds := [(Str.ofString "digits", .ref l), (Str.ofString "powers", .ref pl), (Str.ofString "base", .int b t1), (Str.ofString "w", .int W t2), (Str.ofString "least", .int Ls t3), (Str.ofString "mul", .ref 184)]) ?k1 ?k2 ?k3 ?k4 ?k5 ?kA ?kF ?kK ?k6 ?k7 ?k8 ?k9 ?kB ?kR ?_ ?c2 ?c3 ?c4 ?c5; ((case kA => exact rfl); (case kF => exact rfl); (case kK => assumption); (case k1 => k_asm); (case k2 => k_asm); (case k3 => k_asm); (case k4 => k_asm); (case k5 => k_asm); (case kR => assumption); (case k6 => k_is); (case k7 => k_is); (case k8 => ((dsimp only); omega)); (case k9 => exact BindsTo.of_eq rfl); (case c5 => decide); (case kB => exact locs rfl); (case c2 => exact rfl); (case c3 => exact rfl); (case c4 => exact rfl); k_whole; intro g' L' h' F' N' B' X' T'; (try dsimp only); (try k_fold)))
    have hB := pow2_gt hW
    have hqs : ps.length = k := by rw [hR.length]; unfold pws; rw [List.length_map, List.length_range]
    have hrl : (refsOf ps).length = k := by rw [List.length_map, hqs]
    ((repeat' (((fail_if_success (with_reducible show wpAny _ _ (exec (PySem.Stmt.While _ _ _ _) _) _ _ _)); (fail_if_success (with_reducible show wpAny _ _ (pyIter _) _ _ _)); (fail_if_success (with_reducible show wpAny _ _ (eval (PySem.Expr.ListComp _ _ _ _) _) _ _ _)); (fail_if_success (with_reducible show LCg.CompSrc _ _ _ _ _ _ _ _ _ _ _ _ _ _)); (fail_if_success (with_reducible show wpAny _ _ (call (Value.ref _) _ _) _ _ _)); (first | ((with_reducible show wpAny _ _ (exec (PySem.Stmt.For _ _ _ _ _) _) _ _ _); (rename Fr _ _ _ _ => zF'); (with_unfolding_all refine' For_invVF zF' ?zk1 ?zk2 ?_; (case zk1 => exact rfl); (case zk2 => exact rfl); k_whole)) | (k_unfold; (try dsimp only)) | (k_end; wrow_close) | walk1 | (dsimp only; walk1) | (leave1; walk_say "STEP leave1"; try dsimp only) | (dsimp only; k_unfold; (try dsimp only)) | fail "no step")))); (all_goals (try (rename Fr _ _ _ _ => zF'; dsimp only at zF'))); (all_goals (try dsimp only)))
    rename News _ _ _ _ => N1
    k_dflt (refine' len_R N1 ?zm hrl ?zk ?_)
    case zm => k_mem
    case zk => omega
    ((repeat' (((fail_if_success (with_reducible show wpAny _ _ (exec (PySem.Stmt.While _ _ _ _) _) _ _ _)); (fail_if_success (with_reducible show wpAny _ _ (pyIter _) _ _ _)); (fail_if_success (with_reducible show wpAny _ _ (eval (PySem.Expr.ListComp _ _ _ _) _) _ _ _)); (fail_if_success (with_reducible show LCg.CompSrc _ _ _ _ _ _ _ _ _ _ _ _ _ _)); (fail_if_success (with_reducible show wpAny _ _ (call (Value.ref _) _ _) _ _ _)); (first | ((with_reducible show wpAny _ _ (exec (PySem.Stmt.For _ _ _ _ _) _) _ _ _); (rename Fr _ _ _ _ => zF'); (with_unfolding_all refine' For_invVF zF' ?zk1 ?zk2 ?_; (case zk1 => exact rfl); (case zk2 => exact rfl); k_whole)) | (k_unfold; (try dsimp only)) | (k_end; wrow_close) | walk1 | (dsimp only; walk1) | (leave1; walk_say "STEP leave1"; try dsimp only) | (dsimp only; k_unfold; (try dsimp only)) | fail "no step")))); (all_goals (try (rename Fr _ _ _ _ => zF'; dsimp only at zF'))); (all_goals (try dsimp only)))
    rename Fr _ _ _ _ => F1
    rename News _ _ _ _ => N1
    refine' while_M (σ := Int × Tok) (fun _ => (l, listOf ws.toArray nn) :: (pl, listOf (refsOf ps).toArray kk) :: ps)
      (fun (e, t) => [(Str.ofString "digits", .ref l), (Str.ofString "powers", .ref pl), (Str.ofString "base", .int b t1), (Str.ofString "w", .int W t2), (Str.ofString "least", .int Ls t3), (Str.ofString "mul", .ref 184), (Str.ofString "at", .int e t)])
      (fun (e, t) => -1 ≤ e ∧ e < (k : Int)) (fun (e, t) => (e + 1).toNat) ((k : Int) - 1, _) F1 N1 ?zl ?zf ?zp ?turn (by passes_own)
    case zf => kst_all
    case zl => walk_at "mine sub"
    case zp => exact ⟨by (try dsimp only); omega, by (try dsimp only); omega⟩
    case turn =>
      rintro ⟨e, t⟩ u2 h2 tk2 ⟨he0, he⟩ F2 N2
      (try dsimp only at F2)
      (try dsimp only at N2)
      (try dsimp only at he)
      (try dsimp only at he0)
      (try dsimp only)
      clear F1 N1
      ((repeat' (((fail_if_success (with_reducible show wpAny _ _ (exec (PySem.Stmt.While _ _ _ _) _) _ _ _)); (fail_if_success (with_reducible show wpAny _ _ (pyIter _) _ _ _)); (fail_if_success (with_reducible show wpAny _ _ (eval (PySem.Expr.ListComp _ _ _ _) _) _ _ _)); (fail_if_success (with_reducible show LCg.CompSrc _ _ _ _ _ _ _ _ _ _ _ _ _ _)); (fail_if_success (with_reducible show wpAny _ _ (call (Value.ref _) _ _) _ _ _)); (first | ((with_reducible show wpAny _ _ (exec (PySem.Stmt.For _ _ _ _ _) _) _ _ _); (rename Fr _ _ _ _ => zF'); (with_unfolding_all refine' For_invVF zF' ?zk1 ?zk2 ?_; (case zk1 => exact rfl); (case zk2 => exact rfl); k_whole)) | (k_unfold; (try dsimp only)) | (k_end; wrow_close) | walk1 | (dsimp only; walk1) | (leave1; walk_say "STEP leave1"; try dsimp only) | (dsimp only; k_unfold; (try dsimp only)) | fail "no step")))); (all_goals (try (rename Fr _ _ _ _ => zF'; dsimp only at zF'))); (all_goals (try dsimp only)))
      ·
        rename Fr _ _ _ _ => F3
        rename News _ _ _ _ => N3
        (try simp only [List.push_toArray] at N3)
        k_dflt (refine' wh_end (e - 1, _) F3 N3 ?zl ?zf ?zp ?zm)
        case zf => kst_all
        case zl => walk_at "mine sub"
        case zp => exact ⟨by (try dsimp only); omega, by (try dsimp only); omega⟩
        case zm => (try dsimp only); omega
      ·
        k_dflt (refine' use_L (number_plain_walk hW hW2 hb hb2 hds (hv.up (by omega)) hws) ?zB ?zF ?zX ?zN ?zT ?zk ?zs ?zd ?zu ?_)
        ((case zB => k_asm); (case zF => k_asm); (case zX => k_asm); (case zN => k_asm); (case zT => k_asm); (case zk => first | exact rfl | assumption); (case zs => walk_at "mine sub"); (case zd => first | ((try dsimp only); exact room1 (by assumption) (by first | decide | exact Nat.le_refl _ | exact Nat.le_trans (by decide) (Nat.le_add_right _ _) | omega)) | (dsimp only; omega) | (simp only [depth_deeper]; omega)); (case zu => first | ((try dsimp only); exact room3 (by assumption) (by first | decide | exact Nat.le_refl _ | exact Nat.le_trans (by decide) (Nat.le_add_right _ _) | omega)) | (dsimp only; omega) | (simp only [units_deeper]; omega)))
        intro b5 vs5 n5 h5 tk5 F5 N5 me5 I5
        ((repeat' (((fail_if_success (with_reducible show wpAny _ _ (exec (PySem.Stmt.While _ _ _ _) _) _ _ _)); (fail_if_success (with_reducible show wpAny _ _ (pyIter _) _ _ _)); (fail_if_success (with_reducible show wpAny _ _ (eval (PySem.Expr.ListComp _ _ _ _) _) _ _ _)); (fail_if_success (with_reducible show LCg.CompSrc _ _ _ _ _ _ _ _ _ _ _ _ _ _)); (fail_if_success (with_reducible show wpAny _ _ (call (Value.ref _) _ _) _ _ _)); (first | ((with_reducible show wpAny _ _ (exec (PySem.Stmt.For _ _ _ _ _) _) _ _ _); (rename Fr _ _ _ _ => zF'); (with_unfolding_all refine' For_invVF zF' ?zk1 ?zk2 ?_; (case zk1 => exact rfl); (case zk2 => exact rfl); k_whole)) | (k_unfold; (try dsimp only)) | (k_end; wrow_close) | walk1 | (dsimp only; walk1) | (leave1; walk_say "STEP leave1"; try dsimp only) | (dsimp only; k_unfold; (try dsimp only)) | fail "no step")))); (all_goals (try (rename Fr _ _ _ _ => zF'; dsimp only at zF'))); (all_goals (try dsimp only)))
        k_dflt (refine' endM_of (tl := [(_, _)]) (by k_asm) (by k_asm) ?ze1 ?ze2 ?ze3 ⟨_, _, _, rfl, rfl, I5⟩)
        case ze1 => walk_at "mine sub"
        case ze2 => walk_at "mine sub"
        case ze3 => exact List.forall_mem_cons.mpr ⟨ne1_all me5, List.forall_mem_nil _⟩
      · rename News _ _ _ _ => N3
        rename IntsAre _ (List.take _ _) => I3
        obtain ⟨P2, hP2⟩ : ∃ P2 : Nat, 2 ^ e.toNat = P2 := ⟨_, rfl⟩
        have h2k : (1 : Int) * 2 ^ e.toNat = (P2 : Int) := by
          rw [Int.one_mul, ← hP2]; push_cast; rfl
        have hP1 : 0 < P2 := by rw [← hP2]; exact Nat.two_pow_pos _
        have hlt : P2 < ds.length := by
          have h1 : ¬ ((ds.length : Int) ≤ 1 * 2 ^ e.toNat) := by assumption
          rw [h2k] at h1; omega
        obtain ⟨hsp, ht0, hdr0, hm0, hvt, hvd, hvm, hvm2, hvt2, hvd2, hl1, hl2⟩ := nbp_facts hb (fun d hd => (hds d hd).1) hv hP1 hlt hM
        have e3 : ((ds.length : Int) - 1 * 2 ^ e.toNat).toNat = ds.length - P2 := by rw [h2k]; omega
        have I4 := I3
        rw [e3] at I4
        have hek : e.toNat < k := by omega
        obtain ⟨pa, pvs, pn, hg1, hg2⟩ := hR.get e.toNat (by omega)
        rw [pws_get hek, hP2] at hg2
        have hpm : (pa, listOf pvs.toArray pn) ∈ ps := List.mem_of_getElem? hg1
        have hgr : (refsOf ps)[e.toNat]? = some (.ref pa) := by rw [List.getElem?_map, hg1]; rfl
        have hpb : 0 ≤ b ^ P2 := Int.le_of_lt (Int.pow_pos (by omega))
        have hM3 : M ≤ 1000 := by omega
        have hpwe := hpw e.toNat hek
        rw [hP2] at hpwe
        k_dflt (refine' use_L (ih hl1 hM3 (fun d hd => hds d (List.mem_of_mem_take hd)) hvt I4) ?zB ?zF ?zX ?zN ?zT ?zk ?zs ?zd ?zu ?_)
        ((case zB => k_asm); (case zF => k_asm); (case zX => k_asm); (case zN => k_asm); (case zT => k_asm); (case zk => first | exact rfl | assumption); (case zs => walk_at "mine sub"); (case zd => first | ((try dsimp only); exact room1 (by assumption) (by first | decide | exact Nat.le_refl _ | exact Nat.le_trans (by decide) (Nat.le_add_right _ _) | omega)) | (dsimp only; omega) | (simp only [depth_deeper]; omega)); (case zu => first | ((try dsimp only); exact room3 (by assumption) (by first | decide | exact Nat.le_refl _ | exact Nat.le_trans (by decide) (Nat.le_add_right _ _) | omega)) | (dsimp only; omega) | (simp only [units_deeper]; omega)))
        intro b5 vs5 n5 h5 tk5 F5 N5 me5 I5
        ((repeat' (((fail_if_success (with_reducible show wpAny _ _ (exec (PySem.Stmt.While _ _ _ _) _) _ _ _)); (fail_if_success (with_reducible show wpAny _ _ (pyIter _) _ _ _)); (fail_if_success (with_reducible show wpAny _ _ (eval (PySem.Expr.ListComp _ _ _ _) _) _ _ _)); (fail_if_success (with_reducible show LCg.CompSrc _ _ _ _ _ _ _ _ _ _ _ _ _ _)); (fail_if_success (with_reducible show wpAny _ _ (call (Value.ref _) _ _) _ _ _)); (first | ((with_reducible show wpAny _ _ (exec (PySem.Stmt.For _ _ _ _ _) _) _ _ _); (rename Fr _ _ _ _ => zF'); (with_unfolding_all refine' For_invVF zF' ?zk1 ?zk2 ?_; (case zk1 => exact rfl); (case zk2 => exact rfl); k_whole)) | (k_unfold; (try dsimp only)) | (k_end; wrow_close) | walk1 | (dsimp only; walk1) | (leave1; walk_say "STEP leave1"; try dsimp only) | (dsimp only; k_unfold; (try dsimp only)) | fail "no step")))); (all_goals (try (rename Fr _ _ _ _ => zF'; dsimp only at zF'))); (all_goals (try dsimp only)))
        rename News _ _ _ _ => N6
        rename IntsAre _ (List.drop _ _) => I6
        rw [e3] at I6
        k_dflt (refine' use_L (ih hl2 hM3 (fun d hd => hds d (List.mem_of_mem_drop hd)) hvd I6) ?zB ?zF ?zX ?zN ?zT ?zk ?zs ?zd ?zu ?_)
        ((case zB => k_asm); (case zF => k_asm); (case zX => k_asm); (case zN => k_asm); (case zT => k_asm); (case zk => first | exact rfl | assumption); (case zs => walk_at "mine sub"); (case zd => first | ((try dsimp only); exact room1 (by assumption) (by first | decide | exact Nat.le_refl _ | exact Nat.le_trans (by decide) (Nat.le_add_right _ _) | omega)) | (dsimp only; omega) | (simp only [depth_deeper]; omega)); (case zu => first | ((try dsimp only); exact room3 (by assumption) (by first | decide | exact Nat.le_refl _ | exact Nat.le_trans (by decide) (Nat.le_add_right _ _) | omega)) | (dsimp only; omega) | (simp only [units_deeper]; omega)))
        intro b7 vs7 n7 h7 tk7 F7 N7 me7 I7
        ((repeat' (((fail_if_success (with_reducible show wpAny _ _ (exec (PySem.Stmt.While _ _ _ _) _) _ _ _)); (fail_if_success (with_reducible show wpAny _ _ (pyIter _) _ _ _)); (fail_if_success (with_reducible show wpAny _ _ (eval (PySem.Expr.ListComp _ _ _ _) _) _ _ _)); (fail_if_success (with_reducible show LCg.CompSrc _ _ _ _ _ _ _ _ _ _ _ _ _ _)); (fail_if_success (with_reducible show wpAny _ _ (call (Value.ref _) _ _) _ _ _)); (first | ((with_reducible show wpAny _ _ (exec (PySem.Stmt.For _ _ _ _ _) _) _ _ _); (rename Fr _ _ _ _ => zF'); (with_unfolding_all refine' For_invVF zF' ?zk1 ?zk2 ?_; (case zk1 => exact rfl); (case zk2 => exact rfl); k_whole)) | (k_unfold; (try dsimp only)) | (k_end; wrow_close) | walk1 | (dsimp only; walk1) | (leave1; walk_say "STEP leave1"; try dsimp only) | (dsimp only; k_unfold; (try dsimp only)) | fail "no step")))); (all_goals (try (rename Fr _ _ _ _ => zF'; dsimp only at zF'))); (all_goals (try dsimp only)))
        rename News _ _ _ _ => N8
        k_dflt (refine' item_R N8 ?zm (by assumption) ?zk hgr ?_ (by with_unfolding_all rfl) (by intro _; with_unfolding_all rfl))
        case zm => k_mem
        case zk => omega
        ((repeat' (((fail_if_success (with_reducible show wpAny _ _ (exec (PySem.Stmt.While _ _ _ _) _) _ _ _)); (fail_if_success (with_reducible show wpAny _ _ (pyIter _) _ _ _)); (fail_if_success (with_reducible show wpAny _ _ (eval (PySem.Expr.ListComp _ _ _ _) _) _ _ _)); (fail_if_success (with_reducible show LCg.CompSrc _ _ _ _ _ _ _ _ _ _ _ _ _ _)); (fail_if_success (with_reducible show wpAny _ _ (call (Value.ref _) _ _) _ _ _)); (first | ((with_reducible show wpAny _ _ (exec (PySem.Stmt.For _ _ _ _ _) _) _ _ _); (rename Fr _ _ _ _ => zF'); (with_unfolding_all refine' For_invVF zF' ?zk1 ?zk2 ?_; (case zk1 => exact rfl); (case zk2 => exact rfl); k_whole)) | (k_unfold; (try dsimp only)) | (k_end; wrow_close) | walk1 | (dsimp only; walk1) | (leave1; walk_say "STEP leave1"; try dsimp only) | (dsimp only; k_unfold; (try dsimp only)) | fail "no step")))); (all_goals (try (rename Fr _ _ _ _ => zF'; dsimp only at zF'))); (all_goals (try dsimp only)))
        k_dflt (refine' use_L (times_walk hW hW2 ht0 hvt2 hpb hpwe hvm2 I5 hg2) ?zB ?zF ?zX ?zN ?zT ?zk ?zs ?zd ?zu ?_)
        ((case zB => k_asm); (case zF => k_asm); (case zX => k_asm); (case zN => k_asm); (case zT => k_asm); (case zk => first | exact rfl | assumption); (case zs => walk_at "mine sub"); (case zd => first | ((try dsimp only); exact room1 (by assumption) (by first | decide | exact Nat.le_refl _ | exact Nat.le_trans (by decide) (Nat.le_add_right _ _) | omega)) | (dsimp only; omega) | (simp only [depth_deeper]; omega)); (case zu => first | ((try dsimp only); exact room3 (by assumption) (by first | decide | exact Nat.le_refl _ | exact Nat.le_trans (by decide) (Nat.le_add_right _ _) | omega)) | (dsimp only; omega) | (simp only [units_deeper]; omega)))
        intro b8 vs8 n8 h8 tk8 F8 N8 me8 I8
        ((repeat' (((fail_if_success (with_reducible show wpAny _ _ (exec (PySem.Stmt.While _ _ _ _) _) _ _ _)); (fail_if_success (with_reducible show wpAny _ _ (pyIter _) _ _ _)); (fail_if_success (with_reducible show wpAny _ _ (eval (PySem.Expr.ListComp _ _ _ _) _) _ _ _)); (fail_if_success (with_reducible show LCg.CompSrc _ _ _ _ _ _ _ _ _ _ _ _ _ _)); (fail_if_success (with_reducible show wpAny _ _ (call (Value.ref _) _ _) _ _ _)); (first | ((with_reducible show wpAny _ _ (exec (PySem.Stmt.For _ _ _ _ _) _) _ _ _); (rename Fr _ _ _ _ => zF'); (with_unfolding_all refine' For_invVF zF' ?zk1 ?zk2 ?_; (case zk1 => exact rfl); (case zk2 => exact rfl); k_whole)) | (k_unfold; (try dsimp only)) | (k_end; wrow_close) | walk1 | (dsimp only; walk1) | (leave1; walk_say "STEP leave1"; try dsimp only) | (dsimp only; k_unfold; (try dsimp only)) | fail "no step")))); (all_goals (try (rename Fr _ _ _ _ => zF'; dsimp only at zF'))); (all_goals (try dsimp only)))
        k_dflt (refine' use_L (add_walk hW hW2 hm0 hdr0 hvm hvd2 I8 I7) ?zB ?zF ?zX ?zN ?zT ?zk ?zs ?zd ?zu ?_)
        ((case zB => k_asm); (case zF => k_asm); (case zX => k_asm); (case zN => k_asm); (case zT => k_asm); (case zk => first | exact rfl | assumption); (case zs => walk_at "mine sub"); (case zd => first | ((try dsimp only); exact room1 (by assumption) (by first | decide | exact Nat.le_refl _ | exact Nat.le_trans (by decide) (Nat.le_add_right _ _) | omega)) | (dsimp only; omega) | (simp only [depth_deeper]; omega)); (case zu => first | ((try dsimp only); exact room3 (by assumption) (by first | decide | exact Nat.le_refl _ | exact Nat.le_trans (by decide) (Nat.le_add_right _ _) | omega)) | (dsimp only; omega) | (simp only [units_deeper]; omega)))
        intro b9 vs9 n9 h9 tk9 F9 N9 me9 I9
        ((repeat' (((fail_if_success (with_reducible show wpAny _ _ (exec (PySem.Stmt.While _ _ _ _) _) _ _ _)); (fail_if_success (with_reducible show wpAny _ _ (pyIter _) _ _ _)); (fail_if_success (with_reducible show wpAny _ _ (eval (PySem.Expr.ListComp _ _ _ _) _) _ _ _)); (fail_if_success (with_reducible show LCg.CompSrc _ _ _ _ _ _ _ _ _ _ _ _ _ _)); (fail_if_success (with_reducible show wpAny _ _ (call (Value.ref _) _ _) _ _ _)); (first | ((with_reducible show wpAny _ _ (exec (PySem.Stmt.For _ _ _ _ _) _) _ _ _); (rename Fr _ _ _ _ => zF'); (with_unfolding_all refine' For_invVF zF' ?zk1 ?zk2 ?_; (case zk1 => exact rfl); (case zk2 => exact rfl); k_whole)) | (k_unfold; (try dsimp only)) | (k_end; wrow_close) | walk1 | (dsimp only; walk1) | (leave1; walk_say "STEP leave1"; try dsimp only) | (dsimp only; k_unfold; (try dsimp only)) | fail "no step")))); (all_goals (try (rename Fr _ _ _ _ => zF'; dsimp only at zF'))); (all_goals (try dsimp only)))
        rw [← hsp] at I9
        k_dflt (refine' endM_of (tl := [(_, _)]) (by k_asm) (by k_asm) ?ze1 ?ze2 ?ze3 ⟨_, _, _, rfl, rfl, I9⟩)
        case ze1 => walk_at "mine sub"
        case ze2 => walk_at "mine sub"
        case ze3 =>
          refine List.forall_mem_cons.mpr ⟨fun q hq => ne1_all me9 q (kst_sub9 ?zs9 q hq), List.forall_mem_nil _⟩
          case zs9 => walk_at "mine sub"
      ·
        k_dflt (refine' use_L (number_plain_walk hW hW2 hb hb2 hds (hv.up (by omega)) hws) ?zB ?zF ?zX ?zN ?zT ?zk ?zs ?zd ?zu ?_)
        ((case zB => k_asm); (case zF => k_asm); (case zX => k_asm); (case zN => k_asm); (case zT => k_asm); (case zk => first | exact rfl | assumption); (case zs => walk_at "mine sub"); (case zd => first | ((try dsimp only); exact room1 (by assumption) (by first | decide | exact Nat.le_refl _ | exact Nat.le_trans (by decide) (Nat.le_add_right _ _) | omega)) | (dsimp only; omega) | (simp only [depth_deeper]; omega)); (case zu => first | ((try dsimp only); exact room3 (by assumption) (by first | decide | exact Nat.le_refl _ | exact Nat.le_trans (by decide) (Nat.le_add_right _ _) | omega)) | (dsimp only; omega) | (simp only [units_deeper]; omega)))
        intro b5 vs5 n5 h5 tk5 F5 N5 me5 I5
        ((repeat' (((fail_if_success (with_reducible show wpAny _ _ (exec (PySem.Stmt.While _ _ _ _) _) _ _ _)); (fail_if_success (with_reducible show wpAny _ _ (pyIter _) _ _ _)); (fail_if_success (with_reducible show wpAny _ _ (eval (PySem.Expr.ListComp _ _ _ _) _) _ _ _)); (fail_if_success (with_reducible show LCg.CompSrc _ _ _ _ _ _ _ _ _ _ _ _ _ _)); (fail_if_success (with_reducible show wpAny _ _ (call (Value.ref _) _ _) _ _ _)); (first | ((with_reducible show wpAny _ _ (exec (PySem.Stmt.For _ _ _ _ _) _) _ _ _); (rename Fr _ _ _ _ => zF'); (with_unfolding_all refine' For_invVF zF' ?zk1 ?zk2 ?_; (case zk1 => exact rfl); (case zk2 => exact rfl); k_whole)) | (k_unfold; (try dsimp only)) | (k_end; wrow_close) | walk1 | (dsimp only; walk1) | (leave1; walk_say "STEP leave1"; try dsimp only) | (dsimp only; k_unfold; (try dsimp only)) | fail "no step")))); (all_goals (try (rename Fr _ _ _ _ => zF'; dsimp only at zF'))); (all_goals (try dsimp only)))
        k_dflt (refine' endM_of (tl := [(_, _)]) (by k_asm) (by k_asm) ?ze1 ?ze2 ?ze3 ⟨_, _, _, rfl, rfl, I5⟩)
        case ze1 => walk_at "mine sub"
        case ze2 => walk_at "mine sub"
        case ze3 => exact List.forall_mem_cons.mpr ⟨ne1_all me5, List.forall_mem_nil _⟩
      ·
        k_dflt (refine' use_L (number_plain_walk hW hW2 hb hb2 hds (hv.up (by omega)) hws) ?zB ?zF ?zX ?zN ?zT ?zk ?zs ?zd ?zu ?_)
        ((case zB => k_asm); (case zF => k_asm); (case zX => k_asm); (case zN => k_asm); (case zT => k_asm); (case zk => first | exact rfl | assumption); (case zs => walk_at "mine sub"); (case zd => first | ((try dsimp only); exact room1 (by assumption) (by first | decide | exact Nat.le_refl _ | exact Nat.le_trans (by decide) (Nat.le_add_right _ _) | omega)) | (dsimp only; omega) | (simp only [depth_deeper]; omega)); (case zu => first | ((try dsimp only); exact room3 (by assumption) (by first | decide | exact Nat.le_refl _ | exact Nat.le_trans (by decide) (Nat.le_add_right _ _) | omega)) | (dsimp only; omega) | (simp only [units_deeper]; omega)))
        intro b5 vs5 n5 h5 tk5 F5 N5 me5 I5
        ((repeat' (((fail_if_success (with_reducible show wpAny _ _ (exec (PySem.Stmt.While _ _ _ _) _) _ _ _)); (fail_if_success (with_reducible show wpAny _ _ (pyIter _) _ _ _)); (fail_if_success (with_reducible show wpAny _ _ (eval (PySem.Expr.ListComp _ _ _ _) _) _ _ _)); (fail_if_success (with_reducible show LCg.CompSrc _ _ _ _ _ _ _ _ _ _ _ _ _ _)); (fail_if_success (with_reducible show wpAny _ _ (call (Value.ref _) _ _) _ _ _)); (first | ((with_reducible show wpAny _ _ (exec (PySem.Stmt.For _ _ _ _ _) _) _ _ _); (rename Fr _ _ _ _ => zF'); (with_unfolding_all refine' For_invVF zF' ?zk1 ?zk2 ?_; (case zk1 => exact rfl); (case zk2 => exact rfl); k_whole)) | (k_unfold; (try dsimp only)) | (k_end; wrow_close) | walk1 | (dsimp only; walk1) | (leave1; walk_say "STEP leave1"; try dsimp only) | (dsimp only; k_unfold; (try dsimp only)) | fail "no step")))); (all_goals (try (rename Fr _ _ _ _ => zF'; dsimp only at zF'))); (all_goals (try dsimp only)))
        k_dflt (refine' endM_of (tl := [(_, _)]) (by k_asm) (by k_asm) ?ze1 ?ze2 ?ze3 ⟨_, _, _, rfl, rfl, I5⟩)
        case ze1 => walk_at "mine sub"
        case ze2 => walk_at "mine sub"
        case ze3 => exact List.forall_mem_cons.mpr ⟨ne1_all me5, List.forall_mem_nil _⟩


end
section
example : True := by
  w_top off
  trivial
/-- the call turns its list's ints: the ledger's addresses stay, their contents change -/
noncomputable def EndB (s : Shared) (g : Heap) (L' : Addr) (led : List (Addr × Obj)) (Out : List (Addr × Obj) → Value → Prop) (v : Value) (s' : Shared) : Prop :=
  ∃ h' tk m' news' led', s' = { s with heap := h', toks := tk } ∧ Fr g L' h' m' ∧ News g L' h' news' ∧ (∀ p ∈ led', p ∈ news') ∧ led'.map (·.1) = led.map (·.1) ∧ Out led' v
theorem endB_of {s : Shared} {g : Heap} {L' : Addr} {led led' news' : List (Addr × Obj)} {Out : List (Addr × Obj) → Value → Prop} {v : Value} {h' : Heap} {tk : Nat} {m' : Str → Option Value}
    (F : Fr g L' h' m') (N : News g L' h' news') (hn : ∀ p ∈ led', p ∈ news') (ha : led'.map (·.1) = led.map (·.1)) (out : Out led' v) : EndB s g L' led Out v { s with heap := h', toks := tk } :=
  ⟨h', tk, m', news', led', rfl, F, N, hn, ha, out⟩
noncomputable def DoesB (w : World) (mean : ExcName → Option Value) (mg mb : Str → Option Value) (f : Addr) (dn un : Nat) (vs : List Value) (led : List (Addr × Obj)) (Out : List (Addr × Obj) → Value → Prop) : Prop :=
  ∀ (dp u : Nat) (gd : Option (List Code)) (cn : Str) (cs : Scope) (L a : Addr) (ccd : Value) (cl : List (Str × Addr)) (outer : List Env) (A₀ : Around) (base h₀ : Heap) (m : Str → Option Value) (s : Shared) (Q E : Value → Shared → Prop),
    Below A₀ base outer h₀ → Fr h₀ L s.heap m → (hd.heap_39 w.params).In h₀ → News h₀ L s.heap led → Top hd.view_39 (looseW hd.view_39 []) mean mg mb h₀ → cs.kind = .function → dp + dn < recursionLimit → u + un < cLine →
    (∀ r led' h' tk', (∀ b o, b ∉ led.map (·.1) → s.heap.get? b = some o → h'.get? b = some o) → (∀ p ∈ led', h'.get? p.1 = some p.2) → led'.map (·.1) = led.map (·.1) → Out led' r → Q r { s with heap := h', toks := tk' }) →
    wpAny (model PySem.Challenge.rw_pq0537_01.row.prog w) (ktrTop dp u gd cn cs L a ccd cl outer) (call (.ref f) vs) Q E s
theorem enterB {prog : Program} {w : World} {A₀ A : Around} {s : Shared} {K : Frag} {L : Addr} {h₀ base : Heap} {m mg mb : Str → Option Value} {news : List (Addr × Obj)} {p : Program} {loose : List Str} {mean : ExcName → Option Value} {env : Env} {outer : List Env} {Q E : Value → Shared → Prop} {name qual : Str} {params : Arguments} {body : List Stmt} {scope : Scope} {dV kV doc pm cdv ct oc : Value} {an od : Option Addr} {osl : Array (Option Value)} {f : Addr} {args : List Value} {binds : List (Str × Value)} {Out : List (Addr × Obj) → Value → Prop}
    (B : Below A₀ base outer h₀) (F : Fr h₀ L s.heap m) (X₀ : K.In h₀) (N : News h₀ L s.heap news) (T : Top p loose mean mg mb h₀) (hA : A.frames = some (env :: outer)) (hf : env.frame = some L) (hke : env.scope.kind = .function)
    (ho : K.lookup f = some ⟨oc, od, .func (fnOf name qual params body scope dV kV doc pm an cdv ct), osl⟩) (hcd : codeIn K cdv qual = true) (hroom : A.depth < recursionLimit)
    (hbind : BindsTo s (fnOf name qual params body scope dV kV doc pm an cdv ct) ⟨args, []⟩ binds) (hloc : ∀ y ∈ binds, scope.names.lookup y.1 = some .local)
    (ret : ∀ r led' h' tk', (∀ b o, b ∉ news.map (·.1) → s.heap.get? b = some o → h'.get? b = some o) → (∀ p ∈ led', h'.get? p.1 = some p.2) → led'.map (·.1) = news.map (·.1) → Out led' r → Q r { s with heap := h', toks := tk' })
    (h : ∀ g L' h₁, Fr g L' h₁ (fun y => binds.reverse.lookup y) → News g L' h₁ news → Below A base (env :: outer) g → K.In g → Top p loose mean mg mb g →
      wpAny (model prog w) (A.deeper (envOf qual scope L' f cdv)) (execs body (envOf qual scope L' f cdv))
        (fun fl s' => EndB s g L' news Out (match fl with | .ret v => v | _ => .none) s') (fun _ _ => False)
        { s with heap := h₁, toks := s.toks + binds.length })
    (hco : scope.isCoroutine = false) (hgen : scope.isGenerator = false) (hk : scope.kind = .function)
    (hcell : ∀ x ∈ scope.names, x.2 ≠ .cell) : wpAny (model prog w) A (call (.ref f) args) Q E s := by
  refine wpAny_call ?_
  obtain ⟨FG, BG, st, _⟩ := groundX (R := fun _ _ => True) B F N hA hf hke
  refine codeAny_call_def (fd := fnX name qual params body scope [] dV kV doc pm an cdv ct) (body := body) (binds := binds) hroom ((X₀.keeps F.keep) _ _ ho) rfl (T.nolimit.keeps F.keep) (codeRec_of (X₀.keeps F.keep) hcd) rfl hbind hcell hloc (fun h₁ hns hk₁ => ?_) hco hgen hk
  refine wpAny_mono (h (hideAll s.heap (news.map (·.1))) s.heap.objs.size h₁ ⟨hns, fun b o e => hk₁ b o (of_hideAll _ e), Nat.le_of_eq (hideAll_size _ _)⟩
    (fun p hp => ⟨hk₁ _ _ (N p hp).1, Nat.ne_of_lt (Heap.lt_size (N p hp).1), hideAll_none _ (List.mem_map_of_mem hp)⟩) BG (X₀.keeps (h' := hideAll s.heap (news.map (·.1))) fun b o e => st b o e) (T.keeps (h' := hideAll s.heap (news.map (·.1))) fun b o e => st b o e)) (fun fl s' hl => ?_) (fun _ _ y => y.elim)
  obtain ⟨h', tk, m', news', led', rfl, F', N', hn, ha, out⟩ := hl
  exact ret _ led' h' tk (fun b o hb e => F'.keep _ _ (hideAll_get _ e hb)) (fun p hp => (N' p (hn p hp)).1) ha out

/-- a dip gives an int below its bound and counts -/
noncomputable def OutDip (bar ca : Addr) (cs : List Value) (n2 : Nat) (c k M : Int) (led' : List (Addr × Obj)) (v : Value) : Prop :=
  ∃ t1 t2 t3 n d, led' = [(bar, listOf #[.ref ca, .int (c + 1) t1, .int k t2] n), (ca, listOf cs.toArray n2)] ∧ v = .int d t3 ∧ 0 ≤ d ∧ d < M
theorem dip_walk {w : World} {mean : ExcName → Option Value} {mg mb : Str → Option Value} {M c k : Int} {t1 t2 t3 : Tok} {bar ca : Addr} {cs : List Value} {zs : List Int} {n n2 : Nat} (hM : 0 < M) (hc : 0 ≤ c) (hc2 : c < 1000) (hk : 0 ≤ k) (hk2 : k < 29) (hz : zs.length ≤ 40) (hne : @Ne Nat bar ca) (hcs : IntsAre cs zs) :
    DoesB w mean mg mb 163 1 20 [.ref bar, .int M t3] [(bar, listOf #[.ref ca, .int c t1, .int k t2] n), (ca, listOf cs.toArray n2)] (OutDip bar ca cs n2 c k M) := by
  unfold DoesB
  k_fill
  intro dp u gd cn cs9 L a ccd cl outer A₀ base h₀ m s Q E B F X N T hk9 hd hu ret
  k_dflt (refine' enterB (binds := [(Str.ofString "barrel", .ref bar), (Str.ofString "many", .int M t3)]) ?k1 ?k2 ?k3 ?k4 ?k5 ?kA ?kF ?kK ?k6 ?k7 ?k8 ?k9 ?kB ?kR ?_ ?c2 ?c3 ?c4 ?c5; ((case kA => exact rfl); (case kF => exact rfl); (case kK => assumption); (case k1 => k_asm); (case k2 => k_asm); (case k3 => k_asm); (case k4 => k_asm); (case k5 => k_asm); (case kR => assumption); (case k6 => k_is); (case k7 => k_is); (case k8 => ((dsimp only); omega)); (case k9 => exact BindsTo.of_eq rfl); (case c5 => decide); (case kB => exact locs rfl); (case c2 => exact rfl); (case c3 => exact rfl); (case c4 => exact rfl); k_whole; intro g' L' h' F' N' B' X' T'; (try dsimp only); (try k_fold)))
  have hfm : ∀ x : Int, 0 ≤ x.fmod M ∧ x.fmod M < M := fun x => by
    rw [fmod_e (by omega)]; exact ⟨Int.emod_nonneg _ (by omega), Int.emod_lt_of_pos _ hM⟩
  ((repeat' (((fail_if_success (with_reducible show wpAny _ _ (exec (PySem.Stmt.While _ _ _ _) _) _ _ _)); (fail_if_success (with_reducible show wpAny _ _ (pyIter _) _ _ _)); (fail_if_success (with_reducible show wpAny _ _ (eval (PySem.Expr.ListComp _ _ _ _) _) _ _ _)); (fail_if_success (with_reducible show LCg.CompSrc _ _ _ _ _ _ _ _ _ _ _ _ _ _)); (fail_if_success (with_reducible show wpAny _ _ (call (Value.ref _) _ _) _ _ _)); (first | ((with_reducible show wpAny _ _ (exec (PySem.Stmt.For _ _ _ _ _) _) _ _ _); (rename Fr _ _ _ _ => zF'); (with_unfolding_all refine' For_invVF zF' ?zk1 ?zk2 ?_; (case zk1 => exact rfl); (case zk2 => exact rfl); k_whole)) | (k_unfold; (try dsimp only)) | (k_end; wrow_close) | walk1 | (dsimp only; walk1) | (leave1; walk_say "STEP leave1"; try dsimp only) | (dsimp only; k_unfold; (try dsimp only)) | fail "no step")))); (all_goals (try (rename Fr _ _ _ _ => zF'; dsimp only at zF'))); (all_goals (try dsimp only)))
  · rename News _ _ _ _ => N1
    k_dflt (refine' endB_of (led' := [(bar, listOf #[.ref ca, .int (c + 1) _, .int k t2] _), (ca, listOf cs.toArray n2)]) (by k_asm) N1 ?ze1 ?ze2 ⟨_, t2, _, _, _, rfl, rfl, (hfm _).1, (hfm _).2⟩)
    case ze1 => walk_at "mine sub"
    case ze2 => rfl
  · rename News _ _ _ _ => N1
    k_dflt (refine' endB_of (led' := [(bar, listOf #[.ref ca, .int (c + 1) _, .int k t2] _), (ca, listOf cs.toArray n2)]) (by k_asm) N1 ?ze1 ?ze2 ⟨_, t2, _, _, _, rfl, rfl, (hfm _).1, (hfm _).2⟩)
    case ze1 => walk_at "mine sub"
    case ze2 => rfl

theorem use_dip {w : World} {mean : ExcName → Option Value} {mg mb : Str → Option Value} {M c k : Int} {t1 t2 t3 : Tok} {bar ca : Addr} {cs9 : List Value} {zs : List Int} {n n2 : Nat} {rest : List (Addr × Obj)}
    {dp u : Nat} {gd : Option (List Code)} {cn : Str} {cs : Scope} {L a : Addr} {ccd : Value} {cl : List (Str × Addr)} {outer : List Env} {A₀ : Around} {base h₀ : Heap} {m : Str → Option Value} {s : Shared} {Q E : Value → Shared → Prop}
    (hM : 0 < M) (hc : 0 ≤ c) (hc2 : c < 1000) (hk : 0 ≤ k) (hk2 : k < 29) (hz : zs.length ≤ 40) (hne : @Ne Nat bar ca) (hcs : IntsAre cs9 zs) (hr1 : Ne1 bar rest) (hr2 : Ne1 ca rest)
    (B : Below A₀ base outer h₀) (F : Fr h₀ L s.heap m) (X : (hd.heap_39 w.params).In h₀) (N : News h₀ L s.heap ((bar, listOf #[.ref ca, .int c t1, .int k t2] n) :: (ca, listOf cs9.toArray n2) :: rest)) (T : Top hd.view_39 (looseW hd.view_39 []) mean mg mb h₀) (hk9 : cs.kind = .function)
    (hd : dp + 1 < recursionLimit) (hu : u + 20 < cLine)
    (ret : ∀ d td t1' t2' n' h' tk', 0 ≤ d → d < M → Fr h₀ L h' m → News h₀ L h' ((bar, listOf #[.ref ca, .int (c + 1) t1', .int k t2'] n') :: (ca, listOf cs9.toArray n2) :: rest) → Q (.int d td) { s with heap := h', toks := tk' }) :
    wpAny (model PySem.Challenge.rw_pq0537_01.row.prog w) (ktrTop dp u gd cn cs L a ccd cl outer) (call (.ref 163) [.ref bar, .int M t3]) Q E s := by
  refine dip_walk (k := k) (c := c) hM hc hc2 hk hk2 hz hne hcs _ _ _ _ _ _ _ _ _ _ _ _ _ _ _ _ _ B F X (fun p hp => N p (by
    rcases List.mem_cons.mp hp with rfl | hp
    · exact .head _
    · rw [List.mem_singleton.mp hp]; exact .tail _ (.head _))) T hk9 hd hu ?_
  rintro r led' h' tk' keep hl _ ⟨t1', t2', t3', n', d, rfl, rfl, d0, d1⟩
  have NB := N _ (.head _)
  have NC := N _ (.tail _ (.head _))
  have hold : ∀ b, h₀.get? b = none → True := fun _ _ => trivial
  refine ret d t3' t1' t2' n' h' tk' d0 d1 ?_ ?_
  · obtain ⟨oL, es, ep, hL, hLd, hLk, hLf⟩ := F.ns
    refine ⟨⟨oL, es, ep, keep _ _ ?_ hL, hLd, hLk, hLf⟩, fun b o e => keep _ _ ?_ (F.keep b o e), F.above⟩
    · intro q
      simp only [List.map_cons, List.map_nil, List.mem_cons, List.not_mem_nil, or_false] at q
      rcases q with q | q
      · exact NB.2.1 q.symm
      · exact NC.2.1 q.symm
    · intro q
      simp only [List.map_cons, List.map_nil, List.mem_cons, List.not_mem_nil, or_false] at q
      rcases q with q | q
      · have := NB.2.2; rw [← q, e] at this; cases this
      · have := NC.2.2; rw [← q, e] at this; cases this
  · intro p hp
    rcases List.mem_cons.mp hp with rfl | hp
    · exact ⟨hl _ (.head _), NB.2⟩
    · rcases List.mem_cons.mp hp with rfl | hp
      · exact ⟨hl _ (.tail _ (.head _)), NC.2⟩
      · have NP := N p (.tail _ (.tail _ hp))
        refine ⟨keep _ _ ?_ NP.1, NP.2⟩
        intro q
        simp only [List.map_cons, List.map_nil, List.mem_cons, List.not_mem_nil, or_false] at q
        rcases q with q | q
        · exact ne1_all hr1 p hp q
        · exact ne1_all hr2 p hp q


end
section
example : True := by
  w_top off
  trivial
theorem enterMC {prog : Program} {w : World} {A₀ A : Around} {s : Shared} {K : Frag} {L : Addr} {h₀ base : Heap} {m mg mb : Str → Option Value} {news : List (Addr × Obj)} {p : Program} {loose : List Str} {mean : ExcName → Option Value} {env : Env} {outer : List Env} {Q E : Value → Shared → Prop} {name qual : Str} {params : Arguments} {body : List Stmt} {scope : Scope} {dV kV doc pm cdv ct oc : Value} {an od : Option Addr} {osl : Array (Option Value)} {f : Addr} {args : List Value} {binds : List (Str × Value)} {Out : List (Addr × Obj) → Value → Prop}
    (B : Below A₀ base outer h₀) (F : Fr h₀ L s.heap m) (X₀ : K.In h₀) (N : News h₀ L s.heap news) (T : Top p loose mean mg mb h₀) (hA : A.frames = some (env :: outer)) (hf : env.frame = some L) (hke : env.scope.kind = .function)
    (ho : K.lookup f = some ⟨oc, od, .func (fnOf name qual params body scope dV kV doc pm an cdv ct), osl⟩) (hcd : codeIn K cdv qual = true) (hroom : A.depth < recursionLimit)
    (hbind : BindsTo s (fnOf name qual params body scope dV kV doc pm an cdv ct) ⟨args, []⟩ binds)
    (hkind : (binds.all fun y => scope.names.lookup y.1 == some .local || scope.names.lookup y.1 == some .cell) = true)
    (hnd : ((cellsFrom 0 scope.names []).map (·.1)).Nodup)
    (ret : ∀ r tl h' tk', (∀ b o, s.heap.get? b = some o → h'.get? b = some o) → (∀ p ∈ tl, h'.get? p.1 = some p.2 ∧ s.heap.get? p.1 = none) → Out tl r → Q r { s with heap := h', toks := tk' })
    (h : ∀ g L' h₁ tk cells, Fr g L' h₁ (bindL (envOfC qual scope L' f cdv).kindOf binds fun _ => none) → News g L' h₁ (cells ++ news) →
      CellsAre (bindC (envOfC qual scope L' f cdv).kindOf binds fun _ => none) (cellsFrom (L' + 1) scope.names []) cells → Below A base (env :: outer) g → K.In g → Top p loose mean mg mb g → (∀ p ∈ news, p.1 < L') →
      wpAny (model prog w) (A.deeper (envOfC qual scope L' f cdv)) (execs body (envOfC qual scope L' f cdv))
        (fun fl s' => EndM s g L' news Out (match fl with | .ret v => v | _ => .none) s') (fun _ _ => False)
        { s with heap := h₁, toks := tk })
    (hco : scope.isCoroutine = false) (hgen : scope.isGenerator = false) (hk : scope.kind = .function) : wpAny (model prog w) A (call (.ref f) args) Q E s := by
  refine wpAny_call ?_
  obtain ⟨FG, BG, st, _⟩ := groundX (R := fun _ _ => True) B F N hA hf hke
  refine codeAny_call_function hroom ((X₀.keeps F.keep) _ _ ho) rfl hco hgen rfl (codeRec_of (X₀.keeps F.keep) hcd) (hbind _ _ _ _ ?_)
  refine wpAny_newFunctionEnv_cells hk (kindsX hkind _) fun env' he s' x => ?_
  subst he
  refine ⟨(T.nolimit.keeps F.keep).keeps x.toInCall.keep, codeAny_func ?_⟩
  obtain ⟨h₁, tk, rfl, _⟩ := x.done
  have hk₁ := x.toInCall.keep
  obtain ⟨cells, NC, Y⟩ := Cl.news (h₀ := s.heap) (Nat.le_refl _) fun n c hm => ⟨x.cell n c (lookup_of_mem_nodup (cellsFrom_names scope.names 0 (s.heap.objs.size + 1) [] [] rfl ▸ hnd) hm), x.above n c hm⟩
  refine wpAny_mono (h (hideAll s.heap (news.map (·.1))) s.heap.objs.size h₁ tk cells ⟨x.toInCall.ns, fun b o e => hk₁ b o (of_hideAll _ e), Nat.le_of_eq (hideAll_size _ _)⟩ (fun p hp => ?_) Y BG
    (X₀.keeps (h' := hideAll s.heap (news.map (·.1))) fun b o e => st b o e) (T.keeps (h' := hideAll s.heap (news.map (·.1))) fun b o e => st b o e) (fun p hp => Heap.lt_size (N p hp).1)) (fun fl s' hl => ?_) (fun _ _ y => y.elim)
  · rcases List.mem_append.mp hp with hp | hp
    · refine ⟨(NC p hp).1, (NC p hp).2.1, ?_⟩
      cases q : (hideAll s.heap (news.map (·.1))).get? p.1 with
      | none => rfl
      | some o => have := of_hideAll _ q; rw [(NC p hp).2.2] at this; cases this
    · exact ⟨hk₁ _ _ (N p hp).1, Nat.ne_of_lt (Heap.lt_size (N p hp).1), hideAll_none _ (List.mem_map_of_mem hp)⟩
  · obtain ⟨h', tk', m', news', tl, rfl, F', N', hn, ht, ho', out⟩ := hl
    refine ret _ tl h' tk' (fun b o e => ?_) (fun p hp => ⟨(N' p (ht p hp)).1, of_hideAll_none _ (N' p (ht p hp)).2.2 fun q => ?_⟩) out
    · by_cases hb : b ∈ news.map (·.1)
      · obtain ⟨q, hq, rfl⟩ := List.mem_map.mp hb
        rw [(N q hq).1] at e
        cases e
        exact (N' q (hn q hq)).1
      · exact F'.keep _ _ (hideAll_get _ e hb)
    · obtain ⟨q, hq, e⟩ := List.mem_map.mp q
      exact ho' p hp q hq e


section
variable {prog : Program} {w : World} {A : Around} {E : Value → Shared → Prop} {s : Shared} {h₀ : Heap} {L C c : Addr} {m : Str → Option Value} {news : List (Addr × Obj)} {Q : Value → Shared → Prop} {scope : Scope} {cl : List (Str × Addr)} {env : Env} {x : Str} {pos : Pos} {v : Value} {o : Obj}
theorem ld_free {M : Model} (N : News h₀ L s.heap news) (hc : cl.lookup x = some c) (hm : (c, o) ∈ news) (hd : o.data = .cell (some v)) (h : Q v s)
    (hk : (compEnvC scope cl C env).scope.kind = .function) (hx : (compEnvC scope cl C env).kindOf x = some .free) (hb : (x == ("__debug__" : Str)) = false) (hn : (x == ("__classdict__" : Str)) = false) :
    wpAny M A (eval (.Name x pos) (compEnvC scope cl C env)) Q E s := wpAny_Name (wpAny_loadName_free hk hx hc ⟨o, N.get hm, hd⟩ h hn) hb
end

example : True := by
  (k_with "binaryOp Pow int int" => (refine pow_int_small (by assumption) (by assumption) (by omega) ?_))
  trivial
example : True := by
  (k_with "eval Name" => ((with_reducible show wpAny _ _ (eval (Expr.Name _ _) (compEnvC _ _ _ _)) _ _ _); first | (refine ld_free (by assumption) (by exact rfl) (by k_mem) (by assumption) ?_ (by exact rfl) (by exact rfl) (by exact rfl) (by exact rfl)) | (refine LCgL.ld_own (by assumption) (by k_mem) (by assumption) (by assumption) ?_) | (refine LCgL.ld_global (by k_asm) (by k_asm) (by k_asm) (by k_is) ?_) | (refine LCgL.ld_built (by k_asm) (by k_asm) (by k_asm) (by k_is) (by boot_by_name) (by decide) ?_)))
  trivial
section
variable {prog : Program} {w : World} {A : Around} {s : Shared} {h₀ : Heap} {L : Addr} {m : Str → Option Value} {env : Env}
theorem comp_ind {elt : Expr} {x : Str} {scope : Scope} {cl : List (Str × Addr)} {S : List (Addr × Obj) → Prop} {P : Nat → Value → Prop} {Fin : List Value → List (Addr × Obj) → Prop} {n : Nat} {news : List (Addr × Obj)} (St : Nat → List Value → List (Addr × Obj) → Prop)
    (h0 : St 0 [] news) (hf : ∀ ys nw, St n ys nw → Fin ys nw)
    (hs : ∀ i ys nw v I oI C oC D m₂ h tk (E' : Value → Shared → Prop), i < n → St i ys nw → P i v → LCg.NsObj oC m₂ → m₂ x = some v → Fr h₀ L h m → News h₀ L h ((I, oI) :: (C, oC) :: (D, LCg.lst ys) :: nw) → LCg.Off3 I C D nw → ((@Ne Nat I C) ∧ (@Ne Nat I D) ∧ (@Ne Nat C D)) →
      wpAny (model prog w) A (eval elt (compEnvC scope cl C env)) (LCg.CompEnd h₀ L m { s with heap := h, toks := tk } I oI C oC D (LCg.lst ys) S (fun y nw' => St (i + 1) (ys ++ [y]) nw')) E' { s with heap := h, toks := tk }) :
    LCg.CompRest prog w A h₀ L m env elt x scope cl s S P Fin n 0 [] news := by
  have key : ∀ j i ys nw, i + j = n → St i ys nw → LCg.CompRest prog w A h₀ L m env elt x scope cl s S P Fin j i ys nw := by
    intro j
    induction j with
    | zero => intro i ys nw e h; exact LCg.CompRest.zero (hf ys nw (by rw [← e]; exact h))
    | succ j ih =>
      intro i ys nw e h
      refine LCg.CompRest.succ fun v I oI C oC D m₂ h' tk E' hP hC hx F N off ne => ?_
      refine wpAny_mono (hs i ys nw v I oI C oC D m₂ h' tk E' (by omega) h hP hC hx F N off ne) (fun y s₂ r => ?_) fun _ _ r => r
      obtain ⟨h'', tk'', nw', e1, F', N', o', S', r'⟩ := r
      exact ⟨h'', tk'', nw', e1, F', N', o', S', ih _ _ _ (by omega) r'⟩
  exact key n 0 [] news (Nat.zero_add n) h0
end

theorem val_lim {b : Int} (hb : 1 < b) : ∀ n, 0 ≤ n → valB b (limZ b n).reverse = n := by
  refine lim_ind hb ?_ ?_
  · rw [limZ_neg (by omega)]; rfl
  · intro n hn ih
    rw [limZ_pos hn hb, List.reverse_cons, val_append, ih]
    show n / b * b ^ 1 + (0 * b + n % b) = n
    rw [Int.pow_succ, Int.pow_zero, Int.one_mul, Int.zero_mul, Int.zero_add, Int.mul_comm]
    exact Int.mul_ediv_add_emod n b
theorem val_zeros {b : Int} (xs : List Int) : ∀ k, valB b (List.replicate k 0 ++ xs) = valB b xs
  | 0 => rfl
  | k + 1 => by
    have h := val_zeros (b := b) xs k
    rw [List.replicate_succ, List.cons_append]
    unfold valB at h ⊢
    rw [List.foldl_cons, Int.zero_mul, Int.zero_add]
    exact h
theorem rep_flat : ∀ k : Nat, (List.replicate k [(0 : Int)]).flatten = List.replicate k 0
  | 0 => rfl
  | k + 1 => by rw [List.replicate_succ, List.replicate_succ, List.flatten_cons, rep_flat k]; rfl
theorem off1_mem {D : Addr} : ∀ {l : List (Addr × Obj)}, LCg.Off1 D l → ∀ p ∈ l, p.1 ≠ D
  | [], _ => List.forall_mem_nil _
  | _ :: _, h => List.forall_mem_cons.mpr ⟨h.1, off1_mem h.2⟩
theorem right_walk {w : World} {mean : ExcName → Option Value} {mg mb : Str → Option Value} {W n b Ls : Int} {k : Nat} {t1 t2 t3 t4 t5 : Tok} (hW : 1 ≤ W) (hW2 : W ≤ 8) (hb : 2 ≤ b) (hb2 : b ≤ 20) (hn : 0 ≤ n) (hn2 : LtP n 100) (hk : k ≤ 12) (hpw : ∀ j, j < k → LtP (b ^ (2 ^ j)) 1000) :
    Does w mean mg mb 203 200 3000 [.int n t1, .int b t2, .int W t3, .int (k : Int) t4, .int Ls t5] [] (OutB true) := by
  unfold Does
  k_fill
  intro dp u gd cn cs L a ccd cl outer A₀ base h₀ m s Q E B F X N T hk9 hd hu ret
  k_dflt (refine' enterMC (binds := [(Str.ofString "n", .int n t1), (Str.ofString "base", .int b t2), (Str.ofString "w", .int W t3), (Str.ofString "many", .int (k : Int) t4), (Str.ofString "least", .int Ls t5)]) ?k1 ?k2 ?k3 ?k4 ?k5 ?kA ?kF ?kK ?k6 ?k7 ?k8 ?k9 ?kB ?kD ?kR ?_ ?c2 ?c3 ?c4; ((case kA => exact rfl); (case kF => exact rfl); (case kK => assumption); (case k1 => k_asm); (case k2 => k_asm); (case k3 => k_asm); (case k4 => k_asm); (case k5 => k_asm); (case kR => assumption); (case k6 => k_is); (case k7 => k_is); (case k8 => ((dsimp only); omega)); (case k9 => exact BindsTo.of_eq rfl); (case kB => exact rfl); (case kD => decide +kernel); (case c2 => exact rfl); (case c3 => exact rfl); (case c4 => exact rfl); k_whole))
  intro g' L' h' tk' cells F0 N0 Y B0 X0 T0 l1
  obtain ⟨oW, oB, rfl, dW, dB⟩ := CellsAre.two Y
  have dW : oW.data = .cell (some (.int W t3)) := by with_unfolding_all exact dW
  have dB : oB.data = .cell (some (.int b t2)) := by with_unfolding_all exact dB
  simp only [List.cons_append, List.nil_append] at N0
  clear Y l1
  (try dsimp only)
  (try k_fold)
  have hB := pow2_gt hW
  ((repeat' (((fail_if_success (with_reducible show wpAny _ _ (exec (PySem.Stmt.While _ _ _ _) _) _ _ _)); (fail_if_success (with_reducible show wpAny _ _ (pyIter _) _ _ _)); (fail_if_success (with_reducible show wpAny _ _ (eval (PySem.Expr.ListComp _ _ _ _) _) _ _ _)); (fail_if_success (with_reducible show LCg.CompSrc _ _ _ _ _ _ _ _ _ _ _ _ _ _)); (fail_if_success (with_reducible show wpAny _ _ (call (Value.ref _) _ _) _ _ _)); (first | ((with_reducible show wpAny _ _ (exec (PySem.Stmt.For _ _ _ _ _) _) _ _ _); (rename Fr _ _ _ _ => zF'); (with_unfolding_all refine' For_invVF zF' ?zk1 ?zk2 ?_; (case zk1 => exact rfl); (case zk2 => exact rfl); k_whole)) | (k_unfold; (try dsimp only)) | (k_end; wrow_close) | walk1 | (dsimp only; walk1) | (leave1; walk_say "STEP leave1"; try dsimp only) | (dsimp only; k_unfold; (try dsimp only)) | fail "no step")))); (all_goals (try (rename Fr _ _ _ _ => zF'; dsimp only at zF'))); (all_goals (try dsimp only)))
  rename Fr _ _ _ _ => F1
  k_dflt (refine' LCg.ListComp_U F1 (cl := [(Str.ofString "w", L' + 1 + 1), (Str.ofString "base", L' + 1)]) ?xc ?xd ?xe ?xf ?xg ?_ ?xh)
  case xc => exact rfl
  case xd => decide
  case xe => exact rfl
  case xf => decide
  case xg => exact rfl
  case xh => intro _; exact rfl
  ((repeat' (((fail_if_success (with_reducible show wpAny _ _ (exec (PySem.Stmt.While _ _ _ _) _) _ _ _)); (fail_if_success (with_reducible show wpAny _ _ (pyIter _) _ _ _)); (fail_if_success (with_reducible show wpAny _ _ (eval (PySem.Expr.ListComp _ _ _ _) _) _ _ _)); (fail_if_success (with_reducible show LCg.CompSrc _ _ _ _ _ _ _ _ _ _ _ _ _ _)); (fail_if_success (with_reducible show wpAny _ _ (call (Value.ref _) _ _) _ _ _)); (first | ((with_reducible show wpAny _ _ (exec (PySem.Stmt.For _ _ _ _ _) _) _ _ _); (rename Fr _ _ _ _ => zF'); (with_unfolding_all refine' For_invVF zF' ?zk1 ?zk2 ?_; (case zk1 => exact rfl); (case zk2 => exact rfl); k_whole)) | (k_unfold; (try dsimp only)) | (k_end; wrow_close) | walk1 | (dsimp only; walk1) | (leave1; walk_say "STEP leave1"; try dsimp only) | (dsimp only; k_unfold; (try dsimp only)) | fail "no step")))); (all_goals (try (rename Fr _ _ _ _ => zF'; dsimp only at zF'))); (all_goals (try dsimp only)))
  refine LCg.CompSrc.range rfl (by k_asm) (by k_asm) (by assumption) (small_one (by omega) (by omega) (by omega) (by omega)) (n := k) ?_ ?_ (fun g => ?_)
  · rw [rangeSize_nat]; congr 1
  · rw [sizeLine_eq]; omega
  refine comp_ind (fun i ys nw => ∃ ps, ys = refsOf ps ∧ nw = (L' + 1 + 1, oW) :: (L' + 1, oB) :: ps ∧ Rows ps (pws (2 ^ W.toNat) b i)) ⟨[], rfl, rfl, .nil⟩ ?fin ?step
  case step =>
    rintro i ys nw v I oI C oC D m₂ h tk E' hi ⟨ps, rfl, rfl, hR⟩ ⟨t, rfl⟩ hC hx F2 N2 off ⟨ne1, ne2, ne3⟩
    have l1 : LtP 1 2000 := (LtP.small (n := 1) (by omega)).up (by omega)
    have e0 : (0 + (i : Int)).toNat = i := by omega
    have e1 : ((1 : Int) * 2 ^ (0 + (i : Int)).toNat) = ((2 ^ i : Nat) : Int) := by rw [e0, Int.one_mul]; push_cast; rfl
    have h2i : 2 ^ i ≤ 2 ^ 12 := Nat.pow_le_pow_right (by omega) (by omega)
    have p1 : (0 : Int) ≤ 1 * 2 ^ (0 + (i : Int)).toNat := by rw [e1]; exact Int.natCast_nonneg _
    have p2 : (1 : Int) * 2 ^ (0 + (i : Int)).toNat ≤ 1000000 := by rw [e1]; exact Int.ofNat_le.mpr (Nat.le_trans h2i (by decide))
    have e2 : b ^ ((1 : Int) * 2 ^ (0 + (i : Int)).toNat).toNat = b ^ (2 ^ i) := by rw [e1, Int.toNat_natCast]
    have hb0 : 0 ≤ b ^ (2 ^ i) := Int.le_of_lt (Int.pow_pos (by omega))
    ((repeat' (((fail_if_success (with_reducible show wpAny _ _ (exec (PySem.Stmt.While _ _ _ _) _) _ _ _)); (fail_if_success (with_reducible show wpAny _ _ (pyIter _) _ _ _)); (fail_if_success (with_reducible show wpAny _ _ (eval (PySem.Expr.ListComp _ _ _ _) _) _ _ _)); (fail_if_success (with_reducible show LCg.CompSrc _ _ _ _ _ _ _ _ _ _ _ _ _ _)); (fail_if_success (with_reducible show wpAny _ _ (call (Value.ref _) _ _) _ _ _)); (first | ((with_reducible show wpAny _ _ (exec (PySem.Stmt.For _ _ _ _ _) _) _ _ _); (rename Fr _ _ _ _ => zF'); (with_unfolding_all refine' For_invVF zF' ?zk1 ?zk2 ?_; (case zk1 => exact rfl); (case zk2 => exact rfl); k_whole)) | (k_unfold; (try dsimp only)) | (k_end; wrow_close) | walk1 | (dsimp only; walk1) | (leave1; walk_say "STEP leave1"; try dsimp only) | (dsimp only; k_unfold; (try dsimp only)) | fail "no step")))); (all_goals (try (rename Fr _ _ _ _ => zF'; dsimp only at zF'))); (all_goals (try dsimp only)))
    rw [e2]
    k_dflt (refine' use_L (law_limbs_does hW hW2 hb0 (hpw i hi)) ?zB ?zF ?zX ?zN ?zT ?zk ?zs ?zd ?zu ?_)
    ((case zB => k_asm); (case zF => k_asm); (case zX => k_asm); (case zN => k_asm); (case zT => k_asm); (case zk => first | exact rfl | assumption); (case zs => walk_at "mine sub"); (case zd => first | ((try dsimp only); exact room1 (by assumption) (by first | decide | exact Nat.le_refl _ | exact Nat.le_trans (by decide) (Nat.le_add_right _ _) | omega)) | (dsimp only; omega) | (simp only [depth_deeper]; omega)); (case zu => first | ((try dsimp only); exact room3 (by assumption) (by first | decide | exact Nat.le_refl _ | exact Nat.le_trans (by decide) (Nat.le_add_right _ _) | omega)) | (dsimp only; omega) | (simp only [units_deeper]; omega)))
    intro b5 vs5 n5 h5 tk5 F5 N5 me5 I5
    k_unfold
    simp only [Ne1] at me5
    obtain ⟨m1, m2, m3, m4, m5, me5⟩ := me5
    refine LCg.CompEnd.intro F5 N5 ((L' + 1 + 1, oW) :: (L' + 1, oB) :: (ps ++ [(b5, listOf vs5.toArray n5)])) ?sub ?off trivial ⟨ps ++ [(b5, listOf vs5.toArray n5)], by simp, rfl, ?_⟩
    case sub =>
      intro p hp
      simp only [List.mem_cons, List.mem_append, List.not_mem_nil, or_false] at hp ⊢
      rcases hp with h | h | h | h | h | h | h <;> simp [h]
    case off =>
      refine LCg.Off3.of ?_
      have o' := off.mem
      intro p hp
      simp only [List.mem_cons, List.mem_append, List.not_mem_nil, or_false] at hp
      rcases hp with h | h | h | h
      · exact o' p (by simp [h])
      · exact o' p (by simp [h])
      · exact o' p (by simp [h])
      · subst h; exact ⟨Ne.symm m1, Ne.symm m2, Ne.symm m3⟩
    · rw [pws_succ]; exact hR.snoc I5
  case fin =>
    rintro ys nw ⟨ps, rfl, rfl, hR⟩
    intro D h tk F2 N2 off
    have N2 : News g' L' h ((D, listOf (refsOf ps).toArray (refsOf ps).length) :: (L' + 1 + 1, oW) :: (L' + 1, oB) :: ps) := N2
    have offm := off
    simp only [LCg.Off1] at offm
    obtain ⟨o1, o2, off⟩ := offm
    have offm := off1_mem off
    clear off o1 o2
    ((repeat' (((fail_if_success (with_reducible show wpAny _ _ (exec (PySem.Stmt.While _ _ _ _) _) _ _ _)); (fail_if_success (with_reducible show wpAny _ _ (pyIter _) _ _ _)); (fail_if_success (with_reducible show wpAny _ _ (eval (PySem.Expr.ListComp _ _ _ _) _) _ _ _)); (fail_if_success (with_reducible show LCg.CompSrc _ _ _ _ _ _ _ _ _ _ _ _ _ _)); (fail_if_success (with_reducible show wpAny _ _ (call (Value.ref _) _ _) _ _ _)); (first | ((with_reducible show wpAny _ _ (exec (PySem.Stmt.For _ _ _ _ _) _) _ _ _); (rename Fr _ _ _ _ => zF'); (with_unfolding_all refine' For_invVF zF' ?zk1 ?zk2 ?_; (case zk1 => exact rfl); (case zk2 => exact rfl); k_whole)) | (k_unfold; (try dsimp only)) | (k_end; wrow_close) | walk1 | (dsimp only; walk1) | (leave1; walk_say "STEP leave1"; try dsimp only) | (dsimp only; k_unfold; (try dsimp only)) | fail "no step")))); (all_goals (try (rename Fr _ _ _ _ => zF'; dsimp only at zF'))); (all_goals (try dsimp only)))
    k_dflt (refine' use_L (digits_law_walk (by omega) (LtP.up (k := 1000) (LtP.small (by omega)) (by omega)) hn (hn2.up (by omega))) ?zB ?zF ?zX ?zN ?zT ?zk ?zs ?zd ?zu ?_)
    ((case zB => k_asm); (case zF => k_asm); (case zX => k_asm); (case zN => k_asm); (case zT => k_asm); (case zk => first | exact rfl | assumption); (case zs => walk_at "mine sub"); (case zd => first | ((try dsimp only); exact room1 (by assumption) (by first | decide | exact Nat.le_refl _ | exact Nat.le_trans (by decide) (Nat.le_add_right _ _) | omega)) | (dsimp only; omega) | (simp only [depth_deeper]; omega)); (case zu => first | ((try dsimp only); exact room3 (by assumption) (by first | decide | exact Nat.le_refl _ | exact Nat.le_trans (by decide) (Nat.le_add_right _ _) | omega)) | (dsimp only; omega) | (simp only [units_deeper]; omega)))
    intro b6 vs6 n6 h6 tk6 F6 N6 ne6 I6
    simp only [Ne1, and_true] at ne6
    ((repeat' (((fail_if_success (with_reducible show wpAny _ _ (exec (PySem.Stmt.While _ _ _ _) _) _ _ _)); (fail_if_success (with_reducible show wpAny _ _ (pyIter _) _ _ _)); (fail_if_success (with_reducible show wpAny _ _ (eval (PySem.Expr.ListComp _ _ _ _) _) _ _ _)); (fail_if_success (with_reducible show LCg.CompSrc _ _ _ _ _ _ _ _ _ _ _ _ _ _)); (fail_if_success (with_reducible show wpAny _ _ (call (Value.ref _) _ _) _ _ _)); (first | ((with_reducible show wpAny _ _ (exec (PySem.Stmt.For _ _ _ _ _) _) _ _ _); (rename Fr _ _ _ _ => zF'); (with_unfolding_all refine' For_invVF zF' ?zk1 ?zk2 ?_; (case zk1 => exact rfl); (case zk2 => exact rfl); k_whole)) | (k_unfold; (try dsimp only)) | (k_end; wrow_close) | walk1 | (dsimp only; walk1) | (leave1; walk_say "STEP leave1"; try dsimp only) | (dsimp only; k_unfold; (try dsimp only)) | fail "no step")))); (all_goals (try (rename Fr _ _ _ _ => zF'; dsimp only at zF'))); (all_goals (try dsimp only)))
    k_dflt (refine' use_L (law_limbs_does hW hW2 hn (hn2.up (by omega))) ?zB ?zF ?zX ?zN ?zT ?zk ?zs ?zd ?zu ?_)
    ((case zB => k_asm); (case zF => k_asm); (case zX => k_asm); (case zN => k_asm); (case zT => k_asm); (case zk => first | exact rfl | assumption); (case zs => walk_at "mine sub"); (case zd => first | ((try dsimp only); exact room1 (by assumption) (by first | decide | exact Nat.le_refl _ | exact Nat.le_trans (by decide) (Nat.le_add_right _ _) | omega)) | (dsimp only; omega) | (simp only [depth_deeper]; omega)); (case zu => first | ((try dsimp only); exact room3 (by assumption) (by first | decide | exact Nat.le_refl _ | exact Nat.le_trans (by decide) (Nat.le_add_right _ _) | omega)) | (dsimp only; omega) | (simp only [units_deeper]; omega)))
    intro b7 vs7 n7 h7 tk7 F7 N7 ne7 I7
    simp only [Ne1, and_true] at ne7
    ((repeat' (((fail_if_success (with_reducible show wpAny _ _ (exec (PySem.Stmt.While _ _ _ _) _) _ _ _)); (fail_if_success (with_reducible show wpAny _ _ (pyIter _) _ _ _)); (fail_if_success (with_reducible show wpAny _ _ (eval (PySem.Expr.ListComp _ _ _ _) _) _ _ _)); (fail_if_success (with_reducible show LCg.CompSrc _ _ _ _ _ _ _ _ _ _ _ _ _ _)); (fail_if_success (with_reducible show wpAny _ _ (call (Value.ref _) _ _) _ _ _)); (first | ((with_reducible show wpAny _ _ (exec (PySem.Stmt.For _ _ _ _ _) _) _ _ _); (rename Fr _ _ _ _ => zF'); (with_unfolding_all refine' For_invVF zF' ?zk1 ?zk2 ?_; (case zk1 => exact rfl); (case zk2 => exact rfl); k_whole)) | (k_unfold; (try dsimp only)) | (k_end; wrow_close) | walk1 | (dsimp only; walk1) | (leave1; walk_say "STEP leave1"; try dsimp only) | (dsimp only; k_unfold; (try dsimp only)) | fail "no step")))); (all_goals (try (rename Fr _ _ _ _ => zF'; dsimp only at zF'))); (all_goals (try dsimp only)))
    k_dflt (refine' use_L (dbp_walk hW hW2 hb hb2 k hk hpw hn (hn2.up (by omega)) I7 hR) ?zB ?zF ?zX ?zN ?zT ?zk ?zs ?zd ?zu ?_)
    ((case zB => k_asm); (case zF => k_asm); (case zX => k_asm); (case zN => k_asm); (case zT => k_asm); (case zk => first | exact rfl | assumption); (case zs => walk_at "mine sub"); (case zd => first | ((try dsimp only); exact room1 (by assumption) (by first | decide | exact Nat.le_refl _ | exact Nat.le_trans (by decide) (Nat.le_add_right _ _) | omega)) | (dsimp only; omega) | (simp only [depth_deeper]; omega)); (case zu => first | ((try dsimp only); exact room3 (by assumption) (by first | decide | exact Nat.le_refl _ | exact Nat.le_trans (by decide) (Nat.le_add_right _ _) | omega)) | (dsimp only; omega) | (simp only [units_deeper]; omega)))
    intro b8 vs8 n8 h8 tk8 F8 N8 ne8 I8
    simp only [Ne1, and_true] at ne8
    ((repeat' (((fail_if_success (with_reducible show wpAny _ _ (exec (PySem.Stmt.While _ _ _ _) _) _ _ _)); (fail_if_success (with_reducible show wpAny _ _ (pyIter _) _ _ _)); (fail_if_success (with_reducible show wpAny _ _ (eval (PySem.Expr.ListComp _ _ _ _) _) _ _ _)); (fail_if_success (with_reducible show LCg.CompSrc _ _ _ _ _ _ _ _ _ _ _ _ _ _)); (fail_if_success (with_reducible show wpAny _ _ (call (Value.ref _) _ _) _ _ _)); (first | ((with_reducible show wpAny _ _ (exec (PySem.Stmt.For _ _ _ _ _) _) _ _ _); (rename Fr _ _ _ _ => zF'); (with_unfolding_all refine' For_invVF zF' ?zk1 ?zk2 ?_; (case zk1 => exact rfl); (case zk2 => exact rfl); k_whole)) | (k_unfold; (try dsimp only)) | (k_end; wrow_close) | walk1 | (dsimp only; walk1) | (leave1; walk_say "STEP leave1"; try dsimp only) | (dsimp only; k_unfold; (try dsimp only)) | fail "no step")))); (all_goals (try (rename Fr _ _ _ _ => zF'; dsimp only at zF'))); (all_goals (try dsimp only)))
    have hlen : (limZ b n).reverse.length ≤ 100 := by rw [List.length_reverse]; exact limZ_len (by omega) 100 hn2
    have hdg : ∀ d ∈ (limZ b n).reverse, 0 ≤ d ∧ d < b := fun d hd => limZ_dig (by omega) hn d (List.mem_reverse.mp hd)
    have hval : valB b (limZ b n).reverse = n := val_lim (by omega) n hn
    have D9 := nbp_walk (w := w) (mean := mean) (mg := mg) (mb := mb) (Ls := Ls) (t1 := t2) (t2 := t3) (t3 := t5) (pl := D) (kk := (refsOf ps).length) hW hW2 hb hb2 hk hpw hR 101 (l := b6) (nn := n6) (by omega) (by omega) hdg (by rw [hval]; exact hn2.up (by omega)) I6
    rw [hval] at D9
    k_dflt (refine' use_L D9 ?zB ?zF ?zX ?zN ?zT ?zk ?zs ?zd ?zu ?_)
    ((case zB => k_asm); (case zF => k_asm); (case zX => k_asm); (case zN => k_asm); (case zT => k_asm); (case zk => first | exact rfl | assumption); (case zs => walk_at "mine sub"); (case zd => first | ((try dsimp only); exact room1 (by assumption) (by first | decide | exact Nat.le_refl _ | exact Nat.le_trans (by decide) (Nat.le_add_right _ _) | omega)) | (dsimp only; omega) | (simp only [depth_deeper]; omega)); (case zu => first | ((try dsimp only); exact room3 (by assumption) (by first | decide | exact Nat.le_refl _ | exact Nat.le_trans (by decide) (Nat.le_add_right _ _) | omega)) | (dsimp only; omega) | (simp only [units_deeper]; omega)))
    intro b9 vs9 n9 h9 tk9 F9 N9 ne9 I9
    simp only [Ne1, and_true] at ne9
    ((repeat' (((fail_if_success (with_reducible show wpAny _ _ (exec (PySem.Stmt.While _ _ _ _) _) _ _ _)); (fail_if_success (with_reducible show wpAny _ _ (pyIter _) _ _ _)); (fail_if_success (with_reducible show wpAny _ _ (eval (PySem.Expr.ListComp _ _ _ _) _) _ _ _)); (fail_if_success (with_reducible show LCg.CompSrc _ _ _ _ _ _ _ _ _ _ _ _ _ _)); (fail_if_success (with_reducible show wpAny _ _ (call (Value.ref _) _ _) _ _ _)); (first | ((with_reducible show wpAny _ _ (exec (PySem.Stmt.For _ _ _ _ _) _) _ _ _); (rename Fr _ _ _ _ => zF'); (with_unfolding_all refine' For_invVF zF' ?zk1 ?zk2 ?_; (case zk1 => exact rfl); (case zk2 => exact rfl); k_whole)) | (k_unfold; (try dsimp only)) | (k_end; wrow_close) | walk1 | (dsimp only; walk1) | (leave1; walk_say "STEP leave1"; try dsimp only) | (dsimp only; k_unfold; (try dsimp only)) | fail "no step")))); (all_goals (try (rename Fr _ _ _ _ => zF'; dsimp only at zF'))); (all_goals (try dsimp only)))
    k_dflt (refine' use_L (law_limbs_does hW hW2 hn (hn2.up (by omega))) ?zB ?zF ?zX ?zN ?zT ?zk ?zs ?zd ?zu ?_)
    ((case zB => k_asm); (case zF => k_asm); (case zX => k_asm); (case zN => k_asm); (case zT => k_asm); (case zk => first | exact rfl | assumption); (case zs => walk_at "mine sub"); (case zd => first | ((try dsimp only); exact room1 (by assumption) (by first | decide | exact Nat.le_refl _ | exact Nat.le_trans (by decide) (Nat.le_add_right _ _) | omega)) | (dsimp only; omega) | (simp only [depth_deeper]; omega)); (case zu => first | ((try dsimp only); exact room3 (by assumption) (by first | decide | exact Nat.le_refl _ | exact Nat.le_trans (by decide) (Nat.le_add_right _ _) | omega)) | (dsimp only; omega) | (simp only [units_deeper]; omega)))
    intro b10 vs10 n10 h10 tk10 F10 N10 ne10 I10
    simp only [Ne1, and_true] at ne10
    ((repeat' (((fail_if_success (with_reducible show wpAny _ _ (exec (PySem.Stmt.While _ _ _ _) _) _ _ _)); (fail_if_success (with_reducible show wpAny _ _ (pyIter _) _ _ _)); (fail_if_success (with_reducible show wpAny _ _ (eval (PySem.Expr.ListComp _ _ _ _) _) _ _ _)); (fail_if_success (with_reducible show LCg.CompSrc _ _ _ _ _ _ _ _ _ _ _ _ _ _)); (fail_if_success (with_reducible show wpAny _ _ (call (Value.ref _) _ _) _ _ _)); (first | ((with_reducible show wpAny _ _ (exec (PySem.Stmt.For _ _ _ _ _) _) _ _ _); (rename Fr _ _ _ _ => zF'); (with_unfolding_all refine' For_invVF zF' ?zk1 ?zk2 ?_; (case zk1 => exact rfl); (case zk2 => exact rfl); k_whole)) | (k_unfold; (try dsimp only)) | (k_end; wrow_close) | walk1 | (dsimp only; walk1) | (leave1; walk_say "STEP leave1"; try dsimp only) | (dsimp only; k_unfold; (try dsimp only)) | fail "no step")))); (all_goals (try (rename Fr _ _ _ _ => zF'; dsimp only at zF'))); (all_goals (try dsimp only)))
    have D11 := noughts_walk (w := w) (mean := mean) (mg := mg) (mb := mb) (t1 := tk10 + 1 + 1) (M := ((limZ b n).reverse.length : Int) + k) (l := b6) (nn := n6) (by omega) (by omega) (by omega) I6
    rw [show (((limZ b n).reverse.length : Int) + k - ((limZ b n).reverse.length : Int)).toNat = k by omega] at D11
    k_dflt (refine' use_L D11 ?zB ?zF ?zX ?zN ?zT ?zk ?zs ?zd ?zu ?_)
    ((case zB => k_asm); (case zF => k_asm); (case zX => k_asm); (case zN => k_asm); (case zT => k_asm); (case zk => first | exact rfl | assumption); (case zs => walk_at "mine sub"); (case zd => first | ((try dsimp only); exact room1 (by assumption) (by first | decide | exact Nat.le_refl _ | exact Nat.le_trans (by decide) (Nat.le_add_right _ _) | omega)) | (dsimp only; omega) | (simp only [depth_deeper]; omega)); (case zu => first | ((try dsimp only); exact room3 (by assumption) (by first | decide | exact Nat.le_refl _ | exact Nat.le_trans (by decide) (Nat.le_add_right _ _) | omega)) | (dsimp only; omega) | (simp only [units_deeper]; omega)))
    intro b11 vs11 n11 h11 tk11 F11 N11 ne11 I11
    simp only [Ne1, and_true] at ne11
    have hrep : List.replicate k 0 ++ (limZ b n).reverse = (List.replicate (k : Int).toNat [0]).flatten ++ (limZ b n).reverse := by
      rw [Int.toNat_natCast, rep_flat]
    have D12 := nbp_walk (w := w) (mean := mean) (mg := mg) (mb := mb) (Ls := Ls) (t1 := t2) (t2 := t3) (t3 := t5) (pl := D) (kk := (refsOf ps).length) hW hW2 hb hb2 hk hpw hR 113 (l := b11) (nn := n11)
      (by rw [List.length_append, List.length_replicate]; omega) (by omega) (by intro d hd; rcases List.mem_append.mp hd with hd | hd; (rw [List.eq_of_mem_replicate hd]; omega); exact hdg d hd) (by rw [val_zeros, hval]; exact hn2.up (by omega)) I11
    rw [val_zeros, hval] at D12
    ((repeat' (((fail_if_success (with_reducible show wpAny _ _ (exec (PySem.Stmt.While _ _ _ _) _) _ _ _)); (fail_if_success (with_reducible show wpAny _ _ (pyIter _) _ _ _)); (fail_if_success (with_reducible show wpAny _ _ (eval (PySem.Expr.ListComp _ _ _ _) _) _ _ _)); (fail_if_success (with_reducible show LCg.CompSrc _ _ _ _ _ _ _ _ _ _ _ _ _ _)); (fail_if_success (with_reducible show wpAny _ _ (call (Value.ref _) _ _) _ _ _)); (first | ((with_reducible show wpAny _ _ (exec (PySem.Stmt.For _ _ _ _ _) _) _ _ _); (rename Fr _ _ _ _ => zF'); (with_unfolding_all refine' For_invVF zF' ?zk1 ?zk2 ?_; (case zk1 => exact rfl); (case zk2 => exact rfl); k_whole)) | (k_unfold; (try dsimp only)) | (k_end; wrow_close) | walk1 | (dsimp only; walk1) | (leave1; walk_say "STEP leave1"; try dsimp only) | (dsimp only; k_unfold; (try dsimp only)) | fail "no step")))); (all_goals (try (rename Fr _ _ _ _ => zF'; dsimp only at zF'))); (all_goals (try dsimp only)))
    k_dflt (refine' use_L D12 ?zB ?zF ?zX ?zN ?zT ?zk ?zs ?zd ?zu ?_)
    ((case zB => k_asm); (case zF => k_asm); (case zX => k_asm); (case zN => k_asm); (case zT => k_asm); (case zk => first | exact rfl | assumption); (case zs => walk_at "mine sub"); (case zd => first | ((try dsimp only); exact room1 (by assumption) (by first | decide | exact Nat.le_refl _ | exact Nat.le_trans (by decide) (Nat.le_add_right _ _) | omega)) | (dsimp only; omega) | (simp only [depth_deeper]; omega)); (case zu => first | ((try dsimp only); exact room3 (by assumption) (by first | decide | exact Nat.le_refl _ | exact Nat.le_trans (by decide) (Nat.le_add_right _ _) | omega)) | (dsimp only; omega) | (simp only [units_deeper]; omega)))
    intro b13 vs13 n13 h13 tk13 F13 N13 ne13 I13
    simp only [Ne1, and_true] at ne13
    ((repeat' (((fail_if_success (with_reducible show wpAny _ _ (exec (PySem.Stmt.While _ _ _ _) _) _ _ _)); (fail_if_success (with_reducible show wpAny _ _ (pyIter _) _ _ _)); (fail_if_success (with_reducible show wpAny _ _ (eval (PySem.Expr.ListComp _ _ _ _) _) _ _ _)); (fail_if_success (with_reducible show LCg.CompSrc _ _ _ _ _ _ _ _ _ _ _ _ _ _)); (fail_if_success (with_reducible show wpAny _ _ (call (Value.ref _) _ _) _ _ _)); (first | ((with_reducible show wpAny _ _ (exec (PySem.Stmt.For _ _ _ _ _) _) _ _ _); (rename Fr _ _ _ _ => zF'); (with_unfolding_all refine' For_invVF zF' ?zk1 ?zk2 ?_; (case zk1 => exact rfl); (case zk2 => exact rfl); k_whole)) | (k_unfold; (try dsimp only)) | (k_end; wrow_close) | walk1 | (dsimp only; walk1) | (leave1; walk_say "STEP leave1"; try dsimp only) | (dsimp only; k_unfold; (try dsimp only)) | fail "no step")))); (all_goals (try (rename Fr _ _ _ _ => zF'; dsimp only at zF'))); (all_goals (try dsimp only)))
    k_dflt (refine' use_L (law_limbs_does hW hW2 hn (hn2.up (by omega))) ?zB ?zF ?zX ?zN ?zT ?zk ?zs ?zd ?zu ?_)
    ((case zB => k_asm); (case zF => k_asm); (case zX => k_asm); (case zN => k_asm); (case zT => k_asm); (case zk => first | exact rfl | assumption); (case zs => walk_at "mine sub"); (case zd => first | ((try dsimp only); exact room1 (by assumption) (by first | decide | exact Nat.le_refl _ | exact Nat.le_trans (by decide) (Nat.le_add_right _ _) | omega)) | (dsimp only; omega) | (simp only [depth_deeper]; omega)); (case zu => first | ((try dsimp only); exact room3 (by assumption) (by first | decide | exact Nat.le_refl _ | exact Nat.le_trans (by decide) (Nat.le_add_right _ _) | omega)) | (dsimp only; omega) | (simp only [units_deeper]; omega)))
    intro b14 vs14 n14 h14 tk14 F14 N14 ne14 I14
    simp only [Ne1, and_true] at ne14
    ((repeat' (((fail_if_success (with_reducible show wpAny _ _ (exec (PySem.Stmt.While _ _ _ _) _) _ _ _)); (fail_if_success (with_reducible show wpAny _ _ (pyIter _) _ _ _)); (fail_if_success (with_reducible show wpAny _ _ (eval (PySem.Expr.ListComp _ _ _ _) _) _ _ _)); (fail_if_success (with_reducible show LCg.CompSrc _ _ _ _ _ _ _ _ _ _ _ _ _ _)); (fail_if_success (with_reducible show wpAny _ _ (call (Value.ref _) _ _) _ _ _)); (first | ((with_reducible show wpAny _ _ (exec (PySem.Stmt.For _ _ _ _ _) _) _ _ _); (rename Fr _ _ _ _ => zF'); (with_unfolding_all refine' For_invVF zF' ?zk1 ?zk2 ?_; (case zk1 => exact rfl); (case zk2 => exact rfl); k_whole)) | (k_unfold; (try dsimp only)) | (k_end; wrow_close) | walk1 | (dsimp only; walk1) | (leave1; walk_say "STEP leave1"; try dsimp only) | (dsimp only; k_unfold; (try dsimp only)) | fail "no step")))); (all_goals (try (rename Fr _ _ _ _ => zF'; dsimp only at zF'))); (all_goals (try dsimp only)))
    k_dflt (refine' endM_of (tl := []) (by k_asm) (by k_asm) ?ze1 ?ze2 ?ze3 ⟨rfl, rfl⟩)
    case ze1 => walk_at "mine sub"
    case ze2 => walk_at "mine sub"
    case ze3 => walk_at "mine ne"


end
section
example : True := by
  w_top off
  trivial
theorem news_law {h₀ g : Heap} {L l d d1 d2 x : Addr} {b c o : Obj} {t t2 : Tok} {xs : List Int} {cs0 : List Value} (N : News h₀ L g [(l, listOf #[.ref d2, .int 0 t, .int (xs.sum.fmod 29) t2] 0), (d, b), (d1, c), (d2, listOf cs0.toArray 0), (x, o)]) :
    ∃ (k : Int) (bar ca : Addr) (cs : List Value), bar = l ∧ ca = d2 ∧ cs = cs0 ∧ 0 ≤ k ∧ k < 29 ∧ News h₀ L g [(bar, listOf #[.ref ca, .int 0 t, .int k t2] 0), (ca, listOf cs.toArray 0), (x, o)] := by
  refine ⟨xs.sum.fmod 29, _, _, _, rfl, rfl, rfl, ?_, ?_, fun p hp => N p ?_⟩
  · rw [fmod_e (by omega)]; omega
  · rw [fmod_e (by omega)]; omega
  · simp only [List.mem_cons, List.not_mem_nil, or_false] at hp ⊢
    rcases hp with h | h | h <;> simp [h]
theorem news_tl {h₀ g : Heap} {L : Addr} {p : Addr × Obj} {r : List (Addr × Obj)} (N : News h₀ L g (p :: r)) : News h₀ L g r := fun q hq => N q (.tail _ hq)
theorem news_rot {h₀ g : Heap} {L : Addr} {p q q2 : Addr × Obj} {r : List (Addr × Obj)} (N : News h₀ L g (p :: q :: q2 :: r)) : News h₀ L g (q :: q2 :: p :: r) := fun z hz => N z (by
  simp only [List.mem_cons] at hz ⊢
  rcases hz with h | h | h | h <;> simp [h])
theorem turn_lt {n v W : Int} {j : Nat} (hn : 0 ≤ n) (h : LtP n j) (hW : 1 ≤ W) (hW2 : W ≤ 8) (hv : 0 ≤ v) (hv2 : v < 2 ^ W.toNat) : 0 ≤ n * 2 ^ W.toNat + v ∧ LtP (n * 2 ^ W.toNat + v) (j + 8) := by
  have h0 : (0 : Int) < 2 ^ W.toNat := Int.pow_pos (by omega)
  have h1 : (0 : Int) ≤ n * 2 ^ W.toNat := Int.mul_nonneg hn (by omega)
  refine ⟨by omega, ?_⟩
  have h2 : n + 1 ≤ 2 ^ j := h
  have h3 : (n + 1) * 2 ^ W.toNat ≤ 2 ^ j * 2 ^ W.toNat := Int.mul_le_mul_of_nonneg_right h2 (by omega)
  have h4 : (2 : Int) ^ j * 2 ^ W.toNat ≤ 2 ^ j * 2 ^ 8 := Int.mul_le_mul_of_nonneg_left (pow2_le hW hW2) (Int.le_of_lt (Int.pow_pos (by omega)))
  show _ < (2 : Int) ^ (j + 8)
  rw [Int.pow_add]
  rw [Int.add_mul, Int.one_mul] at h3
  omega
theorem news_nm {h₀ g : Heap} {L l d : Addr} {t o : Obj} {r : List (Addr × Obj)} (N : News h₀ L g ((d, t) :: (l, o) :: r)) : ∃ f, f = l ∧ News h₀ L g ((f, o) :: r) := ⟨l, rfl, news_tl N⟩
theorem two_pow_le {b : Int} (hb : 2 ≤ b) : ∀ k : Nat, (2 : Int) ^ k ≤ b ^ k
  | 0 => by rw [Int.pow_zero, Int.pow_zero]; exact Int.le_refl _
  | k + 1 => by
    rw [Int.pow_succ, Int.pow_succ]
    exact Int.mul_le_mul (two_pow_le hb k) hb (by omega) (Int.le_of_lt (Int.pow_pos (by omega)))
theorem cnt_le {b n : Int} {j : Nat} (hb : 2 ≤ b) (hn : LtP n 40) (hc : ∀ i, i < j → b ^ (2 ^ i) ≤ n) : j ≤ 6 := by
  refine Classical.byContradiction fun h => ?_
  have h1 := hc 6 (by omega)
  have h2 := two_pow_le hb (2 ^ 6)
  have h3 : (2 : Int) ^ 40 ≤ 2 ^ (2 ^ 6) := by decide
  have h4 : n < 2 ^ 40 := hn
  omega
noncomputable def dues (b : Int) (j : Nat) : List Int := (List.range j).map fun i => b ^ (2 ^ i)
theorem dues_succ (b : Int) (j : Nat) : dues b (j + 1) = dues b j ++ [b ^ (2 ^ j)] := by
  unfold dues; rw [List.range_succ, List.map_append]; rfl
section
variable {w : World} {mean : ExcName → Option Value} {mg mb : Str → Option Value} {f : Addr} {dn un : Nat} {vs : List Value} {led news : List (Addr × Obj)}
    {dp u : Nat} {gd : Option (List Code)} {cn : Str} {cs : Scope} {L a : Addr} {ccd : Value} {cl : List (Str × Addr)} {outer : List Env} {A₀ : Around} {base h₀ : Heap} {m : Str → Option Value} {s : Shared} {Q E : Value → Shared → Prop}
theorem use_Rows {xss : List (List Int)} (D : Does w mean mg mb f dn un vs led (OutRows xss))
    (B : Below A₀ base outer h₀) (F : Fr h₀ L s.heap m) (X : (hd.heap_39 w.params).In h₀) (N : News h₀ L s.heap news) (T : Top hd.view_39 (looseW hd.view_39 []) mean mg mb h₀) (hk : cs.kind = .function) (hs : ∀ p ∈ led, p ∈ news)
    (hd : dp + dn < recursionLimit) (hu : u + un < cLine)
    (ret : ∀ r ps n h' tk', Fr h₀ L h' m → News h₀ L h' ((r, listOf (refsOf ps).toArray n) :: (news ++ ps)) → Ne1 r news → (∀ p ∈ ps, ∀ q ∈ news, q.1 ≠ p.1) → Rows ps xss → (∀ p ∈ ps, p.1 ≠ r) → Q (.ref r) { s with heap := h', toks := tk' }) :
    wpAny (model PySem.Challenge.rw_pq0537_01.row.prog w) (ktrTop dp u gd cn cs L a ccd cl outer) (call (.ref f) vs) Q E s := by
  refine does_use D B F X N T hk hs hd hu ?_
  rintro r tl h' tk' F' N' hne ⟨r', ps, n, rfl, rfl, hR, hn⟩
  refine ret r' ps n h' tk' F' (fun p hp => N' p ?_) (ne1_of fun q hq => hne _ (.head _) q hq) (fun p hp q hq => hne p (.tail _ hp) q hq) hR hn
  simp only [List.mem_cons, List.mem_append, List.cons_append] at hp ⊢
  rcases hp with h | h | h <;> simp [h]
end
example : True := by
  (k_with "binaryOp Pow int int" => (refine pow_int_small (by assumption) (by assumption) (by omega) ?_))
  trivial
example : True := by
  (k_with "eval Name" => ((with_reducible show wpAny _ _ (eval (Expr.Name _ _) (compEnvC _ _ _ _)) _ _ _); first | (refine ld_free (by assumption) (by exact rfl) (by k_mem) (by assumption) ?_ (by exact rfl) (by exact rfl) (by exact rfl) (by exact rfl)) | (refine LCgL.ld_own (by assumption) (by k_mem) (by assumption) (by assumption) ?_) | (refine LCgL.ld_global (by k_asm) (by k_asm) (by k_asm) (by k_is) ?_) | (refine LCgL.ld_built (by k_asm) (by k_asm) (by k_asm) (by k_is) (by boot_by_name) (by decide) ?_)))
  trivial
theorem pw_lt2 {b n : Int} {c : Nat} (hb : 2 ≤ b) (hb2 : b ≤ 20) (hn : 0 ≤ n) (hn2 : LtP n 100) (hc1 : ∀ j, j < c → b ^ (2 ^ j) ≤ n) (i : Nat) (hi : i < c + 2) : LtP (b ^ (2 ^ i)) 1000 := by
  by_cases h : i ≤ c
  · exact (pw_lt hb hb2 hn hn2 hc1 h).2.up (by omega)
  · obtain ⟨h1, h2⟩ := pw_lt hb hb2 hn hn2 hc1 (Nat.le_refl c)
    have e : i = c + 1 := by omega
    rw [e, ← pw_sq]
    exact (LtP.mul (by omega) (by omega) h2 h2).up (by omega)
theorem law_holds : PySem.Challenge.rw_pq0537_01.Holds := hd (by
  w_strict (
    k_go0
    (all_goals try k_fold)
    (((repeat' (((fail_if_success (with_reducible show wpAny _ _ (exec (PySem.Stmt.While _ _ _ _) _) _ _ _)); (fail_if_success (with_reducible show wpAny _ _ (pyIter _) _ _ _)); (fail_if_success (with_reducible show wpAny _ _ (eval (PySem.Expr.ListComp _ _ _ _) _) _ _ _)); (fail_if_success (with_reducible show LCg.CompSrc _ _ _ _ _ _ _ _ _ _ _ _ _ _)); (fail_if_success (with_reducible show wpAny _ _ (call (Value.ref _) _ _) _ _ _)); (first | ((with_reducible show wpAny _ _ (exec (PySem.Stmt.For _ _ _ _ _) _) _ _ _); (rename Fr _ _ _ _ => zF'); (with_unfolding_all refine' For_invVF zF' ?zk1 ?zk2 ?_; (case zk1 => exact rfl); (case zk2 => exact rfl); k_whole)) | (k_unfold; (try dsimp only)) | (k_end; wrow_close) | walk1 | (dsimp only; walk1) | (leave1; walk_say "STEP leave1"; try dsimp only) | (dsimp only; k_unfold; (try dsimp only)) | fail "no step")))); (all_goals (try (rename Fr _ _ _ _ => zF'; dsimp only at zF'))); (all_goals (try dsimp only))))
    walk1
    (((repeat' (((fail_if_success (with_reducible show wpAny _ _ (exec (PySem.Stmt.While _ _ _ _) _) _ _ _)); (fail_if_success (with_reducible show wpAny _ _ (pyIter _) _ _ _)); (fail_if_success (with_reducible show wpAny _ _ (eval (PySem.Expr.ListComp _ _ _ _) _) _ _ _)); (fail_if_success (with_reducible show LCg.CompSrc _ _ _ _ _ _ _ _ _ _ _ _ _ _)); (fail_if_success (with_reducible show wpAny _ _ (call (Value.ref _) _ _) _ _ _)); (first | ((with_reducible show wpAny _ _ (exec (PySem.Stmt.For _ _ _ _ _) _) _ _ _); (rename Fr _ _ _ _ => zF'); (with_unfolding_all refine' For_invVF zF' ?zk1 ?zk2 ?_; (case zk1 => exact rfl); (case zk2 => exact rfl); k_whole)) | (k_unfold; (try dsimp only)) | (k_end; wrow_close) | walk1 | (dsimp only; walk1) | (leave1; walk_say "STEP leave1"; try dsimp only) | (dsimp only; k_unfold; (try dsimp only)) | fail "no step")))); (all_goals (try (rename Fr _ _ _ _ => zF'; dsimp only at zF'))); (all_goals (try dsimp only))))
    rename News _ _ _ _ => N1
    obtain ⟨k, bar, ca, cs, rfl, rfl, rfl, hk0, hk1, N2⟩ := news_law N1
    rename Fr _ _ _ _ => F2
    rename World => w
    rename Shared => s1
    clear N1
    have hbc : @Ne Nat bar ca := by omega
    have hbx : @Ne Nat bar (s1.heap.objs.size + 1) := by omega
    have hcx : @Ne Nat ca (s1.heap.objs.size + 1) := by omega
    k_dflt (refine' use_dip (by omega) (by omega) (by omega) hk0 hk1 (List.length_take_le _ _) (by first | assumption | omega) (by assumption) (by first | assumption | (simp only [Ne1, and_true]; (repeat' apply And.intro); (all_goals (first | assumption | (apply Ne.symm; assumption) | omega)))) (by first | assumption | (simp only [Ne1, and_true]; (repeat' apply And.intro); (all_goals (first | assumption | (apply Ne.symm; assumption) | omega)))) ?zB ?zF ?zX N2 ?zT ?zk ?zd ?zu ?_)
    ((case zB => k_asm); (case zF => k_asm); (case zX => k_asm); (case zT => k_asm); (case zk => exact rfl); (case zd => decide); (case zu => decide))
    intro d3 td3 ta3 tb3 n3 h3 tk3 hd3 he3 F3 N3
    (((repeat' (((fail_if_success (with_reducible show wpAny _ _ (exec (PySem.Stmt.While _ _ _ _) _) _ _ _)); (fail_if_success (with_reducible show wpAny _ _ (pyIter _) _ _ _)); (fail_if_success (with_reducible show wpAny _ _ (eval (PySem.Expr.ListComp _ _ _ _) _) _ _ _)); (fail_if_success (with_reducible show LCg.CompSrc _ _ _ _ _ _ _ _ _ _ _ _ _ _)); (fail_if_success (with_reducible show wpAny _ _ (call (Value.ref _) _ _) _ _ _)); (first | ((with_reducible show wpAny _ _ (exec (PySem.Stmt.For _ _ _ _ _) _) _ _ _); (rename Fr _ _ _ _ => zF'); (with_unfolding_all refine' For_invVF zF' ?zk1 ?zk2 ?_; (case zk1 => exact rfl); (case zk2 => exact rfl); k_whole)) | (k_unfold; (try dsimp only)) | (k_end; wrow_close) | walk1 | (dsimp only; walk1) | (leave1; walk_say "STEP leave1"; try dsimp only) | (dsimp only; k_unfold; (try dsimp only)) | fail "no step")))); (all_goals (try (rename Fr _ _ _ _ => zF'; dsimp only at zF'))); (all_goals (try dsimp only))))
    k_dflt (refine' use_dip (by omega) (by omega) (by omega) hk0 hk1 (List.length_take_le _ _) (by first | assumption | omega) (by assumption) (by first | assumption | (simp only [Ne1, and_true]; (repeat' apply And.intro); (all_goals (first | assumption | (apply Ne.symm; assumption) | omega)))) (by first | assumption | (simp only [Ne1, and_true]; (repeat' apply And.intro); (all_goals (first | assumption | (apply Ne.symm; assumption) | omega)))) ?zB ?zF ?zX N3 ?zT ?zk ?zd ?zu ?_)
    ((case zB => k_asm); (case zF => k_asm); (case zX => k_asm); (case zT => k_asm); (case zk => exact rfl); (case zd => decide); (case zu => decide))
    intro d4 td4 ta4 tb4 n4 h4 tk4 hd4 he4 F4 N4
    (((repeat' (((fail_if_success (with_reducible show wpAny _ _ (exec (PySem.Stmt.While _ _ _ _) _) _ _ _)); (fail_if_success (with_reducible show wpAny _ _ (pyIter _) _ _ _)); (fail_if_success (with_reducible show wpAny _ _ (eval (PySem.Expr.ListComp _ _ _ _) _) _ _ _)); (fail_if_success (with_reducible show LCg.CompSrc _ _ _ _ _ _ _ _ _ _ _ _ _ _)); (fail_if_success (with_reducible show wpAny _ _ (call (Value.ref _) _ _) _ _ _)); (first | ((with_reducible show wpAny _ _ (exec (PySem.Stmt.For _ _ _ _ _) _) _ _ _); (rename Fr _ _ _ _ => zF'); (with_unfolding_all refine' For_invVF zF' ?zk1 ?zk2 ?_; (case zk1 => exact rfl); (case zk2 => exact rfl); k_whole)) | (k_unfold; (try dsimp only)) | (k_end; wrow_close) | walk1 | (dsimp only; walk1) | (leave1; walk_say "STEP leave1"; try dsimp only) | (dsimp only; k_unfold; (try dsimp only)) | fail "no step")))); (all_goals (try (rename Fr _ _ _ _ => zF'; dsimp only at zF'))); (all_goals (try dsimp only))))
    (rename News _ _ _ _ => N5)
    have N5 := news_tl N5
    k_dflt (refine' use_dip (by omega) (by omega) (by omega) hk0 hk1 (List.length_take_le _ _) (by first | assumption | omega) (by assumption) (by first | assumption | (simp only [Ne1, and_true]; (repeat' apply And.intro); (all_goals (first | assumption | (apply Ne.symm; assumption) | omega)))) (by first | assumption | (simp only [Ne1, and_true]; (repeat' apply And.intro); (all_goals (first | assumption | (apply Ne.symm; assumption) | omega)))) ?zB ?zF ?zX N5 ?zT ?zk ?zd ?zu ?_)
    ((case zB => k_asm); (case zF => k_asm); (case zX => k_asm); (case zT => k_asm); (case zk => exact rfl); (case zd => decide); (case zu => decide))
    intro d6 td6 ta6 tb6 n6 h6 tk6 hd6 he6 F6 N6
    obtain ⟨m6, rfl⟩ : ∃ m : Nat, d6 = m := ⟨d6.toNat, by omega⟩
    (((repeat' (((fail_if_success (with_reducible show wpAny _ _ (exec (PySem.Stmt.While _ _ _ _) _) _ _ _)); (fail_if_success (with_reducible show wpAny _ _ (pyIter _) _ _ _)); (fail_if_success (with_reducible show wpAny _ _ (eval (PySem.Expr.ListComp _ _ _ _) _) _ _ _)); (fail_if_success (with_reducible show LCg.CompSrc _ _ _ _ _ _ _ _ _ _ _ _ _ _)); (fail_if_success (with_reducible show wpAny _ _ (call (Value.ref _) _ _) _ _ _)); (first | ((with_reducible show wpAny _ _ (exec (PySem.Stmt.For _ _ _ _ _) _) _ _ _); (rename Fr _ _ _ _ => zF'); (with_unfolding_all refine' For_invVF zF' ?zk1 ?zk2 ?_; (case zk1 => exact rfl); (case zk2 => exact rfl); k_whole)) | (k_unfold; (try dsimp only)) | (k_end; wrow_close) | walk1 | (dsimp only; walk1) | (leave1; walk_say "STEP leave1"; try dsimp only) | (dsimp only; k_unfold; (try dsimp only)) | fail "no step")))); (all_goals (try (rename Fr _ _ _ _ => zF'; dsimp only at zF'))); (all_goals (try dsimp only))))
    have hW : 1 ≤ 1 + d3 := by omega
    have hW2 : 1 + d3 ≤ 8 := by omega
    have hB := pow2_gt hW
    rename Obj => oW
    (rename Fr _ _ _ _ => F7)
    (rename News _ _ _ _ => N7)
    (rename IsRange _ _ _ _ _ _ _ _ => R7)
    refine' for_rangeM (σ := Int × Tok × Tok × Nat × Int × Tok) (n := m6) (fun (c, ta, tb, n9, n, tn) => [(bar, listOf #[.ref ca, .int c ta, .int k tb] n9), (ca, listOf cs.toArray 0), (s1.heap.objs.size + 1, oW)])
      (fun (c, ta, tb, n9, n, tn) => [(Str.ofString "barrel", .ref bar), (Str.ofString "base", .int (2 + d4) tk4), (Str.ofString "n", .int n tn)])
      (fun i (c, ta, tb, n9, n, tn) => 0 ≤ c ∧ c ≤ 3 + 2 * i ∧ 0 ≤ n ∧ LtP n (8 * i)) (0 + 1 + 1 + 1, _, _, _, 0, _) rfl R7 (small_one (by omega) (by omega) (by omega) (by omega)) (by rw [rangeSize_nat]; omega) F7 N7 ?zl ?zf ?zp ?turn ?done
    case zf => kst_all
    case zl => walk_at "mine sub"
    case zp => exact ⟨by (try dsimp only); omega, by (try dsimp only); omega, by (try dsimp only); omega, (show (0 : Int) < 2 ^ (8 * 0) by decide)⟩
    case turn =>
      rintro i t ⟨c, ta, tb, n9, n, tn⟩ u2 h2 tk2 I oi hi ⟨hc0, hc1, hn0, hn1⟩ hne F8 N8
      (try dsimp only at F8)
      (try dsimp only at N8)
      (try dsimp only at hc0)
      (try dsimp only at hc1)
      (try dsimp only at hn0)
      (try dsimp only at hn1)
      (try dsimp only)
      have F8 : Fr s1.heap s1.heap.objs.size h2 _ := F8
      have N8 : News s1.heap s1.heap.objs.size h2 _ := N8
      clear F7 N7
      have hneK := hne
      simp only [Ne1, and_true] at hne
      obtain ⟨hne1, hne2, hne3⟩ := hne
      have hn2 : LtP n 2000 := hn1.up (by omega)
      have l1 : LtP 1 2000 := (LtP.small (n := 1) (by omega)).up (by omega)
      ((repeat' (((fail_if_success (with_reducible show wpAny _ _ (exec (PySem.Stmt.While _ _ _ _) _) _ _ _)); (fail_if_success (with_reducible show wpAny _ _ (pyIter _) _ _ _)); (fail_if_success (with_reducible show wpAny _ _ (eval (PySem.Expr.ListComp _ _ _ _) _) _ _ _)); (fail_if_success (with_reducible show LCg.CompSrc _ _ _ _ _ _ _ _ _ _ _ _ _ _)); (fail_if_success (with_reducible show wpAny _ _ (call (Value.ref _) _ _) _ _ _)); (first | ((with_reducible show wpAny _ _ (exec (PySem.Stmt.For _ _ _ _ _) _) _ _ _); (rename Fr _ _ _ _ => zF'); (with_unfolding_all refine' For_invVF zF' ?zk1 ?zk2 ?_; (case zk1 => exact rfl); (case zk2 => exact rfl); k_whole)) | (k_unfold; (try dsimp only)) | (k_end; wrow_close) | walk1 | (dsimp only; walk1) | (leave1; walk_say "STEP leave1"; try dsimp only) | (dsimp only; k_unfold; (try dsimp only)) | fail "no step")))); (all_goals (try (rename Fr _ _ _ _ => zF'; dsimp only at zF'))); (all_goals (try dsimp only)))
      (rename News _ _ _ _ => N9)
      have N9 := news_rot N9
      k_dflt (refine' use_dip (by omega) (by omega) (by omega) hk0 hk1 (List.length_take_le _ _) (by first | assumption | omega) (by assumption) (by first | assumption | (simp only [Ne1, and_true]; (repeat' apply And.intro); (all_goals (first | assumption | (apply Ne.symm; assumption) | omega)))) (by first | assumption | (simp only [Ne1, and_true]; (repeat' apply And.intro); (all_goals (first | assumption | (apply Ne.symm; assumption) | omega)))) ?zB ?zF ?zX N9 ?zT ?zk ?zd ?zu ?_)
      ((case zB => k_asm); (case zF => k_asm); (case zX => k_asm); (case zT => k_asm); (case zk => exact rfl); (case zd => decide); (case zu => decide))
      intro d10 td10 ta10 tb10 n10 h10 tk10 hd10 he10 F10 N10
      ((repeat' (((fail_if_success (with_reducible show wpAny _ _ (exec (PySem.Stmt.While _ _ _ _) _) _ _ _)); (fail_if_success (with_reducible show wpAny _ _ (pyIter _) _ _ _)); (fail_if_success (with_reducible show wpAny _ _ (eval (PySem.Expr.ListComp _ _ _ _) _) _ _ _)); (fail_if_success (with_reducible show LCg.CompSrc _ _ _ _ _ _ _ _ _ _ _ _ _ _)); (fail_if_success (with_reducible show wpAny _ _ (call (Value.ref _) _ _) _ _ _)); (first | ((with_reducible show wpAny _ _ (exec (PySem.Stmt.For _ _ _ _ _) _) _ _ _); (rename Fr _ _ _ _ => zF'); (with_unfolding_all refine' For_invVF zF' ?zk1 ?zk2 ?_; (case zk1 => exact rfl); (case zk2 => exact rfl); k_whole)) | (k_unfold; (try dsimp only)) | (k_end; wrow_close) | walk1 | (dsimp only; walk1) | (leave1; walk_say "STEP leave1"; try dsimp only) | (dsimp only; k_unfold; (try dsimp only)) | fail "no step")))); (all_goals (try (rename Fr _ _ _ _ => zF'; dsimp only at zF'))); (all_goals (try dsimp only)))
      (rename News _ _ _ _ => N11)
      have N11 := news_rot N11
      (rename Fr _ _ _ _ => F11)
      k_dflt (refine' use_dip (by omega) (by omega) (by omega) hk0 hk1 (List.length_take_le _ _) (by first | assumption | omega) (by assumption) (by first | assumption | (simp only [Ne1, and_true]; (repeat' apply And.intro); (all_goals (first | assumption | (apply Ne.symm; assumption) | omega)))) (by first | assumption | (simp only [Ne1, and_true]; (repeat' apply And.intro); (all_goals (first | assumption | (apply Ne.symm; assumption) | omega)))) ?zB ?zF ?zX N11 ?zT ?zk ?zd ?zu ?_)
      ((case zB => k_asm); (case zF => k_asm); (case zX => k_asm); (case zT => k_asm); (case zk => exact rfl); (case zd => decide); (case zu => decide))
      intro d12 td12 ta12 tb12 n12 h12 tk12 hd12 he12 F12 N12
      obtain rfl | rfl | rfl : d12 = 0 ∨ d12 = 1 ∨ d12 = 2 := by omega
      ·
        ((repeat' (((fail_if_success (with_reducible show wpAny _ _ (exec (PySem.Stmt.While _ _ _ _) _) _ _ _)); (fail_if_success (with_reducible show wpAny _ _ (pyIter _) _ _ _)); (fail_if_success (with_reducible show wpAny _ _ (eval (PySem.Expr.ListComp _ _ _ _) _) _ _ _)); (fail_if_success (with_reducible show LCg.CompSrc _ _ _ _ _ _ _ _ _ _ _ _ _ _)); (fail_if_success (with_reducible show wpAny _ _ (call (Value.ref _) _ _) _ _ _)); (first | ((with_reducible show wpAny _ _ (exec (PySem.Stmt.For _ _ _ _ _) _) _ _ _); (rename Fr _ _ _ _ => zF'); (with_unfolding_all refine' For_invVF zF' ?zk1 ?zk2 ?_; (case zk1 => exact rfl); (case zk2 => exact rfl); k_whole)) | (k_unfold; (try dsimp only)) | (k_end; wrow_close) | walk1 | (dsimp only; walk1) | (leave1; walk_say "STEP leave1"; try dsimp only) | (dsimp only; k_unfold; (try dsimp only)) | fail "no step")))); (all_goals (try (rename Fr _ _ _ _ => zF'; dsimp only at zF'))); (all_goals (try dsimp only)))
        obtain ⟨g1, g2⟩ := turn_lt (v := d10) hn0 hn1 hW hW2 (by omega) (by omega)
        rename Fr _ _ _ _ => F3
        rename News _ _ _ _ => N3
        (try simp only [List.push_toArray] at N3)
        k_dflt (refine' fo_end (c + 1 + 1, _, _, _, n * 2 ^ (1 + d3).toNat + d10, _) F3 N3 ?zl ?zi ?zn ?zf ?zp)
        case zf => kst_all
        case zl => walk_at "mine sub"
        case zi => k_mem
        case zn => (first | exact ne1_all (by assumption) | (dsimp only; k_all))
        case zp => exact ⟨by (try dsimp only); omega, by (try dsimp only); omega, g1, g2⟩
      ·
        ((repeat' (((fail_if_success (with_reducible show wpAny _ _ (exec (PySem.Stmt.While _ _ _ _) _) _ _ _)); (fail_if_success (with_reducible show wpAny _ _ (pyIter _) _ _ _)); (fail_if_success (with_reducible show wpAny _ _ (eval (PySem.Expr.ListComp _ _ _ _) _) _ _ _)); (fail_if_success (with_reducible show LCg.CompSrc _ _ _ _ _ _ _ _ _ _ _ _ _ _)); (fail_if_success (with_reducible show wpAny _ _ (call (Value.ref _) _ _) _ _ _)); (first | ((with_reducible show wpAny _ _ (exec (PySem.Stmt.For _ _ _ _ _) _) _ _ _); (rename Fr _ _ _ _ => zF'); (with_unfolding_all refine' For_invVF zF' ?zk1 ?zk2 ?_; (case zk1 => exact rfl); (case zk2 => exact rfl); k_whole)) | (k_unfold; (try dsimp only)) | (k_end; wrow_close) | walk1 | (dsimp only; walk1) | (leave1; walk_say "STEP leave1"; try dsimp only) | (dsimp only; k_unfold; (try dsimp only)) | fail "no step")))); (all_goals (try (rename Fr _ _ _ _ => zF'; dsimp only at zF'))); (all_goals (try dsimp only)))
        obtain ⟨g1, g2⟩ := turn_lt (v := 0) hn0 hn1 hW hW2 (by omega) (by omega)
        rename Fr _ _ _ _ => F3
        rename News _ _ _ _ => N3
        (try simp only [List.push_toArray] at N3)
        k_dflt (refine' fo_end (c + 1 + 1, _, _, _, n * 2 ^ (1 + d3).toNat + 0, _) F3 N3 ?zl ?zi ?zn ?zf ?zp)
        case zf => kst_all
        case zl => walk_at "mine sub"
        case zi => k_mem
        case zn => (first | exact ne1_all (by assumption) | (dsimp only; k_all))
        case zp => exact ⟨by (try dsimp only); omega, by (try dsimp only); omega, g1, g2⟩
      ·
        ((repeat' (((fail_if_success (with_reducible show wpAny _ _ (exec (PySem.Stmt.While _ _ _ _) _) _ _ _)); (fail_if_success (with_reducible show wpAny _ _ (pyIter _) _ _ _)); (fail_if_success (with_reducible show wpAny _ _ (eval (PySem.Expr.ListComp _ _ _ _) _) _ _ _)); (fail_if_success (with_reducible show LCg.CompSrc _ _ _ _ _ _ _ _ _ _ _ _ _ _)); (fail_if_success (with_reducible show wpAny _ _ (call (Value.ref _) _ _) _ _ _)); (first | ((with_reducible show wpAny _ _ (exec (PySem.Stmt.For _ _ _ _ _) _) _ _ _); (rename Fr _ _ _ _ => zF'); (with_unfolding_all refine' For_invVF zF' ?zk1 ?zk2 ?_; (case zk1 => exact rfl); (case zk2 => exact rfl); k_whole)) | (k_unfold; (try dsimp only)) | (k_end; wrow_close) | walk1 | (dsimp only; walk1) | (leave1; walk_say "STEP leave1"; try dsimp only) | (dsimp only; k_unfold; (try dsimp only)) | fail "no step")))); (all_goals (try (rename Fr _ _ _ _ => zF'; dsimp only at zF'))); (all_goals (try dsimp only)))
        obtain ⟨g1, g2⟩ := turn_lt (v := (1 * 2 ^ (1 + d3).toNat - 1)) hn0 hn1 hW hW2 (by omega) (by omega)
        rename Fr _ _ _ _ => F3
        rename News _ _ _ _ => N3
        (try simp only [List.push_toArray] at N3)
        k_dflt (refine' fo_end (c + 1 + 1, _, _, _, n * 2 ^ (1 + d3).toNat + (1 * 2 ^ (1 + d3).toNat - 1), _) F3 N3 ?zl ?zi ?zn ?zf ?zp)
        case zf => kst_all
        case zl => walk_at "mine sub"
        case zi => k_mem
        case zn => (first | exact ne1_all (by assumption) | (dsimp only; k_all))
        case zp => exact ⟨by (try dsimp only); omega, by (try dsimp only); omega, g1, g2⟩
    case done =>
      rintro ⟨c, ta, tb, n9, n, tn⟩ u2 h2 tk2 ⟨hc0, hc1, hn0, hn1⟩ F8 N8
      (try dsimp only at F8)
      (try dsimp only at N8)
      (try dsimp only at hc0)
      (try dsimp only at hc1)
      (try dsimp only at hn0)
      (try dsimp only at hn1)
      (try dsimp only)
      have F8 : Fr s1.heap s1.heap.objs.size h2 _ := F8
      have N8 : News s1.heap s1.heap.objs.size h2 _ := N8
      clear F7 N7
      have hn2 : LtP n 40 := hn1.up (by omega)
      clear hn1
      have hb : 2 ≤ 2 + d4 := by omega
      have hb2 : 2 + d4 ≤ 20 := by omega
      ((repeat' (((fail_if_success (with_reducible show wpAny _ _ (exec (PySem.Stmt.While _ _ _ _) _) _ _ _)); (fail_if_success (with_reducible show wpAny _ _ (pyIter _) _ _ _)); (fail_if_success (with_reducible show wpAny _ _ (eval (PySem.Expr.ListComp _ _ _ _) _) _ _ _)); (fail_if_success (with_reducible show LCg.CompSrc _ _ _ _ _ _ _ _ _ _ _ _ _ _)); (fail_if_success (with_reducible show wpAny _ _ (call (Value.ref _) _ _) _ _ _)); (first | ((with_reducible show wpAny _ _ (exec (PySem.Stmt.For _ _ _ _ _) _) _ _ _); (rename Fr _ _ _ _ => zF'); (with_unfolding_all refine' For_invVF zF' ?zk1 ?zk2 ?_; (case zk1 => exact rfl); (case zk2 => exact rfl); k_whole)) | (k_unfold; (try dsimp only)) | (k_end; wrow_close) | walk1 | (dsimp only; walk1) | (leave1; walk_say "STEP leave1"; try dsimp only) | (dsimp only; k_unfold; (try dsimp only)) | fail "no step")))); (all_goals (try (rename Fr _ _ _ _ => zF'; dsimp only at zF'))); (all_goals (try dsimp only)))
      (rename News _ _ _ _ => N9)
      (rename Fr _ _ _ _ => F9)
      obtain ⟨f, rfl, N9⟩ := news_nm N9
      have hf1 : @Ne Nat bar f := by omega
      have hf2 : @Ne Nat ca f := by omega
      have hf3 : @Ne Nat (s1.heap.objs.size + 1) f := by omega
      refine' while_M (σ := Nat × List Value × Nat × Tok) (fun (j, fs, k9, te) => [(f, listOf fs.toArray k9), (bar, listOf #[.ref ca, .int c ta, .int k tb] n9), (ca, listOf cs.toArray 0), (s1.heap.objs.size + 1, oW)])
        (fun (j, fs, k9, te) => [(Str.ofString "barrel", .ref bar), (Str.ofString "base", .int (2 + d4) tk4), (Str.ofString "n", .int n tn), (Str.ofString "due", .ref f), (Str.ofString "exponent", .int ((2 ^ j : Nat) : Int) te)])
        (fun (j, fs, k9, te) => IntsAre fs (dues (2 + d4) j) ∧ ∀ i, i < j → (2 + d4) ^ (2 ^ i) ≤ n) (fun (j, fs, k9, te) => 7 - j) (0, [], _, _) F9 N9 ?zl ?zf ?zp ?turn (by passes_own)
      case zf => kst_all
      case zl => walk_at "mine sub"
      case zp => exact ⟨.nil, fun i hi => absurd hi (Nat.not_lt_zero i)⟩
      case turn =>
        rintro ⟨j, fs, k9, te⟩ u3 h3' tk3' ⟨hI, hc1⟩ F10 N10
        (try dsimp only at F10)
        (try dsimp only at N10)
        (try dsimp only at hI)
        (try dsimp only at hc1)
        (try dsimp only)
        have F10 : Fr s1.heap s1.heap.objs.size h3' _ := F10
        have N10 : News s1.heap s1.heap.objs.size h3' _ := N10
        clear F9 N9
        have hj6 := cnt_le hb hn2 hc1
        obtain ⟨hp0, hpl⟩ := pw_lt hb hb2 hn0 (hn2.up (k := 40) (j := 100) (by omega)) hc1 (Nat.le_refl j)
        have h2j : 2 ^ j ≤ 2 ^ 6 := Nat.pow_le_pow_right (by omega) hj6
        have h2j1 : ((2 ^ j : Nat) : Int) ≤ 64 := Int.ofNat_le.mpr (Nat.le_trans h2j (by decide))
        have p1 : (0 : Int) ≤ ((2 ^ j : Nat) : Int) := Int.natCast_nonneg _
        have p2 : ((2 ^ j : Nat) : Int) ≤ 1000000 := by omega
        have l2 : LtP 2 2000 := (LtP.small (n := 2) (by omega)).up (by omega)
        have l3 : LtP ((2 ^ j : Nat) : Int) 2000 := (LtP.small (by omega)).up (by omega)
        have e2 : (2 + d4) ^ (((2 ^ j : Nat) : Int)).toNat = (2 + d4) ^ (2 ^ j) := by rw [Int.toNat_natCast]
        have e3 : 2 * ((2 ^ j : Nat) : Int) = ((2 ^ (j + 1) : Nat) : Int) := by push_cast; rw [Int.pow_succ]; omega
        have hdl : (dues (2 + d4) j).length = j := by unfold dues; rw [List.length_map, List.length_range]
        have hsz : fs.toArray.size ≤ sizeLine := sz_of hI (k := 1000) (by omega) (by omega)
        ((repeat' (((fail_if_success (with_reducible show wpAny _ _ (exec (PySem.Stmt.While _ _ _ _) _) _ _ _)); (fail_if_success (with_reducible show wpAny _ _ (pyIter _) _ _ _)); (fail_if_success (with_reducible show wpAny _ _ (eval (PySem.Expr.ListComp _ _ _ _) _) _ _ _)); (fail_if_success (with_reducible show LCg.CompSrc _ _ _ _ _ _ _ _ _ _ _ _ _ _)); (fail_if_success (with_reducible show wpAny _ _ (call (Value.ref _) _ _) _ _ _)); (first | ((with_reducible show wpAny _ _ (exec (PySem.Stmt.For _ _ _ _ _) _) _ _ _); (rename Fr _ _ _ _ => zF'); (with_unfolding_all refine' For_invVF zF' ?zk1 ?zk2 ?_; (case zk1 => exact rfl); (case zk2 => exact rfl); k_whole)) | (k_unfold; (try dsimp only)) | (k_end; wrow_close) | walk1 | (dsimp only; walk1) | (leave1; walk_say "STEP leave1"; try dsimp only) | (dsimp only; k_unfold; (try dsimp only)) | fail "no step")))); (all_goals (try (rename Fr _ _ _ _ => zF'; dsimp only at zF'))); (all_goals (try dsimp only)))
        · rename Fr _ _ _ _ => F11
          rw [e3] at F11
          rename Fr _ _ _ _ => F3
          rename News _ _ _ _ => N3
          (try simp only [List.push_toArray] at N3)
          k_dflt (refine' wh_end (j + 1, fs ++ [.int ((2 + d4) ^ (((2 ^ j : Nat) : Int)).toNat) _], _, _) F3 N3 ?zl ?zf ?zp ?zm)
          case zf => kst_all
          case zl => walk_at "mine sub"
          case zp =>
            refine ⟨?_, fun i hi => ?_⟩
            · (try dsimp only); rw [dues_succ, ← e2]; exact ints_snoc hI
            · by_cases h : i < j
              · exact hc1 i h
              · have : i = j := by (try dsimp only at hi); omega
                rw [this, ← e2]; assumption
          case zm => (try dsimp only); omega
        · have hc2 : n < (2 + d4) ^ (2 ^ j) := by rw [← e2]; exact Int.not_le.mp (by assumption)
          rename Fr _ _ _ _ => F11
          rename News _ _ _ _ => N11
          k_dflt (refine' LCg.ListComp_U F11 (cl := [(Str.ofString "w", s1.heap.objs.size + 1)]) ?xc ?xd ?xe ?xf ?xg ?_ ?xh)
          case xc => exact rfl
          case xd => decide
          case xe => exact rfl
          case xf => decide
          case xg => exact rfl
          case xh => intro _; exact rfl
          ((repeat' (((fail_if_success (with_reducible show wpAny _ _ (exec (PySem.Stmt.While _ _ _ _) _) _ _ _)); (fail_if_success (with_reducible show wpAny _ _ (pyIter _) _ _ _)); (fail_if_success (with_reducible show wpAny _ _ (eval (PySem.Expr.ListComp _ _ _ _) _) _ _ _)); (fail_if_success (with_reducible show LCg.CompSrc _ _ _ _ _ _ _ _ _ _ _ _ _ _)); (fail_if_success (with_reducible show wpAny _ _ (call (Value.ref _) _ _) _ _ _)); (first | ((with_reducible show wpAny _ _ (exec (PySem.Stmt.For _ _ _ _ _) _) _ _ _); (rename Fr _ _ _ _ => zF'); (with_unfolding_all refine' For_invVF zF' ?zk1 ?zk2 ?_; (case zk1 => exact rfl); (case zk2 => exact rfl); k_whole)) | (k_unfold; (try dsimp only)) | (k_end; wrow_close) | walk1 | (dsimp only; walk1) | (leave1; walk_say "STEP leave1"; try dsimp only) | (dsimp only; k_unfold; (try dsimp only)) | fail "no step")))); (all_goals (try (rename Fr _ _ _ _ => zF'; dsimp only at zF'))); (all_goals (try dsimp only)))
          k_dflt (refine' use_L (law_limbs_does hW hW2 hn0 (hn2.up (by omega))) ?zB ?zF ?zX ?zN ?zT ?zk ?zs ?zd ?zu ?_)
          ((case zB => k_asm); (case zF => k_asm); (case zX => k_asm); (case zN => k_asm); (case zT => k_asm); (case zk => first | exact rfl | assumption); (case zs => walk_at "mine sub"); (case zd => decide); (case zu => decide))
          intro b5 vs5 n5 h5 tk5 F5 N5 ne5 I5
          simp only [Ne1, and_true] at ne5
          ((repeat' (((fail_if_success (with_reducible show wpAny _ _ (exec (PySem.Stmt.While _ _ _ _) _) _ _ _)); (fail_if_success (with_reducible show wpAny _ _ (pyIter _) _ _ _)); (fail_if_success (with_reducible show wpAny _ _ (eval (PySem.Expr.ListComp _ _ _ _) _) _ _ _)); (fail_if_success (with_reducible show LCg.CompSrc _ _ _ _ _ _ _ _ _ _ _ _ _ _)); (fail_if_success (with_reducible show wpAny _ _ (call (Value.ref _) _ _) _ _ _)); (first | ((with_reducible show wpAny _ _ (exec (PySem.Stmt.For _ _ _ _ _) _) _ _ _); (rename Fr _ _ _ _ => zF'); (with_unfolding_all refine' For_invVF zF' ?zk1 ?zk2 ?_; (case zk1 => exact rfl); (case zk2 => exact rfl); k_whole)) | (k_unfold; (try dsimp only)) | (k_end; wrow_close) | walk1 | (dsimp only; walk1) | (leave1; walk_say "STEP leave1"; try dsimp only) | (dsimp only; k_unfold; (try dsimp only)) | fail "no step")))); (all_goals (try (rename Fr _ _ _ _ => zF'; dsimp only at zF'))); (all_goals (try dsimp only)))
          have hWl : ∀ i, i < j → LtP ((2 + d4) ^ (2 ^ i)) 1000 := fun i hi => (hn2.le (hc1 i hi)).up (by omega)
          k_dflt (refine' use_Rows (base_powers_walk hW hW2 hn0 (hn2.up (by omega)) hb hb2 hc1 hc2 (by omega) I5) ?zB ?zF ?zX ?zN ?zT ?zk ?zs ?zd ?zu ?_)
          ((case zB => k_asm); (case zF => k_asm); (case zX => k_asm); (case zN => k_asm); (case zT => k_asm); (case zk => first | exact rfl | assumption); (case zs => walk_at "mine sub"); (case zd => decide); (case zu => decide))
          intro r6 ps n6 h6' tk6' F6 N6 me6 mep hR hRn
          simp only [List.cons_append, List.nil_append] at N6
          have hpl : ps.length = j := by rw [hR.length]; unfold pws; rw [List.length_map, List.length_range]
          have hrl : (refsOf ps).toArray.size = j := by rw [List.size_toArray, List.length_map, hpl]
          ((repeat' (((fail_if_success (with_reducible show wpAny _ _ (exec (PySem.Stmt.While _ _ _ _) _) _ _ _)); (fail_if_success (with_reducible show wpAny _ _ (pyIter _) _ _ _)); (fail_if_success (with_reducible show wpAny _ _ (eval (PySem.Expr.ListComp _ _ _ _) _) _ _ _)); (fail_if_success (with_reducible show LCg.CompSrc _ _ _ _ _ _ _ _ _ _ _ _ _ _)); (fail_if_success (with_reducible show wpAny _ _ (call (Value.ref _) _ _) _ _ _)); (first | ((with_reducible show wpAny _ _ (exec (PySem.Stmt.For _ _ _ _ _) _) _ _ _); (rename Fr _ _ _ _ => zF'); (with_unfolding_all refine' For_invVF zF' ?zk1 ?zk2 ?_; (case zk1 => exact rfl); (case zk2 => exact rfl); k_whole)) | (k_unfold; (try dsimp only)) | (k_end; wrow_close) | walk1 | (dsimp only; walk1) | (leave1; walk_say "STEP leave1"; try dsimp only) | (dsimp only; k_unfold; (try dsimp only)) | fail "no step")))); (all_goals (try (rename Fr _ _ _ _ => zF'; dsimp only at zF'))); (all_goals (try dsimp only)))
          refine LCg.CompSrc.ledger rfl F6 N6 (.head _) (by rw [hrl, sizeLine_eq]; omega) (fun g => ?_)
          rw [hrl]
          refine comp_ind (fun i ys nw => nw = _ ∧ IntsAre ys (dues (2 + d4) i)) ⟨rfl, .nil⟩ ?fin ?step
          case step =>
            rintro i ys nw v I oI C oC D m₂ h tk E' hi ⟨rfl, hI3⟩ hv hC hx F2 N2 off ⟨ne1, ne2, ne3⟩
            obtain ⟨pa, pvs, pn, hg1, hg2⟩ := hR.get i (by omega)
            rw [pws_get hi] at hg2
            have hve : v = .ref pa := by
              rw [List.getElem?_toArray, List.getElem?_map, hg1] at hv
              exact (Option.some.inj hv).symm
            subst hve
            have hpm : (pa, listOf pvs.toArray pn) ∈ ps := List.mem_of_getElem? hg1
            have hb0 : 0 ≤ (2 + d4) ^ (2 ^ i) := Int.le_of_lt (Int.pow_pos (by omega))
            ((repeat' (((fail_if_success (with_reducible show wpAny _ _ (exec (PySem.Stmt.While _ _ _ _) _) _ _ _)); (fail_if_success (with_reducible show wpAny _ _ (pyIter _) _ _ _)); (fail_if_success (with_reducible show wpAny _ _ (eval (PySem.Expr.ListComp _ _ _ _) _) _ _ _)); (fail_if_success (with_reducible show LCg.CompSrc _ _ _ _ _ _ _ _ _ _ _ _ _ _)); (fail_if_success (with_reducible show wpAny _ _ (call (Value.ref _) _ _) _ _ _)); (first | ((with_reducible show wpAny _ _ (exec (PySem.Stmt.For _ _ _ _ _) _) _ _ _); (rename Fr _ _ _ _ => zF'); (with_unfolding_all refine' For_invVF zF' ?zk1 ?zk2 ?_; (case zk1 => exact rfl); (case zk2 => exact rfl); k_whole)) | (k_unfold; (try dsimp only)) | (k_end; wrow_close) | walk1 | (dsimp only; walk1) | (leave1; walk_say "STEP leave1"; try dsimp only) | (dsimp only; k_unfold; (try dsimp only)) | fail "no step")))); (all_goals (try (rename Fr _ _ _ _ => zF'; dsimp only at zF'))); (all_goals (try dsimp only)))
            k_dflt (refine' use_I (number_walk hW hW2 hb0 (hWl i hi) hg2) ?zB ?zF ?zX ?zN ?zT ?zk ?zs ?zd ?zu ?_)
            ((case zB => k_asm); (case zF => k_asm); (case zX => k_asm); (case zN => k_asm); (case zT => k_asm); (case zk => first | exact rfl | assumption); (case zs => walk_at "mine sub"); (case zd => decide); (case zu => decide))
            intro t5 h9 tk9 F9 N9
            k_unfold
            exact LCg.CompEnd.intro F9 N9 _ (fun p hp => hp) off (.inr ⟨_, .head _, rfl, _, rfl⟩) ⟨rfl, by rw [dues_succ]; exact ints_snoc hI3⟩
          case fin =>
            rintro ys nw ⟨rfl, hI3⟩
            intro D h tk F2 N2 off
            have N2 : News s1.heap s1.heap.objs.size h ((D, listOf ys.toArray ys.length) :: _) := N2
            ((repeat' (((fail_if_success (with_reducible show wpAny _ _ (exec (PySem.Stmt.While _ _ _ _) _) _ _ _)); (fail_if_success (with_reducible show wpAny _ _ (pyIter _) _ _ _)); (fail_if_success (with_reducible show wpAny _ _ (eval (PySem.Expr.ListComp _ _ _ _) _) _ _ _)); (fail_if_success (with_reducible show LCg.CompSrc _ _ _ _ _ _ _ _ _ _ _ _ _ _)); (fail_if_success (with_reducible show wpAny _ _ (call (Value.ref _) _ _) _ _ _)); (first | ((with_reducible show wpAny _ _ (exec (PySem.Stmt.For _ _ _ _ _) _) _ _ _); (rename Fr _ _ _ _ => zF'); (with_unfolding_all refine' For_invVF zF' ?zk1 ?zk2 ?_; (case zk1 => exact rfl); (case zk2 => exact rfl); k_whole)) | (k_unfold; (try dsimp only)) | (k_end; wrow_close) | walk1 | (dsimp only; walk1) | (leave1; walk_say "STEP leave1"; try dsimp only) | (dsimp only; k_unfold; (try dsimp only)) | fail "no step")))); (all_goals (try (rename Fr _ _ _ _ => zF'; dsimp only at zF'))); (all_goals (try dsimp only)))
            rename News _ _ _ _ => N2
            have N3 : News s1.heap s1.heap.objs.size _ [(bar, listOf #[.ref ca, .int c ta, .int k tb] n9), (ca, listOf cs.toArray 0), (f, listOf fs.toArray k9), (s1.heap.objs.size + 1, oW)] := fun p hp => N2 p (by
              simp only [List.mem_cons, List.not_mem_nil, or_false] at hp ⊢
              rcases hp with h | h | h | h <;> simp [h])
            clear N2 hR hpl hrl hRn mep me6 N6 N10 N11
            k_dflt (refine' use_dip (by omega) (by omega) (by omega) hk0 hk1 (List.length_take_le _ _) (by first | assumption | omega) (by assumption) (by first | assumption | (simp only [Ne1, and_true]; (repeat' apply And.intro); (all_goals (first | assumption | (apply Ne.symm; assumption) | omega)))) (by first | assumption | (simp only [Ne1, and_true]; (repeat' apply And.intro); (all_goals (first | assumption | (apply Ne.symm; assumption) | omega)))) ?zB ?zF ?zX N3 ?zT ?zk ?zd ?zu ?_)
            ((case zB => k_asm); (case zF => k_asm); (case zX => k_asm); (case zT => k_asm); (case zk => exact rfl); (case zd => decide); (case zu => decide))
            intro d20 td20 ta20 tb20 n20 h20 tk20 hd20 he20 F20 N20
            obtain ⟨m1, rfl⟩ : ∃ m : Nat, d20 = m := ⟨d20.toNat, by omega⟩
            have hpw : ∀ i, i < j + 2 → LtP ((2 + d4) ^ (2 ^ i)) 1000 := pw_lt2 hb hb2 hn0 (hn2.up (by omega)) hc1
            ((repeat' (((fail_if_success (with_reducible show wpAny _ _ (exec (PySem.Stmt.While _ _ _ _) _) _ _ _)); (fail_if_success (with_reducible show wpAny _ _ (pyIter _) _ _ _)); (fail_if_success (with_reducible show wpAny _ _ (eval (PySem.Expr.ListComp _ _ _ _) _) _ _ _)); (fail_if_success (with_reducible show LCg.CompSrc _ _ _ _ _ _ _ _ _ _ _ _ _ _)); (fail_if_success (with_reducible show wpAny _ _ (call (Value.ref _) _ _) _ _ _)); (first | ((with_reducible show wpAny _ _ (exec (PySem.Stmt.For _ _ _ _ _) _) _ _ _); (rename Fr _ _ _ _ => zF'); (with_unfolding_all refine' For_invVF zF' ?zk1 ?zk2 ?_; (case zk1 => exact rfl); (case zk2 => exact rfl); k_whole)) | (k_unfold; (try dsimp only)) | (k_end; wrow_close) | walk1 | (dsimp only; walk1) | (leave1; walk_say "STEP leave1"; try dsimp only) | (dsimp only; k_unfold; (try dsimp only)) | fail "no step")))); (all_goals (try (rename Fr _ _ _ _ => zF'; dsimp only at zF'))); (all_goals (try dsimp only)))
            rename News _ _ _ _ => N21
            k_dflt (refine' use_dip (by omega) (by omega) (by omega) hk0 hk1 (List.length_take_le _ _) (by first | assumption | omega) (by assumption) (by first | assumption | (simp only [Ne1, and_true]; (repeat' apply And.intro); (all_goals (first | assumption | (apply Ne.symm; assumption) | omega)))) (by first | assumption | (simp only [Ne1, and_true]; (repeat' apply And.intro); (all_goals (first | assumption | (apply Ne.symm; assumption) | omega)))) ?zB ?zF ?zX N21 ?zT ?zk ?zd ?zu ?_)
            ((case zB => k_asm); (case zF => k_asm); (case zX => k_asm); (case zT => k_asm); (case zk => exact rfl); (case zd => decide); (case zu => decide))
            intro d22 td22 ta22 tb22 n22 h22 tk22 hd22 he22 F22 N22
            ((repeat' (((fail_if_success (with_reducible show wpAny _ _ (exec (PySem.Stmt.While _ _ _ _) _) _ _ _)); (fail_if_success (with_reducible show wpAny _ _ (pyIter _) _ _ _)); (fail_if_success (with_reducible show wpAny _ _ (eval (PySem.Expr.ListComp _ _ _ _) _) _ _ _)); (fail_if_success (with_reducible show LCg.CompSrc _ _ _ _ _ _ _ _ _ _ _ _ _ _)); (fail_if_success (with_reducible show wpAny _ _ (call (Value.ref _) _ _) _ _ _)); (first | ((with_reducible show wpAny _ _ (exec (PySem.Stmt.For _ _ _ _ _) _) _ _ _); (rename Fr _ _ _ _ => zF'); (with_unfolding_all refine' For_invVF zF' ?zk1 ?zk2 ?_; (case zk1 => exact rfl); (case zk2 => exact rfl); k_whole)) | (k_unfold; (try dsimp only)) | (k_end; wrow_close) | walk1 | (dsimp only; walk1) | (leave1; walk_say "STEP leave1"; try dsimp only) | (dsimp only; k_unfold; (try dsimp only)) | fail "no step")))); (all_goals (try (rename Fr _ _ _ _ => zF'; dsimp only at zF'))); (all_goals (try dsimp only)))
            k_dflt (refine' use_B (right_walk hW hW2 hb hb2 hn0 (hn2.up (by omega)) (k := m1) (by omega) (fun i hi => hpw i (by omega))) ?zB ?zF ?zX ?zN ?zT ?zk ?zs ?zd ?zu ?_)
            ((case zB => k_asm); (case zF => k_asm); (case zX => k_asm); (case zN => k_asm); (case zT => k_asm); (case zk => first | exact rfl | assumption); (case zs => walk_at "mine sub"); (case zd => decide); (case zu => decide))
            intro h23 tk23 F23 N23
            ((repeat' (((fail_if_success (with_reducible show wpAny _ _ (exec (PySem.Stmt.While _ _ _ _) _) _ _ _)); (fail_if_success (with_reducible show wpAny _ _ (pyIter _) _ _ _)); (fail_if_success (with_reducible show wpAny _ _ (eval (PySem.Expr.ListComp _ _ _ _) _) _ _ _)); (fail_if_success (with_reducible show LCg.CompSrc _ _ _ _ _ _ _ _ _ _ _ _ _ _)); (fail_if_success (with_reducible show wpAny _ _ (call (Value.ref _) _ _) _ _ _)); (first | ((with_reducible show wpAny _ _ (exec (PySem.Stmt.For _ _ _ _ _) _) _ _ _); (rename Fr _ _ _ _ => zF'); (with_unfolding_all refine' For_invVF zF' ?zk1 ?zk2 ?_; (case zk1 => exact rfl); (case zk2 => exact rfl); k_whole)) | (k_unfold; (try dsimp only)) | (k_end; wrow_close) | walk1 | (dsimp only; walk1) | (leave1; walk_say "STEP leave1"; try dsimp only) | (dsimp only; k_unfold; (try dsimp only)) | fail "no step")))); (all_goals (try (rename Fr _ _ _ _ => zF'; dsimp only at zF'))); (all_goals (try dsimp only)))
            k_dflt (refine' use_B (right_walk hW hW2 hb hb2 hn0 (hn2.up (by omega)) (k := (dues (2 + d4) j).length) (by omega) (fun i hi => hpw i (by omega))) ?zB ?zF ?zX ?zN ?zT ?zk ?zs ?zd ?zu ?_)
            ((case zB => k_asm); (case zF => k_asm); (case zX => k_asm); (case zN => k_asm); (case zT => k_asm); (case zk => first | exact rfl | assumption); (case zs => walk_at "mine sub"); (case zd => decide); (case zu => decide))
            intro h24 tk24 F24 N24
            ((repeat' (((fail_if_success (with_reducible show wpAny _ _ (exec (PySem.Stmt.While _ _ _ _) _) _ _ _)); (fail_if_success (with_reducible show wpAny _ _ (pyIter _) _ _ _)); (fail_if_success (with_reducible show wpAny _ _ (eval (PySem.Expr.ListComp _ _ _ _) _) _ _ _)); (fail_if_success (with_reducible show LCg.CompSrc _ _ _ _ _ _ _ _ _ _ _ _ _ _)); (fail_if_success (with_reducible show wpAny _ _ (call (Value.ref _) _ _) _ _ _)); (first | ((with_reducible show wpAny _ _ (exec (PySem.Stmt.For _ _ _ _ _) _) _ _ _); (rename Fr _ _ _ _ => zF'); (with_unfolding_all refine' For_invVF zF' ?zk1 ?zk2 ?_; (case zk1 => exact rfl); (case zk2 => exact rfl); k_whole)) | (k_unfold; (try dsimp only)) | (k_end; wrow_close) | walk1 | (dsimp only; walk1) | (leave1; walk_say "STEP leave1"; try dsimp only) | (dsimp only; k_unfold; (try dsimp only)) | fail "no step")))); (all_goals (try (rename Fr _ _ _ _ => zF'; dsimp only at zF'))); (all_goals (try dsimp only)))
            k_dflt (refine' use_B (right_walk (W := 3) (n := 10 ^ Int.toNat 4 + 7) (b := 10) (k := 2) (by omega) (by omega) (by omega) (by omega) (by decide) (show (10 : Int) ^ Int.toNat 4 + 7 < 2 ^ 100 by decide) (by omega) (fun i hi => pw_lt2 (n := 0) (c := 0) (by omega) (by omega) (by omega) (show (0 : Int) < 2 ^ 100 by decide) (fun j hj => absurd hj (Nat.not_lt_zero j)) i hi)) ?zB ?zF ?zX ?zN ?zT ?zk ?zs ?zd ?zu ?_)
            ((case zB => k_asm); (case zF => k_asm); (case zX => k_asm); (case zN => k_asm); (case zT => k_asm); (case zk => first | exact rfl | assumption); (case zs => walk_at "mine sub"); (case zd => decide); (case zu => decide))
            intro h25 tk25 F25 N25
            ((repeat' (((fail_if_success (with_reducible show wpAny _ _ (exec (PySem.Stmt.While _ _ _ _) _) _ _ _)); (fail_if_success (with_reducible show wpAny _ _ (pyIter _) _ _ _)); (fail_if_success (with_reducible show wpAny _ _ (eval (PySem.Expr.ListComp _ _ _ _) _) _ _ _)); (fail_if_success (with_reducible show LCg.CompSrc _ _ _ _ _ _ _ _ _ _ _ _ _ _)); (fail_if_success (with_reducible show wpAny _ _ (call (Value.ref _) _ _) _ _ _)); (first | ((with_reducible show wpAny _ _ (exec (PySem.Stmt.For _ _ _ _ _) _) _ _ _); (rename Fr _ _ _ _ => zF'); (with_unfolding_all refine' For_invVF zF' ?zk1 ?zk2 ?_; (case zk1 => exact rfl); (case zk2 => exact rfl); k_whole)) | (k_unfold; (try dsimp only)) | (k_end; wrow_close) | walk1 | (dsimp only; walk1) | (leave1; walk_say "STEP leave1"; try dsimp only) | (dsimp only; k_unfold; (try dsimp only)) | fail "no step")))); (all_goals (try (rename Fr _ _ _ _ => zF'; dsimp only at zF'))); (all_goals (try dsimp only)))))


end
end Mine
end

theorem PySem.Challenge.cw_pq0537_01_holds : PySem.Challenge.rw_pq0537_01.Holds := by
  exact Mine.law_holds
