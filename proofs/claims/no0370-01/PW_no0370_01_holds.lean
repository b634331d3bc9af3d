import PyProof.Rows.All
import Wide.All
import OpenK.AllK
import Wide.FinOn
import PySem.Challenge.RW_no0370_01
open PySem PySem.W PyProof.Rows PySem.Calls PySem.Spec
set_option Elab.async false
set_option compiler.extract_closed false
set_option maxRecDepth 100000
set_option linter.unusedVariables false
set_option linter.unusedSimpArgs false
set_option maxHeartbeats 8000000
namespace Mine
theorem off_H0 : True ∧ True := by
  first
  | (walk1; all_goals trivial)
  | exact ⟨trivial, trivial⟩
section
set_option maxRecDepth 100000
set_option maxHeartbeats 0
/-- the text's top without its five rows of __name__ -/
def viewQ : Program := { Challenge.pw_no0370_01 with main := { Challenge.pw_no0370_01.main with body := ((((Challenge.pw_no0370_01.main.body.eraseIdx 25).eraseIdx 11).eraseIdx 8).eraseIdx 5).eraseIdx 1 } }
set_option hygiene false
local macro_rules | `(tactic| o_head $H:term) => `(tactic| (
  refine holds_open (q := viewQ) (loose := [Str.ofString "PostError"]) (Xt := fun s => xlAt viewQ [] s && recOk (RowW.records (OpenRow.toRowW Challenge.rw_no0370_01.row)) s) (XP := XL viewQ []) (Yf := Hook.obs $H) (Ya := Hook.val $H) (YP := Hook.says $H) (N := 4242) ?hl (Hook.of $H) (Hook.keeps $H) (fun s e => xl_of s (Bool.and_eq_true_iff.mp e).1) XL.keeps (by rfl) (by rfl) (by rfl) (fun s e => recFacts_of (Bool.and_eq_true_iff.mp e).2) (by rfl) (by first | assumption | decide +kernel) (by decide +kernel) ⟨rfl, rfl, rfl, rfl, rfl, by decide +kernel⟩ ?hw ?hc
  case hl => (
    intro w
    delta openEnds fencedOpening topFrom
    rw [PySem.W.Fast.te10274390034422433532, PySem.W.Fast.te14082659384304107361, PySem.W.Fast.te14289696077712309145, PySem.W.Fast.te1435165496053646825, PySem.W.Fast.te4187177175401517315, PySem.W.Fast.te14364793385576792824]
    kernel_rfl)))
/-- the row's own look at itself, one kernel check -/
theorem said0 : OpenLaw.wellSaid PySem.Challenge.rw_no0370_01 = true := by kernel_rfl
local macro_rules | `(tactic| o_law) => `(tactic| refine holds_law said0 fun said => ?_)
open_top hd for PySem.Challenge.rw_no0370_01
end
theorem top_off : True := by
  w_top off
  trivial
section
abbrev tupO (its : Array Value) : Obj := { cls := .type "tuple", data := .seq its }

/-- all but the addresses of wr is kept -/
def Kp (wr : List Addr) (h h' : Heap) : Prop := ∀ b o, b ∉ wr → h.get? b = some o → h'.get? b = some o

def Con (w : World) (mean : ExcName → Option Value) (mg mb : Str → Option Value) (d : Nat) (f : Value) (args : List Value) (wr : List (Addr × Obj))
    (Pre : Heap → Prop) (Post : Heap → Heap → Value → Prop) : Prop :=
  ∀ (dp un : Nat) (gd : Option (List Code)) (cn : Str) (cs : Scope) (a : Addr) (ccd : Value) (cl : List (Str × Addr)) (outer : List Env) (A₀ : Around) (base h₀ : Heap) (L : Addr)
    (m : Str → Option Value) (s : Shared) (Q E : Value → Shared → Prop),
    Below A₀ base outer h₀ → Fr h₀ L s.heap m → (hd.heap_1 w.params).In h₀ → News h₀ L s.heap wr →
    Top viewQ (looseW viewQ [Str.ofString "PostError"]) mean mg mb h₀ → cs.kind = .function →
    dp + d < recursionLimit → un + 8 * d < cLine → Pre s.heap →
    (∀ v h' tk', Kp (wr.map (·.1)) s.heap h' → Post s.heap h' v → Q v { s with heap := h', toks := tk' }) →
    wpAny (model Challenge.rw_no0370_01.row.prog w) (ktrTop dp un gd cn cs L a ccd cl outer) (call f args) Q E s

/-- what a walked body hands back -/
def Done (g : Heap) (s : Shared) (P : Value → Heap → Prop) (v : Value) (s' : Shared) : Prop :=
  ∃ L' m' h' tk', s' = { s with heap := h', toks := tk' } ∧ Fr g L' h' m' ∧ P v h'
theorem Done.intro {g h' : Heap} {L' : Addr} {m' : Str → Option Value} {s : Shared} {tk' : Nat} {P : Value → Heap → Prop} {v : Value} (F : Fr g L' h' m') (p : P v h') :
    Done g s P v { s with heap := h', toks := tk' } := ⟨L', m', h', tk', rfl, F, p⟩

theorem con_def {w : World} {mean : ExcName → Option Value} {mg mb : Str → Option Value} {d : Nat} {f : Addr} {args : List Value} {wr : List (Addr × Obj)}
    {Pre : Heap → Prop} {Post : Heap → Heap → Value → Prop}
    {name qual : Str} {params : Arguments} {body : List Stmt} {scope : Scope} {dV kV doc pm cdv ct oc : Value} {an od : Option Addr} {osl : Array (Option Value)} {binds : List (Str × Value)}
    (ho : (hd.heap_1 w.params).lookup f = some ⟨oc, od, .func (fnOf name qual params body scope dV kV doc pm an cdv ct), osl⟩)
    (hcd : codeIn (hd.heap_1 w.params) cdv qual = true)
    (hbind : ∀ s : Shared, (hd.heap_1 w.params).In s.heap → BindsTo s (fnOf name qual params body scope dV kV doc pm an cdv ct) ⟨args, []⟩ binds)
    (hloc : ∀ y ∈ binds, scope.names.lookup y.1 = some .local)
    (hcell : ∀ x ∈ scope.names, x.2 ≠ .cell) (hco : scope.isCoroutine = false) (hgen : scope.isGenerator = false) (hk : scope.kind = .function)
    (h : ∀ (dp un : Nat) (gd : Option (List Code)) (cn : Str) (cs : Scope) (L a : Addr) (ccd : Value) (cl : List (Str × Addr)) (outer : List Env) (base h0 g h₁ : Heap) (L' : Addr) (tk : Nat) (s : Shared),
      Below (ktrTop dp un gd cn cs L a ccd cl outer) base (envX cn cs L a ccd cl :: outer) g → Fr g L' h₁ (fun y => binds.reverse.lookup y) → (hd.heap_1 w.params).In g → News g L' h₁ wr → (∀ p ∈ wr, p.1 < L') →
      Top viewQ (looseW viewQ [Str.ofString "PostError"]) mean mg mb g → dp + d < recursionLimit → un + 8 * d < cLine →
      Pre h0 → Kp (wr.map (·.1)) h0 g → (∀ p ∈ wr, h0.get? p.1 = some p.2) →
      wpAny (model Challenge.rw_no0370_01.row.prog w) ((ktrTop dp un gd cn cs L a ccd cl outer).deeper (envOf qual scope L' f cdv)) (execs body (envOf qual scope L' f cdv))
        (fun fl s' => Done g s (fun v h' => Post h0 h' v) (match fl with | .ret v => v | _ => .none) s') (fun _ _ => False) { s with heap := h₁, toks := tk }) :
    Con w mean mg mb d (.ref f) args wr Pre Post := by
  intro dp un gd cn cs a ccd cl outer A₀ base h₀ L m s Q E B F X N T hke hd hu hpre hQ
  refine wpAny_call ?_
  obtain ⟨FG, BG, st, _⟩ := groundX (A := ktrTop dp un gd cn cs L a ccd cl outer) (env := envX cn cs L a ccd cl) (R := fun _ _ => True) B F N rfl rfl hke
  have hKg : Kp (wr.map (·.1)) s.heap (hideAll s.heap (wr.map (·.1))) := fun b o hb e => hideAll_get _ e hb
  refine codeAny_call_def (fd := fnOf name qual params body scope dV kV doc pm an cdv ct) (body := body) (binds := binds) (by show dp < recursionLimit; omega) ((X.keeps F.keep) _ _ ho) rfl (T.nolimit.keeps F.keep)
    (codeRec_of (X.keeps F.keep) hcd) rfl (hbind s (X.keeps F.keep)) hcell hloc (fun h₁ hns hk₁ => ?_) hco hgen hk
  have FB : Fr (hideAll s.heap (wr.map (·.1))) s.heap.objs.size h₁ (fun y => binds.reverse.lookup y) := ⟨hns, fun b o e => hk₁ b o (of_hideAll _ e), Nat.le_of_eq (hideAll_size _ _)⟩
  have NB : News (hideAll s.heap (wr.map (·.1))) s.heap.objs.size h₁ wr := fun p hp => ⟨hk₁ _ _ (N p hp).1, Nat.ne_of_lt (Heap.lt_size (N p hp).1), hideAll_none _ (List.mem_map_of_mem hp)⟩
  refine wpAny_mono (h dp un gd cn cs L a ccd cl outer base s.heap _ h₁ s.heap.objs.size _ s BG FB (X.keeps st) NB (fun p hp => Heap.lt_size (N p hp).1) (T.keeps st) hd hu hpre hKg (fun p hp => (N p hp).1)) (fun fl s' hl => ?_) fun _ _ e => e.elim
  obtain ⟨L', m', h', tk', rfl, F', p⟩ := hl
  exact hQ _ _ _ (fun b o hb e => F'.keep b o (hKg b o hb e)) p
end
section
theorem kp_fr {h₀ h h' : Heap} {L : Addr} {m : Str → Option Value} (F : Fr h₀ L h m) {wr : List Addr} (hw : ∀ b ∈ wr, h₀.get? b = none ∧ b ≠ L) (k : Kp wr h h') : Fr h₀ L h' m := by
  obtain ⟨oL, a1, a2, hL, a3⟩ := F.ns
  exact ⟨⟨oL, a1, a2, k _ _ (fun q => (hw _ q).2 rfl) hL, a3⟩, fun b o e => k b o (fun q => by rw [(hw _ q).1] at e; cases e) (F.keep b o e), F.above⟩
theorem kp_keep {h₀ h : Heap} {L : Addr} {m : Str → Option Value} (F : Fr h₀ L h m) : Kp [] h₀ h := fun b o _ e => F.keep b o e
theorem kp_news {h₀ h h' : Heap} {L : Addr} {news : List (Addr × Obj)} (N : News h₀ L h news) {wr : List Addr} (k : Kp wr h h') (hn : ∀ p ∈ news, p.1 ∉ wr) : News h₀ L h' news :=
  fun p hp => ⟨k _ _ (hn p hp) (N p hp).1, (N p hp).2⟩
theorem kp_add {h₀ h h' : Heap} {L b : Addr} {o : Obj} {m : Str → Option Value} {news : List (Addr × Obj)} (F : Fr h₀ L h m) (N : News h₀ L h' news) (hb : h.get? b = none) (hb' : h'.get? b = some o) :
    News h₀ L h' ((b, o) :: news) := by
  intro p hp
  rcases List.mem_cons.mp hp with rfl | hp
  · refine ⟨hb', ?_, ?_⟩
    · rintro rfl
      obtain ⟨oL, _, _, hL, _⟩ := F.ns
      rw [hL] at hb; cases hb
    · cases q : h₀.get? b with
      | none => rfl
      | some o' => have := F.keep _ _ q; rw [hb] at this; cases this
  · exact N p hp
theorem kp_apart {h₀ h : Heap} {L b : Addr} {news : List (Addr × Obj)} (N : News h₀ L h news) (hb : h.get? b = none) : ∀ p ∈ news, p.1 ≠ b := fun p hp e => by
  have := (N p hp).1; rw [e, hb] at this; cases this

theorem Con.use {w : World} {mean : ExcName → Option Value} {mg mb : Str → Option Value} {d : Nat} {f : Value} {args : List Value} {Pre : Heap → Prop} {Post : Heap → Heap → Value → Prop}
    (C : Con w mean mg mb d f args [] Pre Post)
    {dp un : Nat} {gd : Option (List Code)} {cn : Str} {cs : Scope} {a : Addr} {ccd : Value} {cl : List (Str × Addr)} {outer : List Env} {A₀ : Around} {base h₀ : Heap} {L : Addr} {m : Str → Option Value} {s : Shared} {Q E : Value → Shared → Prop} {news : List (Addr × Obj)}
    (B : Below A₀ base outer h₀) (F : Fr h₀ L s.heap m) (X : (hd.heap_1 w.params).In h₀) (N : News h₀ L s.heap news)
    (T : Top viewQ (looseW viewQ [Str.ofString "PostError"]) mean mg mb h₀) (hk : cs.kind = .function) (hd : dp + d < recursionLimit) (hu : un + 8 * d < cLine) (hpre : Pre s.heap)
    (k : ∀ v h' tk', Kp [] s.heap h' → Fr h₀ L h' m → News h₀ L h' news → Post s.heap h' v → Q v { s with heap := h', toks := tk' }) :
    wpAny (model Challenge.rw_no0370_01.row.prog w) (ktrTop dp un gd cn cs L a ccd cl outer) (call f args) Q E s :=
  C dp un gd cn cs a ccd cl outer A₀ base h₀ L m s Q E B F X (fun _ hp => nomatch hp) T hk hd hu hpre fun v h' tk' hK hP =>
    k v h' tk' hK (kp_fr (wr := []) F (by simp) hK) (kp_news (wr := []) N hK (by simp)) hP
end
section
section
variable {prog : Program} {w : World} {A : Around} {E : Value → Shared → Prop} {s : Shared} {env : Env} {h₀ : Heap} {target : Expr} {body : List Stmt} {Q : Flow → Shared → Prop}

def EndJ (h₀ : Heap) (L : Addr) (J : (Str → Option Value) → List (Addr × Obj) → Prop) (it : Addr × Obj) (s₁ s₂ : Shared) : Prop :=
  ∃ h' tk m' nx led, s₂ = { s₁ with heap := h', toks := tk } ∧ Fr h₀ L h' m' ∧ News h₀ L h' led ∧ it ∈ led ∧ (∀ p ∈ nx, p ∈ led) ∧ (∀ p ∈ nx, p.1 ≠ it.1) ∧ J m' nx
def PostJ (h₀ : Heap) (L : Addr) (J : (Str → Option Value) → List (Addr × Obj) → Prop) (it : Addr × Obj) (s₁ : Shared) (Q : Flow → Shared → Prop) (f : Flow) (s₂ : Shared) : Prop :=
  match f with
  | .ret v => Q (.ret v) s₂
  | .brk => Q .next s₂
  | _ => EndJ h₀ L J it s₁ s₂
theorem EndJ.intro {L : Addr} {J : (Str → Option Value) → List (Addr × Obj) → Prop} {it : Addr × Obj} {m' : Str → Option Value} {nx led : List (Addr × Obj)} {s₁ : Shared} {h' : Heap} {tk : Nat}
    (F : Fr h₀ L h' m') (N : News h₀ L h' led) (hi : it ∈ led) (hn : ∀ p ∈ nx, p ∈ led) (ho : ∀ p ∈ nx, p.1 ≠ it.1) (hj : J m' nx) : EndJ h₀ L J it s₁ { s₁ with heap := h', toks := tk } :=
  ⟨h', tk, m', nx, led, rfl, F, N, hi, hn, ho, hj⟩

theorem turns_J {I : Addr} {fp : List Addr} {n : Nat} {P Md : Nat → Value → Heap → Prop} {St : Nat → Heap → Prop} {m₀ : Str → Option Value} {news fixed : List (Addr × Obj)} {hp : Heap} {tk0 : Nat}
    (W : KTurns prog w A target I fp [I] n P Md St) (hfp : ∀ b ∈ fp, b = I ∨ ∃ o, (b, o) ∈ fixed) (hL : env.locals ∉ fp) (hobj : ∀ i h, St i h → ∃ oI, h.get? I = some oI)
    (hI : h₀.get? I = none) (hst : St 0 hp) (F : Fr h₀ env.locals hp m₀) (N : News h₀ env.locals hp news) (hnw : ∀ p ∈ news, p.1 ≠ I)
    (J : Nat → (Str → Option Value) → List (Addr × Obj) → Prop) (hj : J 0 m₀ news)
    (keep : ∀ i m' nx h' q, q ∈ fixed → J i m' nx → Fr h₀ env.locals h' m' → News h₀ env.locals h' nx → h'.get? q.1 = some q.2)
    (turn : ∀ i v m₁ nx h tk oI, i < n → P i v h → J i m₁ nx → (∀ p ∈ nx, p.1 ≠ I) → Fr h₀ env.locals h m₁ → News h₀ env.locals h ((I, oI) :: nx) →
      wpAny (model prog w) A (assign target env v) (fun _ s₃ => wpAny (model prog w) A (execs body env) (PostJ h₀ env.locals (J (i + 1)) (I, oI) { s with heap := h, toks := tk } Q) E s₃) E { s with heap := h, toks := tk })
    (done : ∀ m₁ nx h tk, J n m₁ nx → Fr h₀ env.locals h m₁ → News h₀ env.locals h nx → Q .next { s with heap := h, toks := tk }) :
    TurnsAt prog w A h₀ env target body Q E (.ref I) { s with heap := hp, toks := tk0 } := by
  refine ⟨I, fp, [I], n, P, Md, St, m₀, news, J, rfl, W, hL, fun b hb => (List.mem_singleton.mp hb) ▸ hI, fun p hp hq => hnw p hp (List.mem_singleton.mp hq), hst, F, N, hj, ?_, ?_⟩
  · intro i v m₁ news₁ h₁ tk₁ own hin hPi hJ hoff hown hget hall hst₁ F₁ N₁
    obtain ⟨oI, hoI⟩ := hobj (i + 1) h₁ hst₁
    have hIo : (I, oI) ∈ own := hall I (W.sub I (List.mem_singleton.mpr rfl)) hI oI hoI
    have hoff' : ∀ p ∈ news₁, p.1 ≠ I := fun p hp q => hoff p hp (List.mem_singleton.mpr q)
    have N₂ : News h₀ env.locals h₁ ((I, oI) :: news₁) := fun p hp => by
      rcases List.mem_cons.mp hp with rfl | hp
      · exact N₁ _ (List.mem_append_left _ hIo)
      · exact N₁ _ (List.mem_append_right _ hp)
    have N₃ : News h₀ env.locals h₁ news₁ := fun p hp => N₂ p (List.mem_cons_of_mem _ hp)
    have fin : ∀ s₃, EndJ h₀ env.locals (J (i + 1)) (I, oI) { s with heap := h₁, toks := tk₁ } s₃ → LoopStepU h₀ env.locals [I] own (J (i + 1)) { s with heap := h₁, toks := tk₁ } .next s₃ := by
      rintro s₃ ⟨h', tk, m', nx, led, e, F', N', hi, hn, ho, hJ'⟩
      have Nx : News h₀ env.locals h' nx := fun p hp => N' p (hn p hp)
      refine ⟨rfl, h', tk, m', nx, e, F', ?_, fun p hp hq => ho p hp (List.mem_singleton.mp hq), hJ'⟩
      rintro ⟨pa, po⟩ hp
      rcases List.mem_append.mp hp with hp | hp
      · have h2 : h₁.get? pa = some po := hget _ hp
        rcases hfp pa (hown _ hp) with h3 | ⟨o, h3⟩
        · subst h3
          have : po = oI := Option.some.inj (h2.symm.trans hoI)
          subst this
          exact N' _ hi
        · have h4 := keep i m₁ news₁ h₁ _ h3 hJ F₁ N₃
          have h5 : o = po := Option.some.inj (h4.symm.trans h2)
          subst h5
          have h6 := N₁ _ (List.mem_append_left _ hp)
          exact ⟨keep (i + 1) m' nx h' _ h3 hJ' F' Nx, h6.2⟩
      · exact Nx _ hp
    refine wpAny_mono (turn i v m₁ news₁ h₁ tk₁ oI hin hPi hJ hoff' F₁ N₂) (fun _ s₂ h₂ => wpAny_mono h₂ (fun f s₃ p => ?_) fun _ _ e => e) fun _ _ e => e
    cases f with
    | ret v => exact .ret p
    | brk => exact .brk p
    | next => exact .next (fin _ p)
    | cont => exact .cont (fin _ p)
  · intro h' tk m' news' F' N' _ hJ
    exact done m' news' h' tk hJ F' N'

theorem iterJ_tuple {ax : Addr} {lo : Obj} {vs : List Value} {n : Nat} {m₀ : Str → Option Value} {news : List (Addr × Obj)}
    (hh : A.handled = none) (F : Fr h₀ env.locals s.heap m₀) (N : News h₀ env.locals s.heap news) (hax : s.heap.get? ax = some lo) (hLx : env.locals ≠ ax) (hc : lo.cls = .type "tuple") (hd : lo.data = .seq vs.toArray n)
    (J : Nat → (Str → Option Value) → List (Addr × Obj) → Prop) (hj : J 0 m₀ news)
    (keep : ∀ i m' nx h', J i m' nx → Fr h₀ env.locals h' m' → News h₀ env.locals h' nx → h'.get? ax = some lo)
    (turn : ∀ i v m₁ nx h tk I oI, vs[i]? = some v → J i m₁ nx → (∀ p ∈ nx, p.1 ≠ I) → Fr h₀ env.locals h m₁ → News h₀ env.locals h ((I, oI) :: nx) →
      wpAny (model prog w) A (assign target env v) (fun _ s₃ => wpAny (model prog w) A (execs body env) (PostJ h₀ env.locals (J (i + 1)) (I, oI) { s with heap := h, toks := tk } Q) E s₃) E { s with heap := h, toks := tk })
    (done : ∀ m₁ nx h tk, J vs.length m₁ nx → Fr h₀ env.locals h m₁ → News h₀ env.locals h nx → Q .next { s with heap := h, toks := tk }) :
    wpAny (model prog w) A (pyIter (.ref ax)) (fun it s₂ => TurnsAt prog w A h₀ env target body Q E it s₂) E s := by
  have hl : s.heap.IsTuple ax vs.toArray := ⟨lo, hax, hc, n, hd⟩
  have hlt : ax < s.heap.objs.size := Heap.lt_size hax
  have hne : ax ≠ s.heap.objs.size := Nat.ne_of_lt hlt
  refine wpAny_pyIter_tuple hl ?_
  refine turns_J (tk0 := s.toks) (fixed := [(ax, lo)]) (KTurns.ofWalks (Walks.tuple hh s.heap.objs.size ax hne vs.toArray) fun i v s Q E st q => letGo_tupleiter st.1 q) (fun b hb => ?_) ?_ (fun i h st => ?_) (next_is_new F) ?_ (F.push _) (fun p hp => ⟨Heap.get?_push_of_some _ (N p hp).1, (N p hp).2⟩) (fun p hp q => absurd (Heap.lt_size (N p hp).1) (q ▸ Nat.lt_irrefl _)) J hj ?_ ?_ ?_
  · have hb' : b = s.heap.objs.size ∨ b = ax := by simpa using hb
    rcases hb' with e | e
    · exact .inl e
    · exact .inr ⟨lo, by simp [e]⟩
  · intro hI
    rcases List.mem_cons.mp hI with e | hI
    · exact absurd F.ns.lt (e ▸ Nat.lt_irrefl _)
    · exact hLx (List.mem_singleton.mp hI)
  · obtain ⟨it, hit, _⟩ := st.1
    exact ⟨it, hit⟩
  · exact ⟨⟨_, Heap.get?_push_size _ rfl, rfl, rfl⟩, hl.at fun o e => Heap.get?_push_of_some _ e⟩
  · intro i m' nx h' q hq a b c
    rw [List.mem_singleton.mp hq]; exact keep i m' nx h' a b c
  · intro i v m₁ nx h tk oI hi hP
    have hP' : vs.toArray[i]? = some v := hP
    exact turn i v m₁ nx h tk _ oI (by simpa using hP')
  · intro m₁ nx h tk hJ
    exact done m₁ nx h tk (by simpa using hJ)

theorem iterJ_list {ax : Addr} {lo : Obj} {vs : List Value} {n : Nat} {m₀ : Str → Option Value} {news : List (Addr × Obj)}
    (hh : A.handled = none) (F : Fr h₀ env.locals s.heap m₀) (N : News h₀ env.locals s.heap news) (hax : s.heap.get? ax = some lo) (hLx : env.locals ≠ ax) (hc : lo.cls = .type "list") (hd : lo.data = .seq vs.toArray n)
    (J : Nat → (Str → Option Value) → List (Addr × Obj) → Prop) (hj : J 0 m₀ news)
    (keep : ∀ i m' nx h', J i m' nx → Fr h₀ env.locals h' m' → News h₀ env.locals h' nx → h'.get? ax = some lo)
    (turn : ∀ i v m₁ nx h tk I oI, vs[i]? = some v → J i m₁ nx → (∀ p ∈ nx, p.1 ≠ I) → Fr h₀ env.locals h m₁ → News h₀ env.locals h ((I, oI) :: nx) →
      wpAny (model prog w) A (assign target env v) (fun _ s₃ => wpAny (model prog w) A (execs body env) (PostJ h₀ env.locals (J (i + 1)) (I, oI) { s with heap := h, toks := tk } Q) E s₃) E { s with heap := h, toks := tk })
    (done : ∀ m₁ nx h tk, J vs.length m₁ nx → Fr h₀ env.locals h m₁ → News h₀ env.locals h nx → Q .next { s with heap := h, toks := tk }) :
    wpAny (model prog w) A (pyIter (.ref ax)) (fun it s₂ => TurnsAt prog w A h₀ env target body Q E it s₂) E s := by
  have hl : s.heap.IsList ax vs.toArray := ⟨lo, hax, hc, n, hd⟩
  have hlt : ax < s.heap.objs.size := Heap.lt_size hax
  have hne : ax ≠ s.heap.objs.size := Nat.ne_of_lt hlt
  refine wpAny_pyIter_list hl ?_
  refine turns_J (tk0 := s.toks) (fixed := [(ax, lo)]) (KTurns.ofWalks (Walks.list hh s.heap.objs.size ax hne vs.toArray) fun i v s Q E st q => letGo_listiter st.1 q) (fun b hb => ?_) ?_ (fun i h st => ?_) (next_is_new F) ?_ (F.push _) (fun p hp => ⟨Heap.get?_push_of_some _ (N p hp).1, (N p hp).2⟩) (fun p hp q => absurd (Heap.lt_size (N p hp).1) (q ▸ Nat.lt_irrefl _)) J hj ?_ ?_ ?_
  · have hb' : b = s.heap.objs.size ∨ b = ax := by simpa using hb
    rcases hb' with e | e
    · exact .inl e
    · exact .inr ⟨lo, by simp [e]⟩
  · intro hI
    rcases List.mem_cons.mp hI with e | hI
    · exact absurd F.ns.lt (e ▸ Nat.lt_irrefl _)
    · exact hLx (List.mem_singleton.mp hI)
  · obtain ⟨it, hit, _⟩ := st.1
    exact ⟨it, hit⟩
  · exact ⟨⟨_, Heap.get?_push_size _ rfl, rfl, rfl⟩, hl.at fun o e => Heap.get?_push_of_some _ e⟩
  · intro i m' nx h' q hq a b c
    rw [List.mem_singleton.mp hq]; exact keep i m' nx h' a b c
  · intro i v m₁ nx h tk oI hi hP
    have hP' : vs.toArray[i]? = some v := hP
    exact turn i v m₁ nx h tk _ oI (by simpa using hP')
  · intro m₁ nx h tk hJ
    exact done m₁ nx h tk (by simpa using hJ)

theorem iterJ_range {r : Addr} {b₀ : Int} {t₀ u₀ v₀ : Tok} {n : Nat} {m₀ : Str → Option Value} {news : List (Addr × Obj)}
    (hh : A.handled = none) (F : Fr h₀ env.locals s.heap m₀) (N : News h₀ env.locals s.heap news) (hr : IsRange s.heap r 0 b₀ 1 t₀ u₀ v₀) (hsmall : Builtin.Range.small 0 b₀ 1 = true) (hn : Builtin.Range.rangeSize 0 b₀ 1 = (n : Int))
    (hgo : ∀ it v, letOwnedTupleGo target it v = pure ())
    (J : Nat → (Str → Option Value) → List (Addr × Obj) → Prop) (hj : J 0 m₀ news)
    (turn : ∀ (i : Nat) t m₁ nx h tk I oI, i < n → J i m₁ nx → (∀ p ∈ nx, p.1 ≠ I) → Fr h₀ env.locals h m₁ → News h₀ env.locals h ((I, oI) :: nx) →
      wpAny (model prog w) A (assign target env (.int (i : Int) t)) (fun _ s₃ => wpAny (model prog w) A (execs body env) (PostJ h₀ env.locals (J (i + 1)) (I, oI) { s with heap := h, toks := tk } Q) E s₃) E { s with heap := h, toks := tk })
    (done : ∀ m₁ nx h tk, J n m₁ nx → Fr h₀ env.locals h m₁ → News h₀ env.locals h nx → Q .next { s with heap := h, toks := tk }) :
    wpAny (model prog w) A (pyIter (.ref r)) (fun it s₂ => TurnsAt prog w A h₀ env target body Q E it s₂) E s := by
  refine wpAny_pyIter_range hr hsmall ?_
  have W : Walks prog w A s.heap.objs.size [s.heap.objs.size] [s.heap.objs.size] n (fun i v => i < n ∧ ∃ t, v = .int (0 + i * 1) t)
      (fun i h => IsRangeIter h s.heap.objs.size (0 + (i : Nat) * 1) ((n : Int) - (i : Nat)) 1) := (Walks.range hh _ 0 1 n).bound
  refine turns_J (tk0 := s.toks) (fixed := []) (KTurns.ofWalks W fun i v s Q E _ q => by rw [hgo]; exact wpAny_pure q) (fun b hb => .inl (List.mem_singleton.mp hb)) ?_ (fun i h st => ?_) (next_is_new F) (by show IsRangeIter _ _ _ _ _; rw [hn]; simpa using Heap.get?_push_size _ rfl) (F.push _) (fun p hp => ⟨Heap.get?_push_of_some _ (N p hp).1, (N p hp).2⟩) (fun p hp q => absurd (Heap.lt_size (N p hp).1) (q ▸ Nat.lt_irrefl _)) J hj (fun i m' nx h' q hq => nomatch hq) ?_ ?_
  · intro hm
    exact absurd F.ns.lt ((List.mem_singleton.mp hm) ▸ Nat.lt_irrefl _)
  · exact ⟨_, st⟩
  · rintro i v m₁ nx h tk oI hi ⟨_, t, rfl⟩
    have e1 : (0 : Int) + (i : Int) * 1 = (i : Int) := by omega
    rw [e1]
    exact turn i t m₁ nx h tk _ oI hi
  · exact done

/-! a loop's state: sigma; stored names; the names' known values; the ledger; the facts -/
def JS {σ : Type} (stored : List Str) (Ps : Nat → σ → List (Str × Value)) (Led : Nat → σ → List (Addr × Obj)) (Fa : Nat → σ → Prop) (m₀ : Str → Option Value) (i : Nat) (m : Str → Option Value) (nx : List (Addr × Obj)) : Prop :=
  ∃ c, nx = Led i c ∧ Fa i c ∧ (∀ p ∈ Ps i c, m p.1 = some p.2) ∧ ∀ z, (∀ p ∈ Ps i c, z ≠ p.1) → stored.contains z = false → m z = m₀ z
theorem js_fr {σ : Type} {stored : List Str} {ps : List (Str × Value)} {L : Addr} {m₀ m₁ : Str → Option Value} {h : Heap} (h1 : ∀ p ∈ ps, m₁ p.1 = some p.2) (h2 : ∀ z, (∀ p ∈ ps, z ≠ p.1) → stored.contains z = false → m₁ z = m₀ z)
    (F : Fr h₀ L h m₁) : Fr h₀ L h (kstB (fun z => if stored.contains z then m₁ z else m₀ z) ps) := ksw_fr h1 h2 F

def EndS {σ : Type} (h₀ : Heap) (L : Addr) (stored : List Str) (Ps : Nat → σ → List (Str × Value)) (Led : Nat → σ → List (Addr × Obj)) (Fa : Nat → σ → Prop) (m₀ : Str → Option Value) (i : Nat) (it : Addr × Obj) (s₁ s₂ : Shared) : Prop :=
  EndJ h₀ L (JS stored Ps Led Fa m₀ i) it s₁ s₂
def PostS {σ : Type} (h₀ : Heap) (L : Addr) (stored : List Str) (Ps : Nat → σ → List (Str × Value)) (Led : Nat → σ → List (Addr × Obj)) (Fa : Nat → σ → Prop) (m₀ : Str → Option Value) (i : Nat) (it : Addr × Obj) (s₁ : Shared) (Q : Flow → Shared → Prop) (f : Flow) (s₂ : Shared) : Prop :=
  match f with
  | .ret v => Q (.ret v) s₂
  | .brk => Q .next s₂
  | _ => EndS h₀ L stored Ps Led Fa m₀ i it s₁ s₂
theorem PostS.toJ {σ : Type} {L : Addr} {stored : List Str} {Ps : Nat → σ → List (Str × Value)} {Led : Nat → σ → List (Addr × Obj)} {Fa : Nat → σ → Prop} {m₀ : Str → Option Value} {i : Nat} {it : Addr × Obj} {s₁ : Shared} {f : Flow} {s₂ : Shared}
    (h : PostS h₀ L stored Ps Led Fa m₀ i it s₁ Q f s₂) : PostJ h₀ L (JS stored Ps Led Fa m₀ i) it s₁ Q f s₂ := by
  cases f <;> exact h
theorem EndS.intro {σ : Type} {L : Addr} {stored : List Str} {Ps : Nat → σ → List (Str × Value)} {Led : Nat → σ → List (Addr × Obj)} {Fa : Nat → σ → Prop} {m₀ : Str → Option Value} {i : Nat} {it : Addr × Obj} {m' : Str → Option Value} {led : List (Addr × Obj)} {s₁ : Shared} {h' : Heap} {tk : Nat} (c : σ)
    (F : Fr h₀ L h' m') (N : News h₀ L h' led) (hi : it ∈ led) (hn : ∀ p ∈ Led i c, p ∈ led) (ho : ∀ p ∈ Led i c, p.1 ≠ it.1) (hf : Fa i c) (hp : ∀ p ∈ Ps i c, m' p.1 = some p.2)
    (hs : ∀ z, (∀ p ∈ Ps i c, z ≠ p.1) → stored.contains z = false → m' z = m₀ z) : EndS h₀ L stored Ps Led Fa m₀ i it s₁ { s₁ with heap := h', toks := tk } :=
  ⟨h', tk, m', Led i c, led, rfl, F, N, hi, hn, ho, c, rfl, hf, hp, hs⟩

theorem iterS_tuple {σ : Type} {ax : Addr} {lo : Obj} {vs : List Value} {n : Nat} {m₀ : Str → Option Value} {news : List (Addr × Obj)} (stored : List Str) (Ps : Nat → σ → List (Str × Value)) (Led : Nat → σ → List (Addr × Obj)) (Fa : Nat → σ → Prop) (c₀ : σ)
    (hh : A.handled = none) (F : Fr h₀ env.locals s.heap m₀) (N : News h₀ env.locals s.heap news) (hN : ∀ p ∈ Led 0 c₀, p ∈ news) (hf : Fa 0 c₀) (hp : ∀ p ∈ Ps 0 c₀, m₀ p.1 = some p.2)
    (hax : s.heap.get? ax = some lo) (hLx : env.locals ≠ ax) (hc : lo.cls = .type "tuple") (hd : lo.data = .seq vs.toArray n)
    (keep : ∀ i c h' m', Fa i c → Fr h₀ env.locals h' m' → News h₀ env.locals h' (Led i c) → h'.get? ax = some lo)
    (turn : ∀ i v c (u : Str → Option Value) h tk I oI, vs[i]? = some v → Fa i c → (∀ p ∈ Led i c, p.1 ≠ I) → Fr h₀ env.locals h (kstB (fun z => if stored.contains z then u z else m₀ z) (Ps i c)) → News h₀ env.locals h ((I, oI) :: Led i c) →
      wpAny (model prog w) A (assign target env v) (fun _ s₃ => wpAny (model prog w) A (execs body env) (PostS h₀ env.locals stored Ps Led Fa m₀ (i + 1) (I, oI) { s with heap := h, toks := tk } Q) E s₃) E { s with heap := h, toks := tk })
    (done : ∀ c (u : Str → Option Value) h tk, Fa vs.length c → Fr h₀ env.locals h (kstB (fun z => if stored.contains z then u z else m₀ z) (Ps vs.length c)) → News h₀ env.locals h (Led vs.length c) → Q .next { s with heap := h, toks := tk }) :
    wpAny (model prog w) A (pyIter (.ref ax)) (fun it s₂ => TurnsAt prog w A h₀ env target body Q E it s₂) E s := by
  refine iterJ_tuple hh F (news := Led 0 c₀) (fun p hp => N p (hN p hp)) hax hLx hc hd (JS stored Ps Led Fa m₀) ⟨c₀, rfl, hf, hp, fun _ _ _ => rfl⟩ ?_ ?_ ?_
  · rintro i m' nx h' ⟨c, rfl, hf, _⟩ a b
    exact keep i c h' m' hf a b
  · rintro i v m₁ nx h tk I oI hv ⟨c, rfl, hf, h1, h2⟩ ho F₁ N₁
    exact wpAny_mono (turn i v c m₁ h tk I oI hv hf ho (ksw_fr h1 h2 F₁) N₁) (fun _ s₃ x => wpAny_mono x (fun _ _ y => y.toJ) fun _ _ e => e) fun _ _ e => e
  · rintro m₁ nx h tk ⟨c, rfl, hf, h1, h2⟩ F₁ N₁
    exact done c m₁ h tk hf (ksw_fr h1 h2 F₁) N₁
theorem iterS_list {σ : Type} {ax : Addr} {lo : Obj} {vs : List Value} {n : Nat} {m₀ : Str → Option Value} {news : List (Addr × Obj)} (stored : List Str) (Ps : Nat → σ → List (Str × Value)) (Led : Nat → σ → List (Addr × Obj)) (Fa : Nat → σ → Prop) (c₀ : σ)
    (hh : A.handled = none) (F : Fr h₀ env.locals s.heap m₀) (N : News h₀ env.locals s.heap news) (hN : ∀ p ∈ Led 0 c₀, p ∈ news) (hf : Fa 0 c₀) (hp : ∀ p ∈ Ps 0 c₀, m₀ p.1 = some p.2)
    (hax : s.heap.get? ax = some lo) (hLx : env.locals ≠ ax) (hc : lo.cls = .type "list") (hd : lo.data = .seq vs.toArray n)
    (keep : ∀ i c h' m', Fa i c → Fr h₀ env.locals h' m' → News h₀ env.locals h' (Led i c) → h'.get? ax = some lo)
    (turn : ∀ i v c (u : Str → Option Value) h tk I oI, vs[i]? = some v → Fa i c → (∀ p ∈ Led i c, p.1 ≠ I) → Fr h₀ env.locals h (kstB (fun z => if stored.contains z then u z else m₀ z) (Ps i c)) → News h₀ env.locals h ((I, oI) :: Led i c) →
      wpAny (model prog w) A (assign target env v) (fun _ s₃ => wpAny (model prog w) A (execs body env) (PostS h₀ env.locals stored Ps Led Fa m₀ (i + 1) (I, oI) { s with heap := h, toks := tk } Q) E s₃) E { s with heap := h, toks := tk })
    (done : ∀ c (u : Str → Option Value) h tk, Fa vs.length c → Fr h₀ env.locals h (kstB (fun z => if stored.contains z then u z else m₀ z) (Ps vs.length c)) → News h₀ env.locals h (Led vs.length c) → Q .next { s with heap := h, toks := tk }) :
    wpAny (model prog w) A (pyIter (.ref ax)) (fun it s₂ => TurnsAt prog w A h₀ env target body Q E it s₂) E s := by
  refine iterJ_list hh F (news := Led 0 c₀) (fun p hp => N p (hN p hp)) hax hLx hc hd (JS stored Ps Led Fa m₀) ⟨c₀, rfl, hf, hp, fun _ _ _ => rfl⟩ ?_ ?_ ?_
  · rintro i m' nx h' ⟨c, rfl, hf, _⟩ a b
    exact keep i c h' m' hf a b
  · rintro i v m₁ nx h tk I oI hv ⟨c, rfl, hf, h1, h2⟩ ho F₁ N₁
    exact wpAny_mono (turn i v c m₁ h tk I oI hv hf ho (ksw_fr h1 h2 F₁) N₁) (fun _ s₃ x => wpAny_mono x (fun _ _ y => y.toJ) fun _ _ e => e) fun _ _ e => e
  · rintro m₁ nx h tk ⟨c, rfl, hf, h1, h2⟩ F₁ N₁
    exact done c m₁ h tk hf (ksw_fr h1 h2 F₁) N₁
theorem iterS_range {σ : Type} {r : Addr} {b₀ : Int} {t₀ u₀ v₀ : Tok} {n : Nat} {m₀ : Str → Option Value} {news : List (Addr × Obj)} (stored : List Str) (Ps : Nat → σ → List (Str × Value)) (Led : Nat → σ → List (Addr × Obj)) (Fa : Nat → σ → Prop) (c₀ : σ)
    (hh : A.handled = none) (F : Fr h₀ env.locals s.heap m₀) (N : News h₀ env.locals s.heap news) (hN : ∀ p ∈ Led 0 c₀, p ∈ news) (hf : Fa 0 c₀) (hp : ∀ p ∈ Ps 0 c₀, m₀ p.1 = some p.2)
    (hr : IsRange s.heap r 0 b₀ 1 t₀ u₀ v₀) (hsmall : Builtin.Range.small 0 b₀ 1 = true) (hn : Builtin.Range.rangeSize 0 b₀ 1 = (n : Int)) (hgo : ∀ it v, letOwnedTupleGo target it v = pure ())
    (turn : ∀ (i : Nat) t c (u : Str → Option Value) h tk I oI, i < n → Fa i c → (∀ p ∈ Led i c, p.1 ≠ I) → Fr h₀ env.locals h (kstB (fun z => if stored.contains z then u z else m₀ z) (Ps i c)) → News h₀ env.locals h ((I, oI) :: Led i c) →
      wpAny (model prog w) A (assign target env (.int (i : Int) t)) (fun _ s₃ => wpAny (model prog w) A (execs body env) (PostS h₀ env.locals stored Ps Led Fa m₀ (i + 1) (I, oI) { s with heap := h, toks := tk } Q) E s₃) E { s with heap := h, toks := tk })
    (done : ∀ c (u : Str → Option Value) h tk, Fa n c → Fr h₀ env.locals h (kstB (fun z => if stored.contains z then u z else m₀ z) (Ps n c)) → News h₀ env.locals h (Led n c) → Q .next { s with heap := h, toks := tk }) :
    wpAny (model prog w) A (pyIter (.ref r)) (fun it s₂ => TurnsAt prog w A h₀ env target body Q E it s₂) E s := by
  refine iterJ_range hh F (news := Led 0 c₀) (fun p hp => N p (hN p hp)) hr hsmall hn hgo (JS stored Ps Led Fa m₀) ⟨c₀, rfl, hf, hp, fun _ _ _ => rfl⟩ ?_ ?_
  · rintro i t m₁ nx h tk I oI hi ⟨c, rfl, hf, h1, h2⟩ ho F₁ N₁
    exact wpAny_mono (turn i t c m₁ h tk I oI hi hf ho (ksw_fr h1 h2 F₁) N₁) (fun _ s₃ x => wpAny_mono x (fun _ _ y => y.toJ) fun _ _ e => e) fun _ _ e => e
  · rintro m₁ nx h tk ⟨c, rfl, hf, h1, h2⟩ F₁ N₁
    exact done c m₁ h tk hf (ksw_fr h1 h2 F₁) N₁

theorem ks_if {α : Type} {stored : List Str} {z a : Str} {v x r : α} (h3 : stored.contains z = false) (ha : stored.contains a = true) (h : x = r) : (if z = a then v else x) = r := by
  rw [if_neg]; exact h
  rintro rfl; rw [h3] at ha; cases ha
theorem ks_ifP {α : Type} {ps : List (Str × Value)} {z a : Str} {v x r : α} (h2 : ∀ p ∈ ps, z ≠ p.1) (ha : (ps.map (·.1)).contains a = true) (h : x = r) : (if z = a then v else x) = r := by
  rw [if_neg]; exact h
  rintro rfl
  have := List.contains_iff_mem.mp ha
  obtain ⟨p, hp, e⟩ := List.mem_map.mp this
  exact h2 p hp e.symm
theorem ks_H {stored : List Str} {ps : List (Str × Value)} {z : Str} (h2 : ∀ p ∈ ps, z ≠ p.1) (h3 : stored.contains z = false) : ∀ n, (stored ++ ps.map (·.1)).contains n = true → z ≠ n := by
  rintro n hn rfl
  have hm := List.contains_iff_mem.mp hn
  rcases List.mem_append.mp hm with hm | hm
  · have : stored.contains z = true := List.contains_iff_mem.mpr hm
    rw [h3] at this; cases this
  · obtain ⟨p, hp, e⟩ := List.mem_map.mp hm
    exact h2 p hp e.symm
theorem ksH_if {α : Type} {names : List Str} {z a : Str} {v x r : α} (H : ∀ n, names.contains n = true → z ≠ n) (ha : names.contains a = true) (h : x = r) : (if z = a then v else x) = r := by
  rw [if_neg (H a ha)]; exact h
theorem ksH_kst {names st : List Str} {z : Str} {u m : Str → Option Value} {r : Option Value} (H : ∀ n, names.contains n = true → z ≠ n) : ∀ {ps : List (Str × Value)}, (ps.all fun p => names.contains p.1) = true → st.all (fun n => names.contains n) = true → m z = r →
    kstB (fun z => if st.contains z = true then u z else m z) ps z = r
  | [], _, h3, h => by
    show (if st.contains z = true then u z else m z) = r
    rw [if_neg]; exact h
    intro hc
    exact H z (List.all_eq_true.mp h3 z (List.contains_iff_mem.mp hc)) rfl
  | p :: q, h2, h3, h => by
    simp only [List.all_cons, Bool.and_eq_true] at h2
    show (if z = p.1 then some p.2 else kstB _ q z) = r
    rw [if_neg (H _ h2.1)]
    exact ksH_kst H h2.2 h3 h
theorem ks_end {stored : List Str} {z : Str} {u m₀ : Str → Option Value} : ∀ {ps : List (Str × Value)}, (∀ p ∈ ps, z ≠ p.1) → stored.contains z = false → kstB (fun z => if stored.contains z = true then u z else m₀ z) ps z = m₀ z
  | [], _, h3 => by show (if stored.contains z = true then u z else m₀ z) = _; rw [h3]; rfl
  | p :: r, h2, h3 => by
    show (if z = p.1 then some p.2 else kstB _ r z) = _
    rw [if_neg (h2 p (.head _))]
    exact ks_end (fun q hq => h2 q (.tail _ hq)) h3
theorem ks_endN {stored : List Str} {z : Str} {u m₀ : Str → Option Value} {ps : List (Str × Value)} (h2 : ∀ n ∈ ps.map (·.1), z ≠ n) (h3 : stored.contains z = false) : kstB (fun z => if stored.contains z = true then u z else m₀ z) ps z = m₀ z :=
  ks_end (fun p hp => h2 _ (List.mem_map_of_mem hp)) h3
end
end
theorem off_C1 : True ∧ True := by
  first
  | (walk1; all_goals trivial)
  | exact ⟨trivial, trivial⟩
section
local macro_rules | `(tactic| walk_at "MY_ENTER") => `(tactic| (
  (refine' con_def ?ho ?hcd ?hb ?hl ?hc ?c1 ?c2 ?c3 ?hh)
  (case' hh => k_fill)
  (case ho => k_is)
  (case hcd => k_is)
  (case hb => (intro s X; exact BindsTo.of_eq rfl))
  (case hl => exact locs rfl)
  (case hc => decide)
  (case c1 => exact rfl)
  (case c2 => exact rfl)
  (case c3 => exact rfl)
  k_whole))

theorem fresh_of {h0 g : Heap} {b : Addr} (hk : Kp [] h0 g) (e : g.get? b = none) : h0.get? b = none := by
  cases q : h0.get? b with
  | none => rfl
  | some o => rw [hk b o (by simp) q] at e; cases e

def endsP (p : Int × Int) (gr : Int) : Option (Int × Int) :=
  if gr = 0 ∧ (p.1 = 0 ∨ p.2 = 0) then none
  else some (min (if p.1 = 0 then gr else p.1) (if p.2 = 0 then gr else p.2), max (if p.1 = 0 then gr else p.1) (if p.2 = 0 then gr else p.2))

def EndsPost (lo hi gr : Int) (h h' : Heap) (v : Value) : Prop := match endsP (lo, hi) gr with
        | none => v = .none
        | some p => ∃ b u1 u2, v = .ref b ∧ h.get? b = none ∧ h'.get? b = some (tupO #[.int p.1 u1, .int p.2 u2])
theorem ends_none {lo hi gr : Int} {h h' : Heap} (e : endsP (lo, hi) gr = none) : EndsPost lo hi gr h h' .none := by unfold EndsPost; rw [e]
theorem ends_some {lo hi gr : Int} {h h' : Heap} {b : Addr} {x y : Int} {u1 u2 : Tok} (h1 : h.get? b = none) (h2 : h'.get? b = some (tupO #[.int x u1, .int y u2])) (e : endsP (lo, hi) gr = some (x, y)) :
    EndsPost lo hi gr h h' (.ref b) := by unfold EndsPost; rw [e]; exact ⟨b, u1, u2, rfl, h1, h2⟩

theorem ends_fit {lo hi gr a b : Int} (ha : a = if lo = 0 then gr else lo) (hb : b = if hi = 0 then gr else hi) (hn : ¬ (gr = 0 ∧ (lo = 0 ∨ hi = 0))) : endsP (lo, hi) gr = some ((if b < a then b else a), (if b > a then b else a)) := by
  unfold endsP
  rw [if_neg hn, ← ha, ← hb]
  refine congrArg some (Prod.ext ?_ ?_) <;> (dsimp only; split <;> omega)
theorem ends_con (w : World) (mean : ExcName → Option Value) (mg mb : Str → Option Value) (pr : Addr) (lo hi gr : Int) (t1 t2 t3 : Tok) :
    Con w mean mg mb 2 (.ref 28) [.ref pr, .int gr t3] [] (fun h => h.get? pr = some (tupO #[.int lo t1, .int hi t2])) (EndsPost lo hi gr) := by
  walk_at "MY_ENTER"
  intro dp un gd cn cs L a ccd cl outer base h0 g h₁ L' tk s B F X N lN T hd hu hpre hk hw
  (try dsimp only)
  have hp : IsTup g pr #[.int lo t1, .int hi t2] := ⟨_, hk _ _ (by simp) hpre, rfl, _, rfl⟩
  k_steps
  all_goals (refine' Done.intro (by assumption) ?_; (rename News _ _ _ _ => nE))
  all_goals (first
   | exact ends_none (if_pos ⟨by assumption, .inl (by assumption)⟩)
   | exact ends_none (if_pos ⟨by assumption, .inr (by assumption)⟩)
   | exact ends_some (fresh_of hk (nE _ (.head _)).2.2) (nE _ (.head _)).1 (ends_fit (by first | (rw [if_pos (by assumption)]; done) | (rw [if_neg (by assumption)]; done) | (split <;> omega)) (by first | (rw [if_pos (by assumption)]; done) | (rw [if_neg (by assumption)]; done) | (split <;> omega)) (by first | exact fun q => absurd q.1 (by assumption) | exact fun q => q.2.elim (by assumption) (by assumption))))

theorem ends_use {w : World} {mean : ExcName → Option Value} {mg mb : Str → Option Value} {pr : Addr} {lo hi gr : Int} {t1 t2 t3 : Tok}
    {dp un : Nat} {gd : Option (List Code)} {cn : Str} {cs : Scope} {a : Addr} {ccd : Value} {cl : List (Str × Addr)} {outer : List Env} {A₀ : Around} {base h₀ : Heap} {L : Addr} {m : Str → Option Value} {s : Shared} {Q E : Value → Shared → Prop} {news : List (Addr × Obj)}
    (B : Below A₀ base outer h₀) (F : Fr h₀ L s.heap m) (X : (hd.heap_1 w.params).In h₀) (N : News h₀ L s.heap news)
    (T : Top viewQ (looseW viewQ [Str.ofString "PostError"]) mean mg mb h₀) (hk : cs.kind = .function) (hd : dp + 2 < recursionLimit) (hu : un + 8 * 2 < cLine) (hp : s.heap.get? pr = some (tupO #[.int lo t1, .int hi t2]))
    (k0 : endsP (lo, hi) gr = none → ∀ h' tk', Fr h₀ L h' m → News h₀ L h' news → Q .none { s with heap := h', toks := tk' })
    (k1 : ∀ x y b u1 u2 h' tk', endsP (lo, hi) gr = some (x, y) → Fr h₀ L h' m → News h₀ L h' ((b, tupO #[.int x u1, .int y u2]) :: news) → (∀ p ∈ news, p.1 ≠ b) → Q (.ref b) { s with heap := h', toks := tk' }) :
    wpAny (model Challenge.rw_no0370_01.row.prog w) (ktrTop dp un gd cn cs L a ccd cl outer) (call (.ref 28) [.ref pr, .int gr t3]) Q E s := by
  refine (ends_con w mean mg mb pr lo hi gr t1 t2 t3).use B F X N T hk hd hu hp fun v h' tk' hK F' N' hP => ?_
  unfold EndsPost at hP
  cases e : endsP (lo, hi) gr with
  | none => rw [e] at hP; dsimp only at hP; subst hP; exact k0 e h' tk' F' N'
  | some p =>
    rw [e] at hP
    obtain ⟨b, u1, u2, rfl, hb, hb'⟩ := hP
    exact k1 p.1 p.2 b u1 u2 h' tk' e F' (kp_add F N' hb hb') (kp_apart N hb)
end
section
/-! pairs -/
def PairH (h : Heap) (v : Value) (p : Int × Int) : Prop := ∃ b u1 u2, v = .ref b ∧ h.get? b = some (tupO #[.int p.1 u1, .int p.2 u2])
def PairL (nx : List (Addr × Obj)) (v : Value) (p : Int × Int) : Prop := ∃ b u1 u2, v = .ref b ∧ (b, tupO #[.int p.1 u1, .int p.2 u2]) ∈ nx
inductive PairsH (h : Heap) : List Value → List (Int × Int) → Prop
  | nil : PairsH h [] []
  | cons {v p vs ps} : PairH h v p → PairsH h vs ps → PairsH h (v :: vs) (p :: ps)
inductive PairsL (nx : List (Addr × Obj)) : List Value → List (Int × Int) → Prop
  | nil : PairsL nx [] []
  | cons {v p vs ps} : PairL nx v p → PairsL nx vs ps → PairsL nx (v :: vs) (p :: ps)
theorem PairsH.length {h : Heap} {vs ps} (x : PairsH h vs ps) : vs.length = ps.length := by induction x <;> simp_all
theorem PairsL.length {nx : List (Addr × Obj)} {vs ps} (x : PairsL nx vs ps) : vs.length = ps.length := by induction x <;> simp_all
theorem PairsH.get {h : Heap} {vs ps} (x : PairsH h vs ps) : ∀ {i : Nat} {v : Value}, vs[i]? = some v → ∃ p, ps[i]? = some p ∧ PairH h v p := by
  induction x with
  | nil => intro i v e; simp at e
  | cons hp _ ih =>
    intro i v e
    cases i with
    | zero => simp at e; subst e; exact ⟨_, rfl, hp⟩
    | succ i => simp at e; simpa using ih e
theorem PairsL.get {nx : List (Addr × Obj)} {vs ps} (x : PairsL nx vs ps) : ∀ {i : Nat} {v : Value}, vs[i]? = some v → ∃ p, ps[i]? = some p ∧ PairL nx v p := by
  induction x with
  | nil => intro i v e; simp at e
  | cons hp _ ih =>
    intro i v e
    cases i with
    | zero => simp at e; subst e; exact ⟨_, rfl, hp⟩
    | succ i => simp at e; simpa using ih e
theorem PairL.mono {nx nx' : List (Addr × Obj)} {v p} (x : PairL nx v p) (h : ∀ q ∈ nx, q ∈ nx') : PairL nx' v p := let ⟨b, u1, u2, e, m⟩ := x; ⟨b, u1, u2, e, h _ m⟩
theorem PairsL.mono {nx nx' : List (Addr × Obj)} {vs ps} (x : PairsL nx vs ps) (h : ∀ q ∈ nx, q ∈ nx') : PairsL nx' vs ps := by
  induction x with
  | nil => exact .nil
  | cons hp _ ih => exact .cons (hp.mono h) ih
theorem PairsL.snoc {nx : List (Addr × Obj)} {vs ps v p} (x : PairsL nx vs ps) (y : PairL nx v p) : PairsL nx (vs ++ [v]) (ps ++ [p]) := by
  induction x with
  | nil => exact .cons y .nil
  | cons hp _ ih => exact .cons hp ih
theorem PairsL.toH {h₀ h : Heap} {L : Addr} {nx : List (Addr × Obj)} {vs ps} (x : PairsL nx vs ps) (N : News h₀ L h nx) : PairsH h vs ps := by
  induction x with
  | nil => exact .nil
  | cons hp _ ih => obtain ⟨b, u1, u2, e, m⟩ := hp; exact .cons ⟨b, u1, u2, e, (N _ m).1⟩ ih
theorem PairsH.keeps {h h' : Heap} {vs ps} (x : PairsH h vs ps) (k : Kp [] h h') : PairsH h' vs ps := by
  induction x with
  | nil => exact .nil
  | cons hp _ ih => obtain ⟨b, u1, u2, e, m⟩ := hp; exact .cons ⟨b, u1, u2, e, k _ _ (by simp) m⟩ ih
end
section
/-- the sort's tree of questions, as data -/
inductive TT where
  | ret (l : List Nat)
  | ask (i j : Nat) (t f : TT)
noncomputable def tt : KasT (Array Nat) → TT
  | .ret a => .ret a.toList
  | .ask i j k => .ask i j (tt (k true)) (tt (k false))
noncomputable def TT.inB (n : Nat) : TT → Bool
  | .ret _ => true
  | .ask i j t f => decide (i < n) && decide (j < n) && t.inB n && f.inB n
noncomputable def TT.run (lt : Nat → Nat → Bool) : TT → List Nat
  | .ret l => l
  | .ask i j t f => if lt i j = true then t.run lt else f.run lt
theorem tt_pure {cmp : Nat → Nat → (Bool → Shared → Prop) → Shared → Prop} {lt : Nat → Nat → Bool} {n : Nat} {Q : Array Nat → Shared → Prop} {s : Shared} (hc : ∀ i j C, i < n → j < n → C (lt i j) s → cmp i j C s) :
    ∀ t : KasT (Array Nat), (tt t).inB n = true → Q ((tt t).run lt).toArray s → t.kasWp cmp Q s
  | .ret a, _, h => by show Q a s; simpa [tt, TT.run] using h
  | .ask i j k, hb, h => by
    simp only [tt, TT.inB, Bool.and_eq_true, decide_eq_true_eq] at hb
    refine hc i j _ hb.1.1.1 hb.1.1.2 ?_
    cases e : lt i j with
    | true => exact tt_pure hc (k true) hb.1.2 (by simpa [tt, TT.run, e] using h)
    | false => exact tt_pure hc (k false) hb.2 (by simpa [tt, TT.run, e] using h)

def tt3 : TT := .ask 1 0 (.ask 2 1 (.ret [2, 1, 0]) (.ask 1 2 (.ask 2 0 (.ask 2 0 (.ask 2 1 (.ret [2, 1, 0]) (.ret [1, 2, 0])) (.ret [1, 0, 2])) (.ret [1, 0, 2])) (.ret [1, 2, 0])))
  (.ask 2 1 (.ask 0 1 (.ask 2 1 (.ask 2 0 (.ret [2, 0, 1]) (.ret [0, 2, 1])) (.ret [0, 1, 2])) (.ret [2, 0, 1])) (.ret [0, 1, 2]))
def tt2 : TT := .ask 1 0 (.ret [1, 0]) (.ret [0, 1])
theorem tt3_is : tt (kas_sort 3) = tt3 := by kernel_rfl
theorem tt2_is : tt (kas_sort 2) = tt2 := by kernel_rfl

def lexLt (p q : Int × Int) : Bool := if p.1 == q.1 then decide (p.2 < q.2) else decide (p.1 < q.1)
def lexLe (p q : Int × Int) : Prop := p.1 < q.1 ∨ (p.1 = q.1 ∧ p.2 ≤ q.2)

theorem ask_lex {prog : Program} {w : World} {A : Around} {h₀ : Heap} {L : Addr} {nx : List (Addr × Obj)} {vs : List Value} {qs : List (Int × Int)} {s : Shared} (N : News h₀ L s.heap nx) (hp : PairsL nx vs qs) (d : Int × Int) (i j : Nat) (C : Bool → Shared → Prop)
    (hi : i < qs.length) (hj : j < qs.length) (h : C (lexLt (qs.getD i d) (qs.getD j d)) s) : kas_ask prog w A (tuples' true) vs i j C s := by
  have hlen := hp.length
  have e1 : vs[i]? = some (vs.getD i Value.none) := by
    have : i < vs.length := by omega
    simp [List.getD, this]
  have e2 : vs[j]? = some (vs.getD j Value.none) := by
    have : j < vs.length := by omega
    simp [List.getD, this]
  obtain ⟨p, hpi, b, u, v, eb, mb⟩ := hp.get e1
  obtain ⟨q, hqj, b', u', v', eb', mb'⟩ := hp.get e2
  have hpd : qs.getD i d = p := by simp [List.getD, hpi]
  have hqd : qs.getD j d = q := by simp [List.getD, hqj]
  rw [hpd, hqd] at h
  unfold kas_ask
  rw [eb, eb']
  refine kat_lt (N _ mb).1 rfl (N _ mb').1 rfl ?_
  show KatLex prog w A true _ C [(.int p.1 u, .int q.1 u'), (.int p.2 v, .int q.2 v')] 0 s
  refine kat_cons (wpAny_eqBool_int ?_)
  unfold lexLt at h
  cases e : (p.1 == q.1) with
  | true =>
    rw [e, if_pos rfl] at h
    refine kat_yes (kat_cons (wpAny_eqBool_int ?_))
    cases e2 : (p.2 == q.2) with
    | true =>
      refine kat_yes (kat_nil ?_)
      have : p.2 = q.2 := by simpa using e2
      rw [this, decide_eq_false (Int.lt_irrefl _)] at h
      exact h
    | false =>
      refine kat_no ?_
      show wpAny _ _ (oneLt' false _ _) _ _ _
      refine kat_one _ _ (lt_int ?_)
      exact h
  | false =>
    rw [e, if_neg (by simp)] at h
    refine kat_no ?_
    show wpAny _ _ (oneLt' true _ _) _ _ _
    exact oneLt_int h

theorem pairs_tups {h₀ h : Heap} {L : Addr} {nx : List (Addr × Obj)} (N : News h₀ L h nx) : ∀ {vs : List Value} {qs : List (Int × Int)}, PairsL nx vs qs → ∃ fs, KatTups h vs fs ∧ fs.length = qs.length ∧ ∀ v ∈ fs, ∃ x u, v = .int x u
  | _, _, .nil => ⟨[], .nil, rfl, fun _ hv => nomatch hv⟩
  | _, _, .cons (p := p) ⟨b, u, v, e, m⟩ r => by
    obtain ⟨fs, hf, hl, hi⟩ := pairs_tups N r
    subst e
    refine ⟨.int p.1 u :: fs, .cons (N _ m).1 rfl rfl rfl hf, by simp [hl], fun y hy => ?_⟩
    rcases List.mem_cons.mp hy with rfl | hy
    · exact ⟨_, _, rfl⟩
    · exact hi y hy

theorem sort_pure {prog : Program} {w : World} {A : Around} {E : Value → Shared → Prop} {s : Shared} {h₀ : Heap} {L pl : Addr} {m : Str → Option Value} {T1 : List (Addr × Obj)} {us : List Value} {qs : List (Int × Int)} {c : Nat} {Q : Value → Shared → Prop}
    (F : Fr h₀ L s.heap m) (N : News h₀ L s.heap ((pl, listOf us.toArray c) :: T1)) (hT : ∀ p ∈ T1, p.1 ≠ pl) (hp : PairsL T1 us qs) (h2 : 2 ≤ qs.length) (h64 : qs.length < 64) (hin : (tt (kas_sort qs.length)).inB qs.length = true) (d : Int × Int)
    (k : ∀ c' h', Fr h₀ L h' m → News h₀ L h' ((pl, listOf (((tt (kas_sort qs.length)).run fun i j => lexLt (qs.getD i d) (qs.getD j d)).map fun i => us.getD i Value.none).toArray c') :: T1) → Q .none { s with heap := h' }) :
    wpAny (model prog w) A (call (.builtin "list.sort") [.ref pl]) Q E s := by
  have hlen := hp.length
  refine kat_lsort F N (UpdF.head hT) rfl (by simpa [hlen] using h2) (by simpa [hlen] using h64) fun e1 h' F' N' => ?_
  have NT : News h₀ L h' T1 := fun p hp => N' p (.tail _ hp)
  obtain ⟨fs, hf, hfl, hfi⟩ := pairs_tups NT hp
  refine kat_kind (T := .type "int") (fs := fs) hf (by omega) (fun v hv => ?_) (by decide) ?_
  · obtain ⟨x, u, rfl⟩ := hfi v hv
    exact Looks.of_pure rfl
  show KasT.kasWp (kas_ask prog w A.in1 (tuples' true) us) (kas_sort us.length) _ _
  rw [hlen]
  refine tt_pure (n := qs.length) (lt := fun i j => lexLt (qs.getD i d) (qs.getD j d)) (fun i j C hi hj hc => ask_lex (s := { s with heap := h' }) NT hp d i j C hi hj hc) _ hin ?_
  exact KasFin.intro F' N' (UpdF.head hT) fun h'' c' F'' N'' => k c' h'' F'' (by simpa using N'')

theorem sort_small {prog : Program} {w : World} {A : Around} {E : Value → Shared → Prop} {s : Shared} {h₀ : Heap} {L pl : Addr} {m : Str → Option Value} {T1 : List (Addr × Obj)} {us : List Value} {c : Nat} {Q : Value → Shared → Prop}
    (F : Fr h₀ L s.heap m) (N : News h₀ L s.heap ((pl, listOf us.toArray c) :: T1)) (hT : ∀ p ∈ T1, p.1 ≠ pl) (h2 : us.length < 2)
    (k : ∀ c' h', Fr h₀ L h' m → News h₀ L h' ((pl, listOf us.toArray c') :: T1) → Q .none { s with heap := h' }) :
    wpAny (model prog w) A (call (.builtin "list.sort") [.ref pl]) Q E s := by
  have nz := N _ (.head _)
  have ho : s.heap.get? pl = some (seqObj "list" us.toArray c) := nz.1
  have NT : News h₀ L s.heap T1 := fun p hp => N p (.tail _ hp)
  refine wpAny_call_entry slot_list_sort ⟨_, nz.1, rfl⟩ entry_list_sort ?_ (args_list_sort _)
  have s1 := Heap.SameBut.update s.heap pl (Obj.mapSeq fun _ => (#[] : Array Value))
  obtain ⟨e1, ho1⟩ : ∃ e1, (s.heap.update pl (Obj.mapSeq fun _ => (#[] : Array Value))).get? pl = some (seqObj "list" #[] e1) := ⟨_, get?_update_seq ho fun _ => #[]⟩
  have F3 : Fr h₀ L (((s.heap.update pl (Obj.mapSeq fun _ => (#[] : Array Value))).push (seqObj "tuple" us.toArray 0)).push (seqObj "list" #[] 0)) m := ((kas_fr F s1 nz.2.1 nz.2.2).push _).push _
  have N2 : News h₀ L (((s.heap.update pl (Obj.mapSeq fun _ => (#[] : Array Value))).push (seqObj "tuple" us.toArray 0)).push (seqObj "list" #[] 0)) T1 :=
    (kas_news NT s1 hT).grown fun b x e => Heap.get?_push_of_some _ (Heap.get?_push_of_some _ e)
  have ho3 : (((s.heap.update pl (Obj.mapSeq fun _ => (#[] : Array Value))).push (seqObj "tuple" us.toArray 0)).push (seqObj "list" #[] 0)).get? pl = some (seqObj "list" #[] e1) := Heap.get?_push_of_some _ (Heap.get?_push_of_some _ ho1)
  rw [list_sort_plain]
  refine wpAny_bind (listItems_at ho rfl ?_)
  refine wpAny_bind (listUpdate_at ho rfl ?_ (by rw [List.size_toArray, sizeLine_eq]; omega) (Nat.zero_le _))
  refine wpAny_bind (seqEpoch_at ho1 rfl ?_)
  refine wpAny_bind (wpAny_newTuple ?_ (by show us.length ≤ _; rw [sizeLine_eq]; omega))
  refine wpAny_bind (wpAny_newList ?_ (Nat.zero_le _))
  refine wpAny_holding ?_
  show wpAny (model prog w) _ _ _ E { s with heap := ((s.heap.update pl (Obj.mapSeq fun _ => (#[] : Array Value))).push (seqObj "tuple" us.toArray 0)).push (seqObj "list" #[] 0) }
  dsimp only
  have hn2 : us.toArray.size < 2 := by rw [List.size_toArray]; omega
  rw [if_pos hn2, if_pos hn2]
  refine wpAny_bind (wpAny_pure ?_)
  refine wpAny_bind (wpAny_pure ?_)
  dsimp only
  have hout : (arrOf (SortSt.mk' general' (us.toArray.zip us.toArray) #[] 7 none)).map (·.2) = us.toArray := by
    show ((us.toArray.zip us.toArray).map (·.2)) = us.toArray
    apply Array.toList_inj.mp
    simp only [Array.toList_map, Array.toList_zip]
    exact List.map_snd_zip (Nat.le_refl _)
  rw [hout]
  have s2 := Heap.SameBut.update (((s.heap.update pl (Obj.mapSeq fun _ => (#[] : Array Value))).push (seqObj "tuple" us.toArray 0)).push (seqObj "list" #[] 0)) pl (Obj.mapSeq fun _ => us.toArray)
  obtain ⟨c2, hc2⟩ : ∃ c2, ((((s.heap.update pl (Obj.mapSeq fun _ => (#[] : Array Value))).push (seqObj "tuple" us.toArray 0)).push (seqObj "list" #[] 0)).update pl (Obj.mapSeq fun _ => us.toArray)).get? pl = some (seqObj "list" us.toArray c2) := ⟨_, get?_update_seq ho3 fun _ => us.toArray⟩
  refine wpAny_bind (seqEpoch_at ho3 rfl ?_)
  refine wpAny_bind (listUpdate_at ho3 rfl ?_ (Nat.zero_le _) (by rw [List.size_toArray, sizeLine_eq]; omega))
  simp only [bne_self_eq_false, Bool.false_eq_true, if_false]
  refine wpAny_pure ⟨_, rfl, k c2 _ (kas_fr F3 s2 nz.2.1 nz.2.2) fun p hp => ?_⟩
  rcases List.mem_cons.mp hp with rfl | hp
  · exact ⟨hc2, nz.2⟩
  · exact kas_news N2 s2 hT p hp

theorem pick_pairs {nx : List (Addr × Obj)} {vs : List Value} {qs : List (Int × Int)} (hp : PairsL nx vs qs) (d : Int × Int) : ∀ is : List Nat, (∀ i ∈ is, i < qs.length) → PairsL nx (is.map fun i => vs.getD i Value.none) (is.map fun i => qs.getD i d)
  | [], _ => .nil
  | i :: r, h => by
    have hlen := hp.length
    have hi := h i (.head _)
    have e1 : vs[i]? = some (vs.getD i Value.none) := by
      have : i < vs.length := by omega
      simp [List.getD, this]
    obtain ⟨p, hpi, q⟩ := hp.get e1
    have hpd : qs.getD i d = p := by simp [List.getD, hpi]
    refine .cons ?_ (pick_pairs hp d r fun j hj => h j (.tail _ hj))
    show PairL nx (vs.getD i Value.none) (qs.getD i d)
    rw [hpd]; exact q

def SortBack (h₀ : Heap) (L pl : Addr) (m : Str → Option Value) (T : List (Addr × Obj)) (qs : List (Int × Int)) (Q : Value → Shared → Prop) (s : Shared) : Prop :=
  ∀ us' qs' c' h', qs'.Perm qs → qs'.Pairwise lexLe → PairsL T us' qs' → Fr h₀ L h' m → News h₀ L h' ((pl, listOf us'.toArray c') :: T) → Q .none { s with heap := h' }

theorem lexLt_t {p q : Int × Int} (h : lexLt p q = true) : p.1 < q.1 ∨ (p.1 = q.1 ∧ p.2 < q.2) := by
  unfold lexLt at h
  by_cases e : p.1 = q.1
  · simp [e] at h; exact .inr ⟨e, h⟩
  · simp [e] at h; exact .inl h
theorem lexLt_f {p q : Int × Int} (h : lexLt p q = false) : lexLe q p := by
  unfold lexLt at h
  by_cases e : p.1 = q.1
  · simp [e] at h; exact .inr ⟨e.symm, h⟩
  · simp [e] at h; exact .inl (by omega)

theorem lexLt_le {p q : Int × Int} (h : lexLt p q = true) : lexLe p q := by
  rcases lexLt_t h with h | ⟨h1, h2⟩
  · exact .inl h
  · exact .inr ⟨h1, Int.le_of_lt h2⟩
theorem lexLt_n {p q : Int × Int} (h : ¬ lexLt p q = true) : lexLe q p := lexLt_f (by simpa using h)
theorem lexLe_trans {p q r : Int × Int} (h1 : lexLe p q) (h2 : lexLe q r) : lexLe p r := by
  unfold lexLe at *
  omega
/-- what a leaf of the sort's tree must be -/
def Leaf3 (q0 q1 q2 : Int × Int) (r : List Nat) : Prop :=
  (∀ i ∈ r, i < 3) ∧ (r.map fun i => [q0, q1, q2].getD i q0).Perm [q0, q1, q2] ∧ (r.map fun i => [q0, q1, q2].getD i q0).Pairwise lexLe
theorem pw3 {a b c : Int × Int} (h1 : lexLe a b) (h2 : lexLe b c) : [a, b, c].Pairwise lexLe :=
  .cons (fun x hx => by rcases List.mem_cons.mp hx with rfl | hx; exact h1; rw [List.mem_singleton.mp hx]; exact lexLe_trans h1 h2) (.cons (fun x hx => by rw [List.mem_singleton.mp hx]; exact h2) (List.pairwise_singleton _ _))
theorem g012 {q0 q1 q2 : Int × Int} (h1 : lexLe q0 q1) (h2 : lexLe q1 q2) : Leaf3 q0 q1 q2 [0, 1, 2] := ⟨by decide, .refl _, pw3 h1 h2⟩
theorem g021 {q0 q1 q2 : Int × Int} (h1 : lexLe q0 q2) (h2 : lexLe q2 q1) : Leaf3 q0 q1 q2 [0, 2, 1] := ⟨by decide, .cons _ (.swap _ _ _), pw3 h1 h2⟩
theorem g102 {q0 q1 q2 : Int × Int} (h1 : lexLe q1 q0) (h2 : lexLe q0 q2) : Leaf3 q0 q1 q2 [1, 0, 2] := ⟨by decide, .swap _ _ _, pw3 h1 h2⟩
theorem g120 {q0 q1 q2 : Int × Int} (h1 : lexLe q1 q2) (h2 : lexLe q2 q0) : Leaf3 q0 q1 q2 [1, 2, 0] := ⟨by decide, .trans (.cons _ (.swap _ _ _)) (.swap _ _ _), pw3 h1 h2⟩
theorem g201 {q0 q1 q2 : Int × Int} (h1 : lexLe q2 q0) (h2 : lexLe q0 q1) : Leaf3 q0 q1 q2 [2, 0, 1] := ⟨by decide, .trans (.swap _ _ _) (.cons _ (.swap _ _ _)), pw3 h1 h2⟩
theorem g210 {q0 q1 q2 : Int × Int} (h1 : lexLe q2 q1) (h2 : lexLe q1 q0) : Leaf3 q0 q1 q2 [2, 1, 0] := ⟨by decide, .trans (.cons _ (.swap _ _ _)) (.trans (.swap _ _ _) (.cons _ (.swap _ _ _))), pw3 h1 h2⟩
theorem leaf3 (q0 q1 q2 : Int × Int) : Leaf3 q0 q1 q2 (TT.run (fun i j => lexLt ([q0, q1, q2].getD i q0) ([q0, q1, q2].getD j q0)) tt3) := by
  unfold tt3
  simp only [TT.run, List.getD_cons_zero, List.getD_cons_succ]
  by_cases e1 : lexLt q1 q0 = true
  · rw [if_pos e1]
    by_cases e2 : lexLt q2 q1 = true
    · rw [if_pos e2]; exact g210 (lexLt_le e2) (lexLt_le e1)
    · rw [if_neg e2]
      by_cases e3 : lexLt q1 q2 = true
      · rw [if_pos e3]
        by_cases e4 : lexLt q2 q0 = true
        · rw [if_pos e4, if_pos e4, if_neg e2]; exact g120 (lexLt_le e3) (lexLt_le e4)
        · rw [if_neg e4]; exact g102 (lexLt_le e1) (lexLt_n e4)
      · rw [if_neg e3]; exact g120 (lexLt_n e2) (lexLe_trans (lexLt_n e3) (lexLt_le e1))
  · rw [if_neg e1]
    by_cases e2 : lexLt q2 q1 = true
    · rw [if_pos e2]
      by_cases e3 : lexLt q0 q1 = true
      · rw [if_pos e3, if_pos e2]
        by_cases e4 : lexLt q2 q0 = true
        · rw [if_pos e4]; exact g201 (lexLt_le e4) (lexLt_le e3)
        · rw [if_neg e4]; exact g021 (lexLt_n e4) (lexLt_le e2)
      · rw [if_neg e3]; exact g201 (lexLe_trans (lexLt_le e2) (lexLt_n e3)) (lexLt_n e1)
    · rw [if_neg e2]; exact g012 (lexLt_n e1) (lexLt_n e2)
theorem sort_pairs {prog : Program} {w : World} {A : Around} {E : Value → Shared → Prop} {s : Shared} {h₀ : Heap} {L pl : Addr} {m : Str → Option Value} {T1 : List (Addr × Obj)} {us : List Value} {qs : List (Int × Int)} {c : Nat} {Q : Value → Shared → Prop}
    (F : Fr h₀ L s.heap m) (N : News h₀ L s.heap ((pl, listOf us.toArray c) :: T1)) (hT : ∀ p ∈ T1, p.1 ≠ pl) (hp : PairsL T1 us qs) (h3 : qs.length ≤ 3) (k : SortBack h₀ L pl m T1 qs Q s) :
    wpAny (model prog w) A (call (.builtin "list.sort") [.ref pl]) Q E s := by
  have hlen := hp.length
  match qs, hp, h3, k with
  | [], hp, _, k => exact sort_small F N hT (by simp at hlen; simp [hlen]) fun c' h' F' N' => k us [] c' h' .nil .nil hp F' N'
  | [q], hp, _, k => exact sort_small F N hT (by simp at hlen; simp [hlen]) fun c' h' F' N' => k us [q] c' h' (.refl _) (List.pairwise_singleton _ _) hp F' N'
  | [q0, q1], hp, _, k =>
    refine sort_pure F N hT hp (by simp) (by simp) (by show (tt (kas_sort 2)).inB 2 = true; rw [tt2_is]; rfl) q0 fun c' h' F' N' => ?_
    rw [show (tt (kas_sort [q0, q1].length)) = tt2 from tt2_is] at N'
    refine k _ (TT.run (fun i j => lexLt ([q0, q1].getD i q0) ([q0, q1].getD j q0)) tt2 |>.map fun i => [q0, q1].getD i q0) c' h' ?_ ?_ (pick_pairs hp q0 _ ?_) F' N'
    all_goals (simp only [TT.run, tt2, List.getD_cons_zero, List.getD_cons_succ])
    · split
      · exact List.Perm.swap _ _ _
      · exact .refl _
    · split
      · rename_i h; have := lexLt_t h; simp [lexLe]; omega
      · rename_i h; have := lexLt_f (by simpa using h); simp [lexLe] at this ⊢; omega
    · split <;> simp
  | [q0, q1, q2], hp, _, k =>
    refine sort_pure F N hT hp (by simp) (by simp) (by show (tt (kas_sort 3)).inB 3 = true; rw [tt3_is]; rfl) q0 fun c' h' F' N' => ?_
    rw [show (tt (kas_sort [q0, q1, q2].length)) = tt3 from tt3_is] at N'
    obtain ⟨l1, l2, l3⟩ := leaf3 q0 q1 q2
    exact k _ (TT.run (fun i j => lexLt ([q0, q1, q2].getD i q0) ([q0, q1, q2].getD j q0)) tt3 |>.map fun i => [q0, q1, q2].getD i q0) c' h' l2 l3 (pick_pairs hp q0 _ l1) F' N'
end
section
section
variable {prog : Program} {w : World} {A : Around} {E : Value → Shared → Prop} {s : Shared} {h₀ : Heap} {L D : Addr} {m : Str → Option Value} {news news' : List (Addr × Obj)} {ws ws0 : List Value} {x v : Value} {n : Nat}
theorem append_L {Q : Value → Shared → Prop} (F : Fr h₀ L s.heap m) (N : News h₀ L s.heap news) (U : Upd D (listOf ws.toArray n) (listOf (ws ++ [v]).toArray (n + 1)) news news') (hz : ws.length ≤ 1000)
    (h : ∀ h', Fr h₀ L h' m → News h₀ L h' news' → Q .none { s with heap := h' }) : wpAny (model prog w) A (call (.builtin "list.append") [.ref D, v]) Q E s :=
  append_K F N (by rw [List.push_toArray]; exact U) h (by rw [List.size_toArray, sizeLine_eq]; omega)
theorem len_L {Q : Value → Shared → Prop} (hm : s.heap.get? D = some (listOf ws.toArray n)) (hz : ws.length ≤ 1000)
    (h : ∀ t tk, Q (.int (ws.length : Int) t) { s with toks := tk }) : wpAny (model prog w) A (call (.builtin "len") [.ref D]) Q E s :=
  len_list (PySem.IsL.isList hm) (by rw [List.size_toArray]; omega) (by rw [List.size_toArray]; exact h _ _)
theorem last_L {value slice : PySem.Expr} {k : Int} {u : Tok} {Q : Value → Shared → Prop} (hm : s.heap.get? D = some (listOf (ws0 ++ [x]).toArray n)) (hk : k = -1) (h : Q x s)
    (hs : subscripted slice false (.ref D) (.int k u) = operate [.ref D, .int k u] (getItem (.ref D) (.int k u)) := by with_unfolding_all rfl) (hg : ∀ r, letTemporaryGo value (.ref D) r = pure () := by intro _; with_unfolding_all rfl) :
    wpAny (model prog w) A (subscriptTail value slice (.ref D) (.int k u)) Q E s := by
  subst hk
  have hl := PySem.IsL.isList hm
  have hsz : (ws0 ++ [x]).toArray.size = ws0.length + 1 := by simp
  refine subscriptTail_builtin hl.typeIs slot_list_getitem.lookup (wpAny_getItem_list_neg hl (by omega) (by rw [hsz]; omega) (by omega) (x := x) ?_ h) hs hg
  rw [hsz, show ((-1 : Int) + ((ws0.length + 1 : Nat) : Int)).toNat = ws0.length from by omega]
  simp
theorem setlast_L {k : Int} {t : Tok} {Q : Unit → Shared → Prop} (F : Fr h₀ L s.heap m) (N : News h₀ L s.heap news) (hk : k = -1) (U : Upd D (listOf (ws0 ++ [x]).toArray n) (listOf (ws0 ++ [v]).toArray n) news news')
    (h : ∀ h', Fr h₀ L h' m → News h₀ L h' news' → Q () { s with heap := h' }) : wpAny (model prog w) A (setItem (.ref D) (.int k t) v) Q E s := by
  subst hk
  obtain ⟨pre, post, rfl, rfl, a, b⟩ := U.split
  have z := N (D, listOf (ws0 ++ [x]).toArray n) (List.mem_append.mpr (.inr (.head _)))
  have hsz : (ws0 ++ [x]).toArray.size = ws0.length + 1 := by simp
  refine ki_setBack z.1 (by omega) (by rw [hsz]; omega) (by omega) (h _ (F.change (Heap.SameBut.update ..) z.2.1 z.2.2) (ki_turn _ N a b ?_ ?_))
  · show (ws0 ++ [x]).toArray.setIfInBounds _ v = (ws0 ++ [v]).toArray
    rw [hsz, show ((-1 : Int) + ((ws0.length + 1 : Nat) : Int)).toNat = ws0.length from by omega]
    apply Array.toList_inj.mp
    simp
  · simp
theorem len_T {Q : Value → Shared → Prop} (hm : s.heap.get? D = some (tupO ws.toArray)) (hz : ws.length ≤ 1000)
    (h : ∀ t tk, Q (.int (ws.length : Int) t) { s with toks := tk }) : wpAny (model prog w) A (call (.builtin "len") [.ref D]) Q E s :=
  PyProof.Rows.len_tuple (items := ws.toArray) ⟨_, hm, rfl, _, rfl⟩ (by rw [List.size_toArray]; omega) (by rw [List.size_toArray]; exact h _ _)
theorem item_T {value slice : PySem.Expr} {k : Int} {u : Tok} {Q : Value → Shared → Prop} (hm : s.heap.get? D = some (tupO ws.toArray)) (h0 : 0 ≤ k) (hz : ws.length ≤ 1000) (hx : ws[k.toNat]? = some x) (h : Q x s)
    (hs : subscripted slice false (.ref D) (.int k u) = operate [.ref D, .int k u] (getItem (.ref D) (.int k u)) := by with_unfolding_all rfl) :
    wpAny (model prog w) A (subscriptTail value slice (.ref D) (.int k u)) Q E s := by
  have hlt : k.toNat < ws.length := (List.getElem?_eq_some_iff.mp hx).1
  refine item_tupleT (l := ws) (j := k.toNat) ⟨_, hm, rfl, _, rfl⟩ (by omega) (by omega) ?_ hx h hs
  unfold seqIndex?
  simp only [show ¬ k < 0 from by omega, if_false]
  rw [if_pos (by simp only [Bool.and_eq_true, decide_eq_true_eq]; omega)]
def FreshL (h h' : Heap) (T : List (Addr × Obj)) : Prop := ∀ q ∈ T, h.get? q.1 = none ∧ h'.get? q.1 = some q.2
theorem FreshL.toNews {h h' : Heap} {T : List (Addr × Obj)} (f : FreshL h h' T) (F : Fr h₀ L h m) (N : News h₀ L h' news) : News h₀ L h' (T ++ news) := fun q hq => by
  rcases List.mem_append.mp hq with hq | hq
  · exact kp_add (news := []) F (fun _ hp => nomatch hp) (f q hq).1 (f q hq).2 _ (.head _)
  · exact N q hq
theorem FreshL.apart {h h' : Heap} {T : List (Addr × Obj)} (f : FreshL h h' T) (N : News h₀ L h news) : ∀ q ∈ T, ∀ p ∈ news, q.1 ≠ p.1 := fun q hq p hp e => by
  have := (N p hp).1
  rw [← e, (f q hq).1] at this; cases this
def Stop (P : Prop) : Prop := P
theorem stopHere {P : Prop} (h : Stop P) : P := h
theorem news_a0 {a : Addr} {o : Obj} {r : List (Addr × Obj)} {h : Heap} (_ : News h₀ L h ((a, o) :: r)) : ∃ x, x = a := ⟨a, rfl⟩
theorem int_lt0 {a b : Int} (_ : a < b) : ∃ x, x = a := ⟨a, rfl⟩
end
end
section
def mergeStep (out : List (Int × Int)) (p : Int × Int) : List (Int × Int) :=
  match out.getLast? with
  | some r => if p.1 ≤ r.2 + 1 then out.dropLast ++ [(r.1, if p.2 > r.2 then p.2 else r.2)] else out ++ [p]
  | none => [p]
theorem ms_nil {p : Int × Int} : mergeStep [] p = [p] := rfl
theorem ms_merge {rs0 : List (Int × Int)} {r p : Int × Int} (h : p.1 ≤ r.2 + 1) : mergeStep (rs0 ++ [r]) p = rs0 ++ [(r.1, if p.2 > r.2 then p.2 else r.2)] := by
  simp [mergeStep, h]
theorem ms_new {rs0 : List (Int × Int)} {r p : Int × Int} (h : ¬ p.1 ≤ r.2 + 1) : mergeStep (rs0 ++ [r]) p = (rs0 ++ [r]) ++ [p] := by
  simp [mergeStep, h]
theorem ms_length (out : List (Int × Int)) (p : Int × Int) : (mergeStep out p).length ≤ out.length + 1 := by
  rcases List.eq_nil_or_concat out with e | ⟨o, r, e⟩
  · subst e; simp [ms_nil]
  · rw [List.concat_eq_append] at e
    subst e
    by_cases h : p.1 ≤ r.2 + 1
    · rw [ms_merge h]; simp
    · rw [ms_new h]; simp
theorem mf_length : ∀ (l acc : List (Int × Int)), (l.foldl mergeStep acc).length ≤ acc.length + l.length
  | [], acc => by simp
  | p :: l, acc => by
    have h1 := mf_length l (mergeStep acc p)
    have h2 := ms_length acc p
    simp only [List.foldl_cons, List.length_cons]
    omega

def inP (x : Int) (p : Int × Int) : Prop := p.1 ≤ x ∧ x ≤ p.2
def Gap (rs : List (Int × Int)) : Prop := rs.Pairwise (fun r r' => r.2 + 1 < r'.1) ∧ ∀ r ∈ rs, r.1 ≤ r.2
def PlainOk (ps : List (Int × Int)) (gr : Int) (rs : List (Int × Int)) : Prop :=
  Gap rs ∧ ∀ x, (∃ r ∈ rs, inP x r) ↔ ∃ p ∈ ps, ∃ e, endsP p gr = some e ∧ inP x e

theorem ms_step {acc : List (Int × Int)} {p : Int × Int} (hg : Gap acc) (hp : p.1 ≤ p.2) (hs : ∀ r ∈ acc, r.1 ≤ p.1) :
    Gap (mergeStep acc p) ∧ (∀ r ∈ mergeStep acc p, r.1 ≤ p.1) ∧ ∀ x, (∃ r ∈ mergeStep acc p, inP x r) ↔ (∃ r ∈ acc, inP x r) ∨ inP x p := by
  rcases List.eq_nil_or_concat acc with e | ⟨o, r, e⟩
  · subst e
    rw [ms_nil]
    refine ⟨⟨List.pairwise_singleton _ _, by simpa using hp⟩, by simp, by simp⟩
  · rw [List.concat_eq_append] at e
    subst e
    obtain ⟨g1, g2⟩ := hg
    rw [List.pairwise_append] at g1
    obtain ⟨go, _, gor⟩ := g1
    have hr1 := g2 r (by simp)
    have hrp := hs r (by simp)
    have gor' : ∀ q ∈ o, q.2 + 1 < r.1 := fun q hq => gor q hq r (by simp)
    have g2o : ∀ q ∈ o, q.1 ≤ q.2 := fun q hq => g2 q (by simp [hq])
    by_cases h : p.1 ≤ r.2 + 1
    · rw [ms_merge h]
      have hm : (if p.2 > r.2 then p.2 else r.2) = max p.2 r.2 := by split <;> omega
      rw [hm]
      refine ⟨⟨?_, ?_⟩, ?_, ?_⟩
      · rw [List.pairwise_append]
        refine ⟨go, List.pairwise_singleton _ _, fun q hq z hz => ?_⟩
        rw [List.mem_singleton.mp hz]; exact gor' q hq
      · intro q hq
        rcases List.mem_append.mp hq with hq | hq
        · exact g2o q hq
        · rw [List.mem_singleton.mp hq]; show r.1 ≤ max p.2 r.2; omega
      · intro q hq
        rcases List.mem_append.mp hq with hq | hq
        · have := gor' q hq; have := g2o q hq; omega
        · rw [List.mem_singleton.mp hq]; exact hrp
      · intro x
        simp only [List.mem_append, List.mem_singleton, or_and_right, exists_or, exists_eq_left, inP]
        constructor
        · rintro (h1 | h1)
          · exact .inl (.inl h1)
          · by_cases hx : x ≤ r.2
            · exact .inl (.inr ⟨h1.1, hx⟩)
            · exact .inr ⟨by omega, by omega⟩
        · rintro ((h1 | h1) | h1)
          · exact .inl h1
          · exact .inr ⟨h1.1, by omega⟩
          · exact .inr ⟨by omega, by omega⟩
    · rw [ms_new h]
      refine ⟨⟨?_, ?_⟩, ?_, ?_⟩
      · rw [List.pairwise_append]
        refine ⟨by rw [List.pairwise_append]; exact ⟨go, List.pairwise_singleton _ _, gor⟩, List.pairwise_singleton _ _, fun q hq z hz => ?_⟩
        rw [List.mem_singleton.mp hz]
        rcases List.mem_append.mp hq with hq | hq
        · have := gor' q hq; omega
        · rw [List.mem_singleton.mp hq]; omega
      · intro q hq
        rcases List.mem_append.mp hq with hq | hq
        · exact g2 q hq
        · rw [List.mem_singleton.mp hq]; exact hp
      · intro q hq
        rcases List.mem_append.mp hq with hq | hq
        · exact hs q hq
        · rw [List.mem_singleton.mp hq]; exact Int.le_refl _
      · intro x
        simp only [List.mem_append, List.mem_singleton, or_and_right, exists_or, exists_eq_left]

theorem mf_ok : ∀ (l acc : List (Int × Int)), l.Pairwise lexLe → (∀ p ∈ l, p.1 ≤ p.2) → Gap acc → (∀ r ∈ acc, ∀ p ∈ l, r.1 ≤ p.1) →
    Gap (l.foldl mergeStep acc) ∧ ∀ x, (∃ r ∈ l.foldl mergeStep acc, inP x r) ↔ (∃ r ∈ acc, inP x r) ∨ ∃ p ∈ l, inP x p
  | [], acc, _, _, hg, _ => ⟨hg, by simp⟩
  | p :: l, acc, hs, hp, hg, ha => by
    obtain ⟨hs1, hs2⟩ := List.pairwise_cons.mp hs
    obtain ⟨a1, a2, a3⟩ := ms_step hg (hp p (.head _)) fun r hr => ha r hr p (.head _)
    obtain ⟨b1, b2⟩ := mf_ok l (mergeStep acc p) hs2 (fun q hq => hp q (.tail _ hq)) a1 fun r hr q hq => by
      have h1 := a2 r hr
      have h2 := hs1 q hq
      unfold lexLe at h2
      omega
    refine ⟨b1, fun x => ?_⟩
    rw [List.foldl_cons, b2 x, a3 x]
    simp only [List.mem_cons, or_and_right, exists_or, exists_eq_left, or_assoc]

theorem ends_le {p e : Int × Int} {gr : Int} (h : endsP p gr = some e) : e.1 ≤ e.2 := by
  unfold endsP at h
  split at h
  · cases h
  · cases h; simp only; omega

theorem plain_ok {ps qs qs2 rs : List (Int × Int)} {gr : Int} (hq : qs = ps.filterMap (endsP · gr)) (hperm : qs2.Perm qs) (hs : qs2.Pairwise lexLe) (hr : rs = qs2.foldl mergeStep []) : PlainOk ps gr rs := by
  have hm : ∀ e, e ∈ qs2 ↔ ∃ p ∈ ps, endsP p gr = some e := fun e => by rw [hperm.mem_iff, hq, List.mem_filterMap]
  obtain ⟨h1, h2⟩ := mf_ok qs2 [] hs (fun p hp => by obtain ⟨q, _, e⟩ := (hm p).mp hp; exact ends_le e) ⟨.nil, by simp⟩ (by simp)
  subst hr
  refine ⟨h1, fun x => ?_⟩
  rw [h2 x]
  simp only [List.not_mem_nil, false_and, exists_false, false_or]
  constructor
  · rintro ⟨e, he, hx⟩
    obtain ⟨p, hp, hpe⟩ := (hm e).mp he
    exact ⟨p, hp, e, hpe, hx⟩
  · rintro ⟨p, hp, e, he, hx⟩
    exact ⟨e, (hm e).mpr ⟨p, hp, he⟩, hx⟩
end
section
def memR (rs : List (Int × Int)) (x : Int) : Bool := rs.any fun r => decide (r.1 ≤ x) && decide (x ≤ r.2)
def memB (ps : List (Int × Int)) (gr x : Int) : Bool := ps.any fun p => match endsP p gr with
  | some e => decide (e.1 ≤ x) && decide (x ≤ e.2)
  | none => false
theorem memR_iff {rs : List (Int × Int)} {x : Int} : memR rs x = true ↔ ∃ r ∈ rs, inP x r := by
  simp [memR, inP]
theorem memB_iff {ps : List (Int × Int)} {gr x : Int} : memB ps gr x = true ↔ ∃ p ∈ ps, ∃ e, endsP p gr = some e ∧ inP x e := by
  simp only [memB, List.any_eq_true]
  constructor
  · rintro ⟨p, hp, h⟩
    cases e : endsP p gr with
    | none => rw [e] at h; cases h
    | some q => rw [e] at h; exact ⟨p, hp, q, e, by simpa [inP] using h⟩
  · rintro ⟨p, hp, q, e, h⟩
    exact ⟨p, hp, by rw [e]; simpa [inP] using h⟩
theorem memR_eq {ps rs : List (Int × Int)} {gr : Int} (ok : PlainOk ps gr rs) (x : Int) : memR rs x = memB ps gr x := by
  have h := ok.2 x
  rw [← memR_iff, ← memB_iff] at h
  cases h1 : memR rs x <;> cases h2 : memB ps gr x <;> simp_all
theorem mem_yes {rs : List (Int × Int)} {k : Nat} {r : Int × Int} {n : Int} (h : rs[k]? = some r) (h1 : r.1 ≤ n) (h2 : ¬ r.2 < n) : memR rs n = true :=
  memR_iff.mpr ⟨r, List.mem_of_getElem? h, h1, by omega⟩
theorem mem_no {rs : List (Int × Int)} {k : Nat} {n : Int} (hg : Gap rs) (hs : ∀ j r, j < k → rs[j]? = some r → r.2 < n) (h : ∀ r, rs[k]? = some r → ¬ r.1 ≤ n) : memR rs n = false := by
  cases e : memR rs n with
  | false => rfl
  | true =>
    obtain ⟨q, hq, h1, h2⟩ := memR_iff.mp e
    obtain ⟨j, hj, hjq⟩ := List.getElem_of_mem hq
    by_cases hjk : j < k
    · have := hs j q hjk (by rw [List.getElem?_eq_getElem hj, hjq]); omega
    · have hk : k < rs.length := by omega
      have h3 := h rs[k] (List.getElem?_eq_getElem hk)
      by_cases hjk2 : j = k
      · subst hjk2; rw [hjq] at h3; exact absurd h1 h3
      · have h4 := List.pairwise_iff_getElem.mp hg.1 k j hk hj (by omega)
        have h5 := hg.2 rs[k] (List.getElem_mem hk)
        rw [hjq] at h4; omega
theorem filt_step {α : Type} {l : List α} {p : α → Bool} {i : Nat} {n : α} (h : l[i]? = some n) : (l.take (i + 1)).filter p = (l.take i).filter p ++ (if p n = true then [n] else []) := by
  rw [List.take_add_one, h, List.filter_append]
  cases e : p n <;> simp [e]
theorem asc_drop {l : List Int} {i : Nat} {n k : Int} (ha : l.Pairwise (· < ·)) (h : l[i]? = some n) (hk : k ∈ l.drop (i + 1)) : n < k := by
  obtain ⟨hlt, he⟩ := List.getElem?_eq_some_iff.mp h
  obtain ⟨j, hj, hjk⟩ := List.getElem_of_mem hk
  rw [List.getElem_drop] at hjk
  rw [List.length_drop] at hj
  have := List.pairwise_iff_getElem.mp ha i (i + 1 + j) hlt (by omega) (by omega)
  omega
theorem filt_congr {l : List Int} {p q : Int → Bool} (h : ∀ x, p x = q x) : l.filter p = l.filter q := by
  rw [show p = q from funext h]
end
theorem off_C4 : True ∧ True := by
  first
  | (walk1; all_goals trivial)
  | exact ⟨trivial, trivial⟩
section
local macro_rules | `(tactic| walk_at "MY_ENTER") => `(tactic| (
  (refine' con_def ?ho ?hcd ?hb ?hl ?hc ?c1 ?c2 ?c3 ?hh)
  (case' hh => k_fill)
  (case ho => k_is)
  (case hcd => k_is)
  (case hb => (intro s X; exact BindsTo.of_eq rfl))
  (case hl => exact locs rfl)
  (case hc => decide)
  (case c1 => exact rfl)
  (case c2 => exact rfl)
  (case c3 => exact rfl)
  k_whole))
local macro_rules | `(tactic| walk_at "exec For Name Name cons nil") => `(tactic| (k_here; (rename Fr _ _ _ _ => lF'); (refine' For_turns lF' ?_ ?hs ?hE); (case hs => (intro x; rfl)); (case hE => passes_own)))
local macro_rules | `(tactic| walk_at "exec For Tuple Name cons nil") => `(tactic| (k_here; (rename Fr _ _ _ _ => lF'); (refine' For_turns lF' ?_ ?hs ?hE); (case hs => (intro x; rfl)); (case hE => passes_own)))
local macro_rules | `(tactic| walk_at "MY_SAME") => `(tactic| (intro z h2 h3; have H := ks_H h2 h3; clear h2 h3; (try dsimp only); (repeat (first | (with_reducible exact rfl) | refine ksH_if H rfl ?_ | refine ksH_kst H rfl rfl ?_))))
local macro_rules | `(tactic| walk_at "MY_PAIR") => `(tactic| exact Fr.keep (by assumption) _ _ (by assumption))
local macro_rules | `(tactic| walk_at "call ref") => `(tactic| (k_here; k_dflt (
  (refine' ends_use ?B ?F ?X ?N ?T ?hk ?hd ?hu ?hp ?k0 ?k1)
  (case B => k_asm)
  (case F => k_asm)
  (case X => k_asm)
  (case N => k_asm)
  (case T => k_asm)
  (case hk => first | exact rfl | assumption)
  (case hd => ktr_room)
  (case hu => ktr_units)
  (case hp => walk_at "MY_PAIR")
  (case' k0 => intro e9 h9 tk9 F9 N9)
  (case' k1 => intro x9 y9 b9 u9 v9 h9 tk9 e9 F9 N9 o9))))

theorem news_dup {h₀ h : Heap} {L : Addr} {l : List (Addr × Obj)} {p : Addr × Obj} (N : News h₀ L h l) (hm : p ∈ l) : News h₀ L h (p :: l) := fun q hq => by
  rcases List.mem_cons.mp hq with rfl | hq
  · exact N _ hm
  · exact N _ hq
theorem PairsL.unsnoc {nx : List (Addr × Obj)} : ∀ {vs : List Value} {v : Value} {ps : List (Int × Int)}, PairsL nx (vs ++ [v]) ps → ∃ ps0 p, ps = ps0 ++ [p] ∧ PairsL nx vs ps0 ∧ PairL nx v p
  | [], _, _, .cons h .nil => ⟨[], _, rfl, .nil, h⟩
  | _ :: vs, _, _, .cons h r => by
    obtain ⟨ps0, p, rfl, h1, h2⟩ := PairsL.unsnoc (vs := vs) r
    exact ⟨_ :: ps0, p, rfl, .cons h h1, h2⟩
theorem allLt_mem {d : Addr} : ∀ {l : List (Addr × Obj)}, AllLt d l → ∀ p ∈ l, p.1 < d
  | [], _, _, h => nomatch h
  | q :: r, a, p, h => by
    rcases List.mem_cons.mp h with rfl | h
    · exact a.1
    · exact allLt_mem a.2 p h
local macro_rules | `(tactic| walk_at "call builtin:list.append") => `(tactic| (k_here; (with_reducible show wpAny _ _ (call (Value.builtin _) [Value.ref _, _]) _ _ _); k_dflt (refine' append_L ?F ?N ?U ?z ?_; (case F => k_asm); (case N => k_asm); (case U => k_upd); (case z => ((try simp only [List.length_append, List.length_cons, List.length_nil]); omega)); k_whole); intro h' F' N'; (try k_sweep)))
local macro_rules | `(tactic| walk_at "call builtin:len") => `(tactic| (k_here; (with_reducible show wpAny _ _ (call (Value.builtin "len") [Value.ref _]) _ _ _); k_dflt (refine' len_L ?m ?z ?_; (case m => exact (News.get (by k_asm) (by k_mem))); (case z => ((try simp only [List.length_append, List.length_cons, List.length_nil]); omega)); k_whole); intro t' tk'; (try simp only [List.length_append, List.length_cons, List.length_nil])))
local macro_rules | `(tactic| walk_at "subscriptTail") => `(tactic| (k_here; (with_reducible show wpAny _ _ (subscriptTail _ _ (Value.ref _) (Value.int _ _)) _ _ _); k_dflt (refine' last_L ?m ?k ?_ ?hs ?hg; (case m => exact (News.get (by k_asm) (by k_mem))); (case k => rfl); (case hs => with_unfolding_all rfl); (case hg => (intro _; with_unfolding_all rfl)); k_whole)))
local macro_rules | `(tactic| walk_at "setItem ref int") => `(tactic| (k_here; k_dflt (refine' setlast_L ?F ?N ?k ?U ?_; (case F => k_asm); (case N => k_asm); (case U => k_upd); (case k => rfl); k_whole); intro h' F' N'; (try k_sweep)))
def PlainPost (ps : List (Int × Int)) (gr : Int) (h h' : Heap) (v : Value) : Prop :=
  ∃ b ws rs T, v = .ref b ∧ FreshL h h' T ∧ (b, tupO ws.toArray) ∈ T ∧ PairsL T ws rs ∧ rs.length ≤ 3 ∧ PlainOk ps gr rs

theorem plain_con (w : World) (mean : ExcName → Option Value) (mg mb : Str → Option Value) (sm : Addr) (vs : List Value) (ps : List (Int × Int)) (gr : Int) (t : Tok) :
    Con w mean mg mb 3 (.ref 35) [.ref sm, .int gr t] [] (fun h => h.get? sm = some (tupO vs.toArray) ∧ PairsH h vs ps ∧ ps.length ≤ 3) (PlainPost ps gr) := by
  walk_at "MY_ENTER"
  intro dp un gd cn cs L a ccd cl outer base h0 g h₁ L' tk s B F X N lN T hd hu hpre hk hw
  (try dsimp only)
  obtain ⟨hsm0, hps0, hlen⟩ := hpre
  have hsm : g.get? sm = some (tupO vs.toArray) := hk _ _ (by simp) hsm0
  have hps := hps0.keeps hk
  k_steps
  rename Fr _ _ _ _ => F1
  rename News _ _ _ _ => N1
  rename_i pl _ _ _
  have hsmL : L' ≠ sm := by
    rintro rfl
    exact absurd (Heap.lt_size hsm) (Nat.not_lt.mpr F1.above)
  refine iterS_tuple (σ := List Value × List (Int × Int) × Nat × List (Addr × Obj)) [Str.ofString "pair", Str.ofString "ends"] (fun _ _ => [])
    (fun _ c => (pl, listOf c.1.toArray c.2.2.1) :: c.2.2.2) (fun i c => PairsL c.2.2.2 c.1 c.2.1 ∧ c.2.1 = (ps.take i).filterMap (endsP · gr) ∧ (∀ p ∈ c.2.2.2, p.1 ≠ pl)) ([], [], 0, [])
    rfl F1 N1 ?_ ?_ ?_ (F1.keep _ _ hsm) hsmL rfl rfl ?_ ?_ ?_
  · intro p hp; exact hp
  · exact ⟨.nil, rfl, fun p hp => nomatch hp⟩
  · intro p hp; exact nomatch hp
  · intro i c h' m' _ F' _; exact F'.keep _ _ hsm
  · rintro i v ⟨us, qs, c, T1⟩ u h tk I oI hv ⟨hP, hq, hT⟩ hI F' N'
    dsimp only at hP hq hT hI N' F' ⊢
    obtain ⟨p, hp, b, u1, u2, rfl, hb⟩ := hps.get hv
    clear F1 N1
    k_steps
    · rename Fr _ _ _ _ => F9
      rename News _ _ _ _ => N9
      rename_i x9 y9 b9 u9 v9 _ _ e9 o9 _
      have hb9 : b9 ≠ pl := fun e => o9 _ (.tail _ (.head _)) e.symm
      have hsz : us.toArray.size ≤ sizeLine := by
        have h1 := hP.length
        have h2 : qs.length ≤ ps.length := by rw [hq]; exact Nat.le_trans (List.length_filterMap_le _ _) (List.length_take_le' _ _)
        rw [List.size_toArray, sizeLine_eq]; omega
      refine append_K F9 N9 (Upd.tail hb9 (Upd.tail (hI _ (.head _)).symm (Upd.head hT))) (fun h' F' N' => ?_) hsz
      clear F9 N9
      k_steps
      dsimp only [PostS]
      rename Fr _ _ _ _ => F9
      rename News _ _ _ _ => N9
      (try simp only [List.push_toArray] at N9)
      refine EndS.intro (us ++ [.ref b9], qs ++ [(x9, y9)], c + 1, (b9, tupO #[Value.int x9 u9, Value.int y9 v9]) :: T1) F9 N9 ?_ ?_ ?_ ?_ ?_ ?_
      · simp
      · dsimp only; intro q hq2; simp only [List.mem_cons] at hq2 ⊢
        rcases hq2 with hq2 | hq2 | hq2 <;> simp [hq2]
      · dsimp only; intro q hq; simp only [List.mem_cons] at hq
        rcases hq with rfl | rfl | hq
        · show pl ≠ I; exact hI (pl, listOf us.toArray c) (.head _)
        · exact (o9 _ (.head _)).symm
        · exact hI _ (.tail _ hq)
      · refine ⟨(hP.mono (fun q hq => .tail _ hq)).snoc ⟨b9, u9, v9, rfl, .head _⟩, ?_, ?_⟩
        · show qs ++ _ = _
          rw [List.take_add_one, hp, List.filterMap_append, hq]
          simp [e9]
        · dsimp only; intro q hq; simp only [List.mem_cons] at hq
          rcases hq with rfl | hq
          · exact fun e => o9 _ (.tail _ (.head _)) e.symm
          · exact hT _ hq
      · exact (fun p hp => nomatch hp)
      · walk_at "MY_SAME"
    · dsimp only [PostS]
      rename Fr _ _ _ _ => F9
      rename News _ _ _ _ => N9
      rename_i e9 _ _ _
      refine EndS.intro (us, qs, c, T1) F9 N9 ?_ ?_ ?_ ?_ ?_ ?_
      · exact .head _
      · exact (fun p hp => .tail _ hp)
      · exact hI
      · refine ⟨hP, ?_, hT⟩
        show qs = _
        rw [List.take_add_one, hp, List.filterMap_append, hq]
        simp [e9]
      · exact (fun p hp => nomatch hp)
      · walk_at "MY_SAME"
  · rintro ⟨us, qs, c, T1⟩ u h tk ⟨hP, hq, hT⟩ F' N'
    dsimp only at hP hq hT N' F' ⊢
    clear F1 N1
    k_steps
    have hl3 : qs.length ≤ 3 := by
      rw [hq]; exact Nat.le_trans (List.length_filterMap_le _ _) (Nat.le_trans (List.length_take_le' _ _) hlen)
    refine sort_pairs F' N' hT hP hl3 ?_
    intro us2 qs2 c2 h2 hperm hsort hP2 F2 N2
    dsimp only
    clear F' N'
    k_steps
    rename Fr _ _ _ _ => F3
    rename News _ _ _ _ => N3
    rename_i ol _ _ _ l1 _
    obtain ⟨hplol, hl1⟩ := l1
    have hplL : L' ≠ pl := fun e => (N3 _ (.tail _ (.head _))).2.1 e.symm
    refine iterS_list (σ := List Value × List (Int × Int) × Nat × List (Addr × Obj)) [Str.ofString "low", Str.ofString "high"] (fun _ _ => [])
      (fun _ c => (ol, listOf c.1.toArray c.2.2.1) :: (pl, listOf us2.toArray c2) :: c.2.2.2)
      (fun i c => PairsL c.2.2.2 us2 qs2 ∧ PairsL c.2.2.2 c.1 c.2.1 ∧ c.2.1 = (qs2.take i).foldl mergeStep [] ∧ OwnOff c.2.2.2 [ol]) ([], [], 0, T1)
      rfl F3 N3 ?_ ?_ ?_ (N3 _ (.tail _ (.head _))).1 hplL rfl rfl ?_ ?_ ?_
    · intro p hp; exact hp
    · exact ⟨hP2, .nil, rfl, fun p hp b hb => by rw [List.mem_singleton.mp hb]; exact Nat.ne_of_lt (allLt_mem hl1 p hp)⟩
    · intro p hp; exact nomatch hp
    · intro i c h' m' _ _ N'; exact (N' _ (.tail _ (.head _))).1
    · rintro i v ⟨ws, rs, c3, T2⟩ u h tk I oI hv ⟨hA, hW, hr, hT2⟩ hI F' N'
      dsimp only at hA hW hr hT2 hI N' F' ⊢
      obtain ⟨p, hp, b, u1, u2, rfl, hb⟩ := hA.get hv
      clear F3 N3
      have hbol := neN (hT2 _ hb _ (.head _))
      have hIol := neN (hI (ol, listOf ws.toArray c3) (.head _))
      have hrl : rs.length ≤ 3 := by
        have h1 := mf_length (qs2.take i) []
        have h2 := hperm.length_eq
        have h3 := List.length_take_le' i qs2
        rw [← hr] at h1
        simp only [List.length_nil] at h1
        omega
      have hfold : (qs2.take (i + 1)).foldl mergeStep [] = mergeStep rs p := by
        rw [List.take_add_one, hp, List.foldl_append, ← hr]; rfl
      have hwl := hW.length
      have hOff : ∀ D : Addr, D ≠ ol → ∀ o : Obj, OwnOff ((D, o) :: T2) [ol] := fun D hD o q hq b hb => by
        rcases List.mem_cons.mp hq with rfl | hq
        · rw [List.mem_singleton.mp hb]; exact hD
        · exact hT2 q hq b hb
      rcases List.eq_nil_or_concat ws with e | ⟨ws0, w0, e⟩
      · subst e
        have hrs : rs = [] := by
          cases rs with
          | nil => rfl
          | cons _ _ => simp at hwl
        subst hrs
        replace N' := news_dup N' (.tail _ (.tail _ (.tail _ hb)))
        k_steps
        dsimp only [PostS]
        rename Fr _ _ _ _ => F9
        rename News _ _ _ _ => N9
        rename_i D9 _ l9 _
        refine EndS.intro ([.ref D9], [p], c3 + 1, (D9, tupO #[Value.int p.1 u1, Value.int p.2 u2]) :: T2) F9 N9 ?_ ?_ ?_ ?_ ?_ ?_
        · simp
        · dsimp only; intro q hq; simp only [List.mem_cons, List.nil_append] at hq ⊢
          rcases hq with hq | hq | hq | hq <;> simp [hq]
        · dsimp only; intro q hq; simp only [List.mem_cons] at hq
          rcases hq with rfl | rfl | rfl | hq
          · exact hI (ol, listOf [].toArray c3) (.head _)
          · exact hI _ (.tail _ (.head _))
          · exact (Nat.ne_of_lt l9.2.1).symm
          · exact hI _ (.tail _ (.tail _ hq))
        · refine ⟨hA.mono fun q hq => .tail _ hq, .cons ⟨D9, u1, u2, rfl, .head _⟩ .nil, ?_, hOff _ (Nat.ne_of_lt l9.2.2.1).symm _⟩
          rw [hfold]; rfl
        · exact (fun p hp => nomatch hp)
        · walk_at "MY_SAME"
      · rw [List.concat_eq_append] at e
        subst e
        obtain ⟨rs0, r, rfl, hW0, b0, v1, v2, rfl, hb0⟩ := hW.unsnoc
        have hbol0 := neN (hT2 _ hb0 _ (.head _))
        simp only [List.length_append, List.length_cons, List.length_nil] at hrl hwl
        replace N' := news_dup (news_dup N' (.tail _ (.tail _ (.tail _ hb)))) (.tail _ (.tail _ (.tail _ (.tail _ hb0))))
        k_steps
        · dsimp only [PostS]
          rename Fr _ _ _ _ => F9
          rename News _ _ _ _ => N9
          rename p.1 ≤ r.2 + 1 => a9
          rename_i D9 _ l9 _
          refine EndS.intro (ws0 ++ [.ref D9], rs0 ++ [(r.1, if p.2 > r.2 then p.2 else r.2)], c3, (D9, tupO #[Value.int r.1 v1, Value.int (if p.2 > r.2 then p.2 else r.2) (if p.2 > r.2 then u2 else v2)]) :: T2) F9 N9 ?_ ?_ ?_ ?_ ?_ ?_
          · simp
          · dsimp only; intro q hq; simp only [List.mem_cons] at hq ⊢
            rcases hq with hq | hq | hq | hq <;> simp [hq]
          · dsimp only; intro q hq; simp only [List.mem_cons] at hq
            rcases hq with rfl | rfl | rfl | hq
            · exact hI (ol, listOf (ws0 ++ [Value.ref b0]).toArray c3) (.head _)
            · exact hI _ (.tail _ (.head _))
            · exact (Nat.ne_of_lt l9.2.2.1).symm
            · exact hI _ (.tail _ (.tail _ hq))
          · refine ⟨hA.mono fun q hq => .tail _ hq, (hW0.mono fun q hq => .tail _ hq).snoc ⟨D9, v1, _, rfl, .head _⟩, ?_, hOff _ (Nat.ne_of_lt l9.2.2.2.1).symm _⟩
            rw [hfold, ms_merge a9]
          · exact (fun p hp => nomatch hp)
          · walk_at "MY_SAME"
        · dsimp only [PostS]
          rename Fr _ _ _ _ => F9
          rename News _ _ _ _ => N9
          rename ¬ p.1 ≤ r.2 + 1 => a9
          rename_i D9 _ l9 _
          refine EndS.intro (ws0 ++ [.ref b0] ++ [.ref D9], rs0 ++ [r] ++ [p], c3 + 1, (D9, tupO #[Value.int p.1 u1, Value.int p.2 u2]) :: T2) F9 N9 ?_ ?_ ?_ ?_ ?_ ?_
          · simp
          · dsimp only; intro q hq; simp only [List.mem_cons] at hq ⊢
            rcases hq with hq | hq | hq | hq <;> simp [hq]
          · dsimp only; intro q hq; simp only [List.mem_cons] at hq
            rcases hq with rfl | rfl | rfl | hq
            · exact hI (ol, listOf (ws0 ++ [Value.ref b0]).toArray c3) (.head _)
            · exact hI _ (.tail _ (.head _))
            · exact (Nat.ne_of_lt l9.2.2.1).symm
            · exact hI _ (.tail _ (.tail _ hq))
          · refine ⟨hA.mono fun q hq => .tail _ hq, (hW.mono fun q hq => .tail _ hq).snoc ⟨D9, u1, u2, rfl, .head _⟩, ?_, hOff _ (Nat.ne_of_lt l9.2.2.2.1).symm _⟩
            rw [hfold, ms_new a9]
          · exact (fun p hp => nomatch hp)
          · walk_at "MY_SAME"
    · rintro ⟨ws, rs, c3, T2⟩ u h tk ⟨hA, hW, hr, hT2⟩ F' N'
      dsimp only at hA hW hr hT2 N' F' ⊢
      clear F3 N3
      k_steps
      have hrl : rs.length ≤ 3 := by
        have h1 := mf_length (qs2.take us2.length) []
        have h2 := hperm.length_eq
        have h3 := List.length_take_le' us2.length qs2
        rw [← hr] at h1
        simp only [List.length_nil] at h1
        omega
      refine kde_tupleOf (zs := ws) F' N' (PySem.IsL.isList (N' _ (.head _)).1) (by rw [List.size_toArray, hW.length]; omega) (by simp) fun D h9 F9 N9 l9 => ?_
      refine Done.intro F9 ⟨D, ws, rs, (D, tupO ws.toArray) :: T2, rfl, fun q hq => ?_, .head _, hW.mono fun q hq => .tail _ hq, hrl, ?_⟩
      · have : q ∈ (D, tupO ws.toArray) :: (ol, listOf ws.toArray c3) :: (pl, listOf us2.toArray c2) :: T2 := by
          rcases List.mem_cons.mp hq with rfl | hq
          · exact .head _
          · exact .tail _ (.tail _ (.tail _ hq))
        exact ⟨fresh_of hk (N9 _ this).2.2, (N9 _ this).1⟩
      have e1 : qs2.take us2.length = qs2 := List.take_of_length_le (by rw [hP2.length]; exact Nat.le_refl _)
      have e2 : ps.take vs.length = ps := List.take_of_length_le (by rw [hps.length]; exact Nat.le_refl _)
      exact plain_ok (by rw [hq, e2]) hperm hsort (by rw [hr, e1])
end
local macro_rules | `(tactic| walk_at $k:str) => if ["exec For Name Name cons nil", "exec For Tuple Name cons nil", "exec For Name Call cons nil", "exec While Compare cons nil", "exec While BoolOp cons nil", "eval ListComp"].contains k.getString then `(tactic| (k_here; refine stopHere ?_)) else Lean.Macro.throwUnsupported
local macro_rules | `(tactic| walk_at $k:str) => if ["KswEnd", "CompEnd"].contains k.getString then `(tactic| refine stopHere ?_) else Lean.Macro.throwUnsupported
local macro_rules | `(tactic| walk_at "exec Assign cons ListComp") => `(tactic| (k_here; (with_reducible show wpAny _ _ (exec (Stmt.Assign [Expr.Name _ _] _ _) _) _ _ _); refine stopHere ?_))
local macro_rules | `(tactic| walk_at "MY_UP") => `(tactic| (first | with_reducible assumption | (apply And.right; first | with_reducible assumption | (apply And.right; first | with_reducible assumption | (apply And.right; first | with_reducible assumption | (apply And.right; first | with_reducible assumption | (apply And.right; first | with_reducible assumption | (apply And.right; first | with_reducible assumption | (apply And.right; first | with_reducible assumption | (apply And.right; first | with_reducible assumption | (apply And.right; first | with_reducible assumption | (apply And.right; first | with_reducible assumption | (apply And.right; first | with_reducible assumption | (apply And.right; first | with_reducible assumption | (apply And.right; first | with_reducible assumption | (apply And.right; with_reducible assumption))))))))))))))))
local macro_rules | `(tactic| k_ne) => `(tactic| (refine neN ?_; (try dsimp only); first | with_reducible assumption | (apply Ne.symm; with_reducible assumption) | (apply Nat.ne_of_lt; apply And.left; walk_at "MY_UP") | (apply Nat.ne_of_gt; apply And.left; walk_at "MY_UP") | (apply Nat.ne_of_lt; walk_at "MY_UP") | (apply Nat.ne_of_gt; walk_at "MY_UP")))
local macro_rules | `(tactic| walk_at "MY_ENTER") => `(tactic| (
  (refine' con_def ?ho ?hcd ?hb ?hl ?hc ?c1 ?c2 ?c3 ?hh)
  (case' hh => k_fill)
  (case ho => k_is)
  (case hcd => k_is)
  (case hb => (intro s X; exact BindsTo.of_eq rfl))
  (case hl => exact locs rfl)
  (case hc => decide)
  (case c1 => exact rfl)
  (case c2 => exact rfl)
  (case c3 => exact rfl)
  k_whole))
local macro_rules | `(tactic| walk_at "MY_SAME") => `(tactic| (intro z h2 h3; have H := ks_H h2 h3; clear h2 h3; (try dsimp only); (repeat (first | (with_reducible exact rfl) | refine ksH_if H rfl ?_ | refine ksH_kst H rfl rfl ?_))))
local macro_rules | `(tactic| k_mem) => `(tactic| first | exact List.Mem.head _ | assumption | (refine List.Mem.tail _ ?_; k_mem))
local macro_rules | `(tactic| walk_at "MY_OBJ") => `(tactic| first | exact (News.get (by k_asm) (by k_mem)) | exact (Fr.keep (by k_asm) _ _ (by assumption)))
local macro_rules | `(tactic| walk_at "MY_CON") => `(tactic| (
  (case B => k_asm)
  (case F => k_asm)
  (case X => k_asm)
  (case N => k_asm)
  (case T => k_asm)
  (case hk => first | exact rfl | assumption)
  (case hd => ktr_room)
  (case hu => ktr_units)))
local macro_rules | `(tactic| walk_at "call builtin:list.append") => `(tactic| (k_here; (with_reducible show wpAny _ _ (call (Value.builtin _) [Value.ref _, _]) _ _ _); k_dflt (refine' append_L ?F ?N ?U ?z ?_; (case F => k_asm); (case N => k_asm); (case U => k_upd); (case z => ((try simp only [List.length_append, List.length_cons, List.length_nil]); omega)); k_whole); intro h' F' N'; (try k_sweep)))
local macro_rules | `(tactic| walk_at "call builtin:len") => `(tactic| (k_here; (with_reducible show wpAny _ _ (call (Value.builtin "len") [Value.ref _]) _ _ _); k_dflt ((first | refine' len_T ?m ?z ?_ | refine' len_L ?m ?z ?_); (case m => walk_at "MY_OBJ"); (case z => ((try simp only [List.length_append, List.length_cons, List.length_nil]); omega)); k_whole); intro t' tk'; (try simp only [List.length_append, List.length_cons, List.length_nil])))
local macro_rules | `(tactic| walk_at "call builtin:len") => `(tactic| (k_here; (with_reducible show wpAny _ _ (call (Value.builtin "len") [Value.ref _]) _ _ _); k_dflt ((refine' len_L ?m ?z ?_); (case m => walk_at "MY_OBJ"); (case z => ((try simp only [List.length_append, List.length_cons, List.length_nil]); omega)); k_whole); intro t' tk'; (try simp only [List.length_append, List.length_cons, List.length_nil])))
local macro_rules | `(tactic| walk_at "subscriptTail") => `(tactic| (k_here; (with_reducible show wpAny _ _ (subscriptTail _ _ (Value.ref _) (Value.int _ _)) _ _ _); k_dflt (refine' last_L ?m ?k ?_ ?hs ?hg; (case m => walk_at "MY_OBJ"); (case k => rfl); (case hs => with_unfolding_all rfl); (case hg => (intro _; with_unfolding_all rfl)); k_whole)))
section
section
variable {prog : Program} {w : World} {A : Around} {E : Value → Shared → Prop} {s : Shared} {h₀ : Heap} {L : Addr} {m : Str → Option Value} {env : Env} {elt ct : PySem.Expr} {x : Str} {scope : Scope} {cl : List (Str × Addr)} {S : List (Addr × Obj) → Prop} {P : Nat → Value → Prop} {Fin : List Value → List (Addr × Obj) → Prop}

theorem crest (J : Nat → List Value → List (Addr × Obj) → Prop) {n : Nat}
    (turn : ∀ i v I oI C oC D m₂ ys news h tk (E' : Value → Shared → Prop), i < n → P i v → J i ys news → LCg.NsObj oC m₂ → m₂ x = some v → Fr h₀ L h m → News h₀ L h ((I, oI) :: (C, oC) :: (D, LCg.lst ys) :: news) → LCg.Off3 I C D news → ((@Ne Nat I C) ∧ (@Ne Nat I D) ∧ (@Ne Nat C D)) →
      wpAny (model prog w) A (eval elt (compEnvC scope cl C env)) (LCg.CompEnd h₀ L m { s with heap := h, toks := tk } I oI C oC D (LCg.lst ys) S (fun y news' => J (i + 1) (ys ++ [y]) news')) E' { s with heap := h, toks := tk })
    (fin : ∀ ys news, J n ys news → Fin ys news) {news : List (Addr × Obj)} (h0 : J 0 [] news) : LCg.CompRest prog w A h₀ L m env elt x scope cl s S P Fin n 0 [] news := by
  have key : ∀ (j i : Nat) (ys : List Value) (news : List (Addr × Obj)), i + j = n → J i ys news → LCg.CompRest prog w A h₀ L m env elt x scope cl s S P Fin j i ys news := by
    intro j
    induction j with
    | zero =>
      intro i ys news hi hj
      have e : i = n := by omega
      subst e
      exact LCg.CompRest.zero (fin ys news hj)
    | succ j ih =>
      intro i ys news hi hj
      refine LCg.CompRest.succ ?_
      intro v I oI C oC D m₂ h tk E' hv hC hx F N off ne
      refine wpAny_mono (turn i v I oI C oC D m₂ ys news h tk E' (by omega) hv hj hC hx F N off ne) (fun y s₂ hq => ?_) fun _ _ e => e
      obtain ⟨h', tk', nw, e, F', N', off', hS, hn⟩ := hq
      exact ⟨h', tk', nw, e, F', N', off', hS, ih (i + 1) _ nw (by omega) hn⟩
  exact key n 0 [] news (by omega) h0

theorem crestT (J : Nat → List Value → List (Addr × Obj) → Prop) {n : Nat}
    (turn : ∀ i v I oI C oC D m₂ ys news h tk (E' : Value → Shared → Prop), i < n → P i v → J i ys news → LCg.NsObj oC m₂ → m₂ x = some v → Fr h₀ L h m → News h₀ L h ((I, oI) :: (C, oC) :: (D, LCg.lst ys) :: news) → LCg.Off3 I C D news → ((@Ne Nat I C) ∧ (@Ne Nat I D) ∧ (@Ne Nat C D)) →
      wpAny (model prog w) A (isTrue ct (compEnvC scope cl C env) (eval ct (compEnvC scope cl C env))) (fun ok s' => if ok = true then
        wpAny (model prog w) A (eval elt (compEnvC scope cl C env)) (LCg.CompEnd h₀ L m { s with heap := h, toks := tk } I oI C oC D (LCg.lst ys) S (fun y news' => J (i + 1) (ys ++ [y]) news')) E' s'
        else LCg.CompEnd h₀ L m { s with heap := h, toks := tk } I oI C oC D (LCg.lst ys) S (fun _ news' => J (i + 1) ys news') Value.none s') E' { s with heap := h, toks := tk })
    (fin : ∀ ys news, J n ys news → Fin ys news) {news : List (Addr × Obj)} (h0 : J 0 [] news) : LCt.CompRestT prog w A h₀ L m env ct elt x scope cl s S P Fin n 0 [] news := by
  have key : ∀ (j i : Nat) (ys : List Value) (news : List (Addr × Obj)), i + j = n → J i ys news → LCt.CompRestT prog w A h₀ L m env ct elt x scope cl s S P Fin j i ys news := by
    intro j
    induction j with
    | zero =>
      intro i ys news hi hj
      have e : i = n := by omega
      subst e
      exact LCt.CompRestT.zero (fin ys news hj)
    | succ j ih =>
      intro i ys news hi hj
      refine LCt.CompRestT.succ ?_
      intro v I oI C oC D m₂ h tk E' hv hC hx F N off ne
      refine wpAny_mono (turn i v I oI C oC D m₂ ys news h tk E' (by omega) hv hj hC hx F N off ne) (fun ok s₂ hq => ?_) fun _ _ e => e
      cases ok with
      | true =>
        simp only [if_true] at hq ⊢
        refine wpAny_mono hq (fun y s₃ hq => ?_) fun _ _ e => e
        obtain ⟨h', tk', nw, e, F', N', off', hS, hn⟩ := hq
        exact ⟨h', tk', nw, e, F', N', off', hS, ih (i + 1) _ nw (by omega) hn⟩
      | false =>
        simp only [Bool.false_eq_true, if_false] at hq ⊢
        obtain ⟨h', tk', nw, e, F', N', off', hS, hn⟩ := hq
        exact ⟨h', tk', nw, e, F', N', off', hS, ih (i + 1) _ nw (by omega) hn⟩
  exact key n 0 [] news (by omega) h0

def TupAt (h₀ : Heap) (ax : Addr) (its : Array Value) (news : List (Addr × Obj)) : Prop := h₀.get? ax = some (tupO its) ∨ (ax, tupO its) ∈ news
theorem TupAt.get {h : Heap} {ax : Addr} {its : Array Value} {news : List (Addr × Obj)} (x : TupAt h₀ ax its news) (k : ∀ b o, h₀.get? b = some o → h.get? b = some o) (N : News h₀ L h news) : h.get? ax = some (tupO its) := by
  rcases x with e | hm
  · exact k _ _ e
  · exact (N _ hm).1

def SrcTup (prog : Program) (w : World) (A : Around) (h₀ : Heap) (L : Addr) (m : Str → Option Value) (env : Env) (elt : PySem.Expr) (x : Str) (scope : Scope) (cl : List (Str × Addr)) (Q : Value → Shared → Prop) (xv : Value) (s₁ : Shared) : Prop :=
  ∃ ax its news, xv = .ref ax ∧ Fr h₀ L s₁.heap m ∧ News h₀ L s₁.heap news ∧ TupAt h₀ ax its news ∧ its.size ≤ sizeLine ∧
      ∀ g, LCg.CompRest prog w A h₀ L m env elt x scope cl { s₁ with heap := g } (TupAt h₀ ax its) (fun i v => its[i]? = some v) (LCg.FinE h₀ L m { s₁ with heap := g } Q) its.size 0 [] news
theorem ListComp_tup {iter : PySem.Expr} {px : Pos} {pos : Pos} {Q : Value → Shared → Prop} (_F₀ : Fr h₀ L s.heap m)
    (hclos : closureFor scope env = pure cl) (hcell : ∀ y ∈ scope.names, y.2 ≠ .cell) (hkind : scope.kind = .function)
    (hnames : ∀ y ∈ scope.names, y.2 = .local → scope.names.lookup y.1 = some .local) (hx : scope.names.lookup x = some .local) (hh : A.handled = none)
    (h : wpAny (model prog w) A (eval iter env) (SrcTup prog w A h₀ L m env elt x scope cl Q) E s)
    (hs : ∀ x, foldedSetIterable iter env x = pure x := by intro _; rfl) :
    wpAny (model prog w) A (eval (.ListComp elt [⟨.Name x px, iter, [], 0⟩] scope pos) env) Q E s := by
  rw [eval_ListComp]
  refine wpAny_comprehension_free (use := none) rfl hs hclos hkind hnames (wpAny_mono h (fun xv s₁ h₁ => ?_) fun _ _ e => e)
  obtain ⟨ax, its, news, rfl, F, N, S, hsz, R⟩ := h₁
  have hg := S.get F.keep N
  have hl : s₁.heap.IsTuple ax its := ⟨_, hg, rfl, _, rfl⟩
  have hlt : ax < s₁.heap.objs.size := Heap.lt_size hg
  refine wpAny_pyIter_tuple hl ?_
  have up : ∀ b o, s₁.heap.get? b = some o → (s₁.heap.push { cls := .type "tuple_iterator", data := .fields #[.ref ax, .int 0 0] }).get? b = some o := fun b o e => Heap.get?_push_of_some _ e
  refine LCg.block_U (Walks.tuple hh s₁.heap.objs.size ax (Nat.ne_of_lt hlt) its) hsz (fun i h st => by obtain ⟨o, e, _⟩ := st.1; exact ⟨o, e⟩)
    (fun i h h' o nw st e e' k N S => ⟨by obtain ⟨o', q, r⟩ := st.1; rw [e] at q; cases q; exact ⟨o, e', r⟩, ⟨_, S.get k N, rfl, _, rfl⟩⟩)
    hcell hkind hx ⟨⟨_, Heap.get?_push_size _ rfl, rfl, rfl⟩, hl.push _⟩ (fun b hb => ?_)
    (F.keeps up) (N.grown up) (Nat.ne_of_lt F.ns.lt) (next_is_new F) (fun p hp => Nat.ne_of_lt (Heap.lt_size (N p hp).1)) S (R _) ?_
  · show b < (s₁.heap.push _).objs.size
    rw [Heap.size_push]
    rcases List.mem_cons.mp hb with rfl | hb
    · exact Nat.lt_succ_self _
    · rw [List.mem_singleton.mp hb]; exact Nat.lt_succ_of_lt hlt
  · intro D C h tk m' ys news' F' N' o1 hn hC₀ hD₀ hCL hDL hCD offC fin
    refine ⟨m', hn, fun h'' hs'' => fin D h'' tk (F'.change hs'' hCL hC₀) (fun p hp => ?_) o1⟩
    refine ⟨hs''.extBut _ _ ?_ (N' p hp).1, (N' p hp).2⟩
    rcases List.mem_cons.mp hp with rfl | hp
    · exact Ne.symm hCD
    · exact offC p hp
end
end
section
theorem con_defC {w : World} {mean : ExcName → Option Value} {mg mb : Str → Option Value} {d : Nat} {f : Addr} {args : List Value} {wr : List (Addr × Obj)}
    {Pre : Heap → Prop} {Post : Heap → Heap → Value → Prop}
    {name qual : Str} {params : Arguments} {body : List Stmt} {scope : Scope} {dV kV doc pm cdv ct oc : Value} {an od : Option Addr} {osl : Array (Option Value)} {binds : List (Str × Value)}
    (ho : (hd.heap_1 w.params).lookup f = some ⟨oc, od, .func (fnOf name qual params body scope dV kV doc pm an cdv ct), osl⟩)
    (hcd : codeIn (hd.heap_1 w.params) cdv qual = true)
    (hbind : ∀ s : Shared, (hd.heap_1 w.params).In s.heap → BindsTo s (fnOf name qual params body scope dV kV doc pm an cdv ct) ⟨args, []⟩ binds)
    (hkind : (binds.all fun y => scope.names.lookup y.1 == some .local || scope.names.lookup y.1 == some .cell) = true)
    (hnd : ((cellsFrom 0 scope.names []).map (·.1)).Nodup) (hco : scope.isCoroutine = false) (hgen : scope.isGenerator = false) (hk : scope.kind = .function)
    (h : ∀ (dp un : Nat) (gd : Option (List Code)) (cn : Str) (cs : Scope) (L a : Addr) (ccd : Value) (cl : List (Str × Addr)) (outer : List Env) (base h0 g h₁ : Heap) (L' : Addr) (tk : Nat) (cells : List (Addr × Obj)) (s : Shared),
      Below (ktrTop dp un gd cn cs L a ccd cl outer) base (envX cn cs L a ccd cl :: outer) g → Fr g L' h₁ (bindL (envOfC qual scope L' f cdv).kindOf binds fun _ => none) → (hd.heap_1 w.params).In g → News g L' h₁ (cells ++ wr) →
      CellsAre (bindC (envOfC qual scope L' f cdv).kindOf binds fun _ => none) (cellsFrom (L' + 1) scope.names []) cells → (∀ p ∈ wr, p.1 < L') →
      Top viewQ (looseW viewQ [Str.ofString "PostError"]) mean mg mb g → dp + d < recursionLimit → un + 8 * d < cLine →
      Pre h0 → Kp (wr.map (·.1)) h0 g → (∀ p ∈ wr, h0.get? p.1 = some p.2) →
      wpAny (model Challenge.rw_no0370_01.row.prog w) ((ktrTop dp un gd cn cs L a ccd cl outer).deeper (envOfC qual scope L' f cdv)) (execs body (envOfC qual scope L' f cdv))
        (fun fl s' => Done g s (fun v h' => Post h0 h' v) (match fl with | .ret v => v | _ => .none) s') (fun _ _ => False) { s with heap := h₁, toks := tk }) :
    Con w mean mg mb d (.ref f) args wr Pre Post := by
  intro dp un gd cn cs a ccd cl outer A₀ base h₀ L m s Q E B F X N T hke hd hu hpre hQ
  refine wpAny_call ?_
  obtain ⟨FG, BG, st, _⟩ := groundX (A := ktrTop dp un gd cn cs L a ccd cl outer) (env := envX cn cs L a ccd cl) (R := fun _ _ => True) B F N rfl rfl hke
  have hKg : Kp (wr.map (·.1)) s.heap (hideAll s.heap (wr.map (·.1))) := fun b o hb e => hideAll_get _ e hb
  refine codeAny_call_function (fd := fnOf name qual params body scope dV kV doc pm an cdv ct) (by show dp < recursionLimit; omega) ((X.keeps F.keep) _ _ ho) rfl hco hgen rfl (codeRec_of (X.keeps F.keep) hcd) ((hbind s (X.keeps F.keep)) _ _ _ _ ?_)
  refine wpAny_newFunctionEnv_cells hk (kindsX hkind _) fun env' he s' x => ?_
  subst he
  refine ⟨(T.nolimit.keeps F.keep).keeps x.toInCall.keep, codeAny_func ?_⟩
  obtain ⟨h₁, tk, rfl, _⟩ := x.done
  have hk₁ := x.toInCall.keep
  obtain ⟨cells, NC, Y⟩ := Cl.news (h₀ := s.heap) (Nat.le_refl _) fun n c hm => ⟨x.cell n c (lookup_of_mem_nodup (cellsFrom_names scope.names 0 (s.heap.objs.size + 1) [] [] rfl ▸ hnd) hm), x.above n c hm⟩
  have FB : Fr (hideAll s.heap (wr.map (·.1))) s.heap.objs.size h₁ (bindL (envOfC qual scope s.heap.objs.size f cdv).kindOf binds fun _ => none) := ⟨x.toInCall.ns, fun b o e => hk₁ b o (of_hideAll _ e), Nat.le_of_eq (hideAll_size _ _)⟩
  have NB : News (hideAll s.heap (wr.map (·.1))) s.heap.objs.size h₁ (cells ++ wr) := fun p hp => by
    rcases List.mem_append.mp hp with hp | hp
    · refine ⟨(NC p hp).1, (NC p hp).2.1, ?_⟩
      cases q : (hideAll s.heap (wr.map (·.1))).get? p.1 with
      | none => rfl
      | some o => have := of_hideAll _ q; rw [(NC p hp).2.2] at this; cases this
    · exact ⟨hk₁ _ _ (N p hp).1, Nat.ne_of_lt (Heap.lt_size (N p hp).1), hideAll_none _ (List.mem_map_of_mem hp)⟩
  refine wpAny_mono (h dp un gd cn cs L a ccd cl outer base s.heap _ h₁ s.heap.objs.size tk cells s BG FB (X.keeps st) NB Y (fun p hp => Heap.lt_size (N p hp).1) (T.keeps st) hd hu hpre hKg (fun p hp => (N p hp).1)) (fun fl s' hl => ?_) fun _ _ e => e.elim
  obtain ⟨L', m', h', tk', rfl, F', p⟩ := hl
  exact hQ _ _ _ (fun b o hb e => F'.keep b o (hKg b o hb e)) p
end
local macro_rules | `(tactic| walk_at "MY_CENTER") => `(tactic| (
  (refine' con_defC ?ho ?hcd ?hb ?hki ?hnd ?c1 ?c2 ?c3 ?hh)
  (case' hh => k_fill)
  (case ho => k_is)
  (case hcd => k_is)
  (case hb => (intro s X; exact BindsTo.of_eq rfl))
  (case hki => exact rfl)
  (case hnd => decide +kernel)
  (case c1 => exact rfl)
  (case c2 => exact rfl)
  (case c3 => exact rfl)
  k_whole))
theorem off_C5 : True ∧ True := by
  first
  | (walk1; all_goals trivial)
  | exact ⟨trivial, trivial⟩
section
local macro_rules | `(tactic| walk_at "exec For Tuple Name cons nil") => `(tactic| (k_here; (rename Fr _ _ _ _ => lF'); (refine' For_turns lF' ?_ ?hs ?hE); (case hs => (intro x; rfl)); (case hE => passes_own)))

def IntListPost (ns : List Int) (h h' : Heap) (v : Value) : Prop := ∃ b ws c, v = .ref b ∧ h.get? b = none ∧ h'.get? b = some (listOf ws.toArray c) ∧ IntsAre ws ns

theorem ints_unsnoc : ∀ {xs : List Value} {x : Value} {ns : List Int}, IntsAre (xs ++ [x]) ns → ∃ ns0 n t, ns = ns0 ++ [n] ∧ x = .int n t ∧ IntsAre xs ns0
  | [], _, _, .cons n t .nil => ⟨[], n, t, rfl, rfl, .nil⟩
  | _ :: xs, _, _, .cons n t r => by
    obtain ⟨ns0, k, u, rfl, rfl, h⟩ := ints_unsnoc (xs := xs) r
    exact ⟨n :: ns0, k, u, rfl, rfl, .cons n t h⟩
theorem ints_snoc {xs : List Value} {ns : List Int} (h : IntsAre xs ns) (n : Int) (t : Tok) : IntsAre (xs ++ [.int n t]) (ns ++ [n]) := by
  induction h with
  | nil => exact .cons n t .nil
  | cons k u _ ih => exact .cons k u ih
theorem ints_get : ∀ {xs : List Value} {ns : List Int}, IntsAre xs ns → ∀ {i : Nat} {v : Value}, xs[i]? = some v → ∃ n t, v = .int n t ∧ ns[i]? = some n
  | _, _, .nil, i, v, e => by simp at e
  | _, _, .cons n t r, 0, v, e => by simp at e; exact ⟨n, t, e.symm, rfl⟩
  | _, _, .cons n t r, i + 1, v, e => by simp at e; simpa using ints_get r e
theorem plain_use {w : World} {mean : ExcName → Option Value} {mg mb : Str → Option Value} {sm : Addr} {vs : List Value} {ps : List (Int × Int)} {gr : Int} {t : Tok}
    {dp un : Nat} {gd : Option (List Code)} {cn : Str} {cs : Scope} {a : Addr} {ccd : Value} {cl : List (Str × Addr)} {outer : List Env} {A₀ : Around} {base h₀ : Heap} {L : Addr} {m : Str → Option Value} {s : Shared} {Q E : Value → Shared → Prop} {news : List (Addr × Obj)}
    (B : Below A₀ base outer h₀) (F : Fr h₀ L s.heap m) (X : (hd.heap_1 w.params).In h₀) (N : News h₀ L s.heap news)
    (T : Top viewQ (looseW viewQ [Str.ofString "PostError"]) mean mg mb h₀) (hk : cs.kind = .function) (hd : dp + 3 < recursionLimit) (hu : un + 8 * 3 < cLine)
    (hp : s.heap.get? sm = some (tupO vs.toArray) ∧ PairsH s.heap vs ps ∧ ps.length ≤ 3)
    (k : ∀ b ws rs T h' tk', (b, tupO ws.toArray) ∈ T → PairsL T ws rs → rs.length ≤ 3 → PlainOk ps gr rs → (∀ q ∈ T, ∀ p ∈ news, q.1 ≠ p.1) → Fr h₀ L h' m → News h₀ L h' (T ++ news) → Q (.ref b) { s with heap := h', toks := tk' }) :
    wpAny (model Challenge.rw_no0370_01.row.prog w) (ktrTop dp un gd cn cs L a ccd cl outer) (call (.ref 35) [.ref sm, .int gr t]) Q E s := by
  refine (plain_con w mean mg mb sm vs ps gr t).use B F X N T hk hd hu hp fun v h' tk' hK F' N' hP => ?_
  obtain ⟨b, ws, rs, T, rfl, hf, h1, h2, h3, h4⟩ := hP
  exact k b ws rs T h' tk' h1 h2 h3 h4 (hf.apart N) F' (hf.toNews F N')
local macro_rules | `(tactic| walk_at "call ref") => `(tactic| (k_here; k_dflt (
  (refine' plain_use ?B ?F ?X ?N ?T ?hk ?hd ?hu ?hp ?k0)
  (walk_at "MY_CON")
  (case hp => exact ⟨by walk_at "MY_OBJ", PairsH.keeps (by assumption) (kp_keep (by k_asm)), by assumption⟩)
  (case' k0 => intro b9 ws9 rs9 T9 h9 tk9 m9 p9 l9 o9 a9 F9 N9; (try rw [List.append_nil] at N9)))))

theorem members_con (w : World) (mean : ExcName → Option Value) (mg mb : Str → Option Value) (sm nl : Addr) (vs xs : List Value) (ps : List (Int × Int)) (ns : List Int) (c0 : Nat) :
    Con w mean mg mb 4 (.ref 42) [.ref sm, .ref nl] [] (fun h => h.get? sm = some (tupO vs.toArray) ∧ PairsH h vs ps ∧ ps.length ≤ 3 ∧ h.get? nl = some (listOf xs.toArray c0) ∧ IntsAre xs ns ∧ ns.length ≤ 100 ∧ ns.Pairwise (· < ·))
      (IntListPost (ns.filter (memB ps (ns.getLast?.getD 0)))) := by
  walk_at "MY_ENTER"
  intro dp un gd cn cs L a ccd cl outer base h0 g h₁ L' tk s B F X N lN T hd hu hpre hk hw
  (try dsimp only)
  obtain ⟨hsm0, hps0, hlen, hnl0, hxs, hnlen, hasc⟩ := hpre
  have hsm : g.get? sm = some (tupO vs.toArray) := hk _ _ (by simp) hsm0
  have hps := hps0.keeps hk
  have hnl : g.get? nl = some (listOf xs.toArray c0) := hk _ _ (by simp) hnl0
  have hxl := hxs.length
  rcases List.eq_nil_or_concat xs with e | ⟨xs0, x, e⟩
  · subst e
    have hns : ns = [] := by cases ns with
      | nil => rfl
      | cons _ _ => simp at hxl
    subst hns
    k_steps
    rename Fr _ _ _ _ => F9
    rename News _ _ _ _ => N9
    exact Done.intro F9 ⟨_, [], 0, rfl, fresh_of hk (N9 _ (.head _)).2.2, (N9 _ (.head _)).1, .nil⟩
  · rw [List.concat_eq_append] at e
    subst e
    obtain ⟨ns0, last, tl, rfl, rfl, hxs0⟩ := ints_unsnoc hxs
    simp only [List.length_append, List.length_cons, List.length_nil] at hxl hnlen
    k_steps
    · exfalso; omega
    rename Fr _ _ _ _ => F1
    rename News _ _ _ _ => N1
    unfold Stop
    refine For_turns F1 ?_ (by intro x; rfl) (by passes_own)
    k_steps
    rename Fr _ _ _ _ => F1
    rename News _ _ _ _ => N1
    rename_i pb ws rs TT _ _ mp pp lr ok ap _ _ ol _ l1 _ _
    have hnlL : L' ≠ nl := by
      rintro rfl
      exact absurd (Heap.lt_size hnl) (Nat.not_lt.mpr F1.above)
    have hOff : OwnOff TT [ol] := fun q hq b hb => by rw [List.mem_singleton.mp hb]; exact Nat.ne_of_lt (l1 q hq)
    have hwl := pp.length
    refine iterS_list (σ := Int × Tok × List Value × List Int × Nat) [Str.ofString "number", Str.ofString "at"] (fun _ c => [(Str.ofString "at", .int c.1 c.2.1)])
      (fun _ c => (ol, listOf c.2.2.1.toArray c.2.2.2.2) :: TT)
      (fun i c => IntsAre c.2.2.1 c.2.2.2.1 ∧ c.2.2.2.1 = ((ns0 ++ [last]).take i).filter (memR rs) ∧ 0 ≤ c.1 ∧ c.1 ≤ rs.length ∧ ∀ j r, j < c.1.toNat → rs[j]? = some r → ∀ n ∈ (ns0 ++ [last]).drop i, r.2 < n) (0, tk, [], [], 0)
      rfl F1 N1 ?_ ?_ ?_ (F1.keep _ _ hnl) hnlL rfl rfl ?_ ?_ ?_
    · intro p hp; exact hp
    · exact ⟨.nil, rfl, Int.le_refl _, by show (0 : Int) ≤ _; omega, fun j r hj => by simp at hj⟩
    · intro p hp; rw [List.mem_singleton.mp hp]; rfl
    · intro i c h' m' _ F' _; exact F'.keep _ _ hnl
    · rintro i v ⟨at0, ta, ovs, os, c3⟩ u h tk I oI hv ⟨hO, ho, ha0, ha1, hskip⟩ hI F' N'
      dsimp only at hO ho ha0 ha1 hskip hI N' F' ⊢
      obtain ⟨n, tn, rfl, hn⟩ := ints_get hxs hv
      clear F1 N1
      have hIol := neN (hI (ol, listOf ovs.toArray c3) (.head _))
      have hol : ovs.length ≤ 100 := by
        have h1 := hO.length
        rw [ho] at h1
        have h2 := List.length_filter_le (memR rs) ((ns0 ++ [last]).take i)
        have h3 := List.length_take_le' i (ns0 ++ [last])
        simp only [List.length_append, List.length_cons, List.length_nil] at h3
        omega
      have hnext : ∀ (at1 : Int), (∀ j r, j < at1.toNat → rs[j]? = some r → r.2 < n) → ∀ j r, j < at1.toNat → rs[j]? = some r → ∀ k ∈ (ns0 ++ [last]).drop (i + 1), r.2 < k := by
        intro at1 hb j r hj hr k hk
        have h1 := hb j r hj hr
        have h2 := asc_drop hasc hn hk
        omega
      k_steps
      rename Fr _ _ _ _ => F2
      rename News _ _ _ _ => N2
      unfold Stop
      refine ksw_while (σ := Int × Tok) (fun _ => (I, oI) :: (ol, listOf ovs.toArray c3) :: TT) (fun c => [(Str.ofString "at", .int c.1 c.2)]) (fun _ => True) [Str.ofString "at"]
        (fun c => 0 ≤ c.1 ∧ c.1 ≤ rs.length ∧ ∀ j r, j < c.1.toNat → rs[j]? = some r → r.2 < n) (fun c => (rs.length - c.1).toNat) (at0, ta) F2 N2 trivial ?_ ?_ ?_ (by passes_own)
      · intro p hp; rw [List.mem_singleton.mp hp]; rfl
      · refine ⟨ha0, ha1, fun j r hj hr => hskip j r hj hr n ?_⟩
        have hlt := (List.getElem?_eq_some_iff.mp hn).1
        rw [List.drop_eq_getElem_cons hlt, (List.getElem?_eq_some_iff.mp hn).2]
        exact .head _
      · rintro ⟨at1, t1⟩ u2 h3 tk3 _ ⟨hb0, hb1, hb2⟩ F3 N3
        dsimp only at hb0 hb1 hb2 F3 N3 ⊢
        clear F2 N2
        k_steps
        · rename at1 < _ => hlt
          obtain ⟨w, hw1⟩ : ∃ w, ws[at1.toNat]? = some w := ⟨_, List.getElem?_eq_getElem (by omega)⟩
          obtain ⟨r, hr, b, q1, q2, rfl, hb⟩ := pp.get hw1
          replace N3 := news_dup N3 (.tail _ (.tail _ hb))
          refine item_T (ws := ws) (by walk_at "MY_OBJ") hb0 (by omega) hw1 ?_
          k_steps
          · unfold Stop
            rename Fr _ _ _ _ => F9
            rename News _ _ _ _ => N9
            rename r.2 < n => a9
            refine' ksw_end (at1 + 1, _) F9 N9 (fun p hp => .tail _ hp) trivial ?h1 ?h2 ?h3 ?h4
            case h1 => intro p hp; rw [List.mem_singleton.mp hp]; rfl
            case h2 => walk_at "MY_SAME"
            case h3 =>
              refine ⟨by show (0 : Int) ≤ at1 + 1; omega, by show at1 + 1 ≤ _; omega, fun j r' hj hr' => ?_⟩
              have hj' : j < (at1 + 1).toNat := hj
              by_cases hja : j < at1.toNat
              · exact hb2 j r' hja hr'
              · have : j = at1.toNat := by omega
                rw [this, hr] at hr'
                cases hr'
                exact a9
            case h4 => show (rs.length - (at1 + 1)).toNat < (rs.length - at1).toNat; omega
          · rename ¬ r.2 < n => a9
            refine item_T (ws := ws) (by walk_at "MY_OBJ") hb0 (by omega) hw1 ?_
            have hbol := neN (hOff _ hb _ (.head _))
            k_steps
            · dsimp only [PostS]
              rename Fr _ _ _ _ => F9
              rename News _ _ _ _ => N9
              rename r.1 ≤ n => a8
              refine EndS.intro (at1, t1, ovs ++ [.int n tn], os ++ [n], c3 + 1) F9 N9 ?_ ?_ ?_ ?_ ?_ ?_
              · simp
              · intro p hp; exact .tail _ (.tail _ hp)
              · intro p hp
                rcases List.mem_cons.mp hp with rfl | hp
                · exact hI (ol, listOf ovs.toArray c3) (.head _)
                · exact hI p (.tail _ hp)
              · refine ⟨ints_snoc hO n tn, ?_, hb0, hb1, hnext at1 hb2⟩
                show os ++ [n] = _
                rw [filt_step hn, mem_yes hr a8 a9, ← ho, if_pos rfl]
              · intro p hp; rw [List.mem_singleton.mp hp]; rfl
              · walk_at "MY_SAME"
            · dsimp only [PostS]
              rename Fr _ _ _ _ => F9
              rename News _ _ _ _ => N9
              rename ¬ r.1 ≤ n => a8
              refine EndS.intro (at1, t1, ovs, os, c3) F9 N9 ?_ ?_ ?_ ?_ ?_ ?_
              · simp
              · intro p hp; exact .tail _ (.tail _ hp)
              · exact hI
              · refine ⟨hO, ?_, hb0, hb1, hnext at1 hb2⟩
                show os = _
                rw [filt_step hn, mem_no ok.1 hb2 (fun q hq => by rw [hr] at hq; cases hq; exact a8), ← ho]
                simp
              · intro p hp; rw [List.mem_singleton.mp hp]; rfl
              · walk_at "MY_SAME"
        · dsimp only [PostS]
          rename Fr _ _ _ _ => F9
          rename News _ _ _ _ => N9
          rename ¬ at1 < _ => a9
          refine EndS.intro (at1, t1, ovs, os, c3) F9 N9 ?_ ?_ ?_ ?_ ?_ ?_
          · simp
          · intro p hp; exact .tail _ hp
          · exact hI
          · refine ⟨hO, ?_, hb0, hb1, hnext at1 hb2⟩
            show os = _
            rw [filt_step hn, mem_no ok.1 hb2 (fun q hq => by have := (List.getElem?_eq_some_iff.mp hq).1; omega), ← ho]
            simp
          · intro p hp; rw [List.mem_singleton.mp hp]; rfl
          · walk_at "MY_SAME"
    · rintro ⟨at0, ta, ovs, os, c3⟩ u h tk ⟨hO, ho, _, _, _⟩ F' N'
      dsimp only at hO ho N' F' ⊢
      clear F1 N1
      k_steps
      rename Fr _ _ _ _ => F9
      rename News _ _ _ _ => N9
      refine Done.intro F9 ⟨ol, ovs, c3, rfl, fresh_of hk (N9 _ (.head _)).2.2, (N9 _ (.head _)).1, ?_⟩
      have e1 : (ns0 ++ [last]).take (xs0 ++ [Value.int last tl]).length = ns0 ++ [last] := List.take_of_length_le (by simp only [List.length_append, List.length_cons, List.length_nil]; omega)
      rw [e1] at ho
      have e2 : (ns0 ++ [last]).getLast?.getD 0 = last := by simp
      rw [e2, ← filt_congr (memR_eq ok), ← ho]
      exact hO
end
section
theorem ints_app : ∀ {xs ys : List Value} {ns ms : List Int}, IntsAre xs ns → IntsAre ys ms → IntsAre (xs ++ ys) (ns ++ ms)
  | _, _, _, _, .nil, h => h
  | _, _, _, _, .cons n t r, h => .cons n t (ints_app r h)
theorem ints_hd {ys : List Value} {a : Int} {r : List Int} (h : IntsAre ys (a :: r)) : ∃ t z, ys = .int a t :: z ∧ IntsAre z r := by
  cases h with
  | cons _ t h => exact ⟨t, _, rfl, h⟩
theorem ints_two {ys : List Value} {a b : Int} (h : IntsAre ys [a, b]) : ∃ t u, ys = [.int a t, .int b u] := by
  obtain ⟨t, z, e, h1⟩ := ints_hd h
  obtain ⟨u, y, e2, h2⟩ := ints_hd h1
  cases h2
  subst e2; subst e
  exact ⟨t, u, rfl⟩
theorem perm_two {ns : List Int} {a b : Int} (h : ns.Perm [a, b]) (hs : ns.Pairwise (· ≤ ·)) : ∃ x y, ns = [x, y] ∧ x ≤ y ∧ x = min a b ∧ y = max a b := by
  have hl := h.length_eq
  match ns, hl with
  | [x, y], _ =>
    have hxy : x ≤ y := by simpa using hs
    refine ⟨x, y, rfl, hxy, ?_⟩
    have h1 := (h.mem_iff (a := x)).mp (by simp)
    have h2 := (h.mem_iff (a := y)).mp (by simp)
    have h3 := (h.mem_iff (a := a)).mpr (by simp)
    have h4 := (h.mem_iff (a := b)).mpr (by simp)
    simp only [List.mem_cons, List.not_mem_nil, or_false] at h1 h2 h3 h4
    omega
theorem within_one {p : Int × Int} {last n x y : Int} (h : 0 < last) (hx : x = min (if p.1 = 0 then last else p.1) (if p.2 = 0 then last else p.2)) (hy : y = max (if p.1 = 0 then last else p.1) (if p.2 = 0 then last else p.2)) :
    memB [p] last n = (decide (x ≤ n) && decide (n ≤ y)) := by
  have e : endsP p last = some (x, y) := by
    unfold endsP
    rw [if_neg (by omega), hx, hy]
  simp [memB, e]
theorem memB_mem {ps : List (Int × Int)} {p : Int × Int} {gr n : Int} (hp : p ∈ ps) (h : memB [p] gr n = true) : memB ps gr n = true := by
  obtain ⟨q, hq, r⟩ := memB_iff.mp h
  rw [List.mem_singleton.mp hq] at r
  exact memB_iff.mpr ⟨p, hp, r⟩
theorem memB_none {ps : List (Int × Int)} {gr n : Int} (h : ∀ p ∈ ps, memB [p] gr n = false) : memB ps gr n = false := by
  cases e : memB ps gr n with
  | false => rfl
  | true =>
    obtain ⟨q, hq, r⟩ := memB_iff.mp e
    have h1 := h q hq
    have h2 : memB [q] gr n = true := memB_iff.mpr ⟨q, .head _, r⟩
    rw [h1] at h2; cases h2
theorem within_next {ps : List (Int × Int)} {p : Int × Int} {i : Nat} {last n : Int} (hp : ps[i]? = some p) (hf : ∀ q ∈ ps.take i, (decide (0 < last) && memB [q] last n) = false) (h : (decide (0 < last) && memB [p] last n) = false) :
    ∀ q ∈ ps.take (i + 1), (decide (0 < last) && memB [q] last n) = false := fun q hq => by
  rw [List.take_add_one, hp] at hq
  rcases List.mem_append.mp hq with hq | hq
  · exact hf q hq
  · have : q = p := by simpa using hq
    rw [this]; exact h
def WithinPost (ps : List (Int × Int)) (n last : Int) (h h' : Heap) (v : Value) : Prop := v = .bool (decide (0 < last) && memB ps last n)
theorem within_con (w : World) (mean : ExcName → Option Value) (mg mb : Str → Option Value) (sm : Addr) (vs : List Value) (ps : List (Int × Int)) (n last : Int) (t1 t2 : Tok) :
    Con w mean mg mb 3 (.ref 284) [.ref sm, .int n t1, .int last t2] [] (fun h => h.get? sm = some (tupO vs.toArray) ∧ PairsH h vs ps) (WithinPost ps n last) := by
  walk_at "MY_CENTER"
  intro dp un gd cn cs L a ccd cl outer base h0 g h₁ L' tk cells s B F X N Y lN T hd hu hpre hk hw
  k_cells Y
  (try simp only [List.cons_append, List.nil_append] at N)
  (try dsimp only)
  obtain ⟨hsm0, hps0⟩ := hpre
  have hsm : g.get? sm = some (tupO vs.toArray) := hk _ _ (by simp) hsm0
  have hps := hps0.keeps hk
  k_steps
  rename Fr _ _ _ _ => F1
  rename News _ _ _ _ => N1
  unfold Stop
  refine For_turns F1 ?_ (by intro x; rfl) (by passes_own)
  k_steps
  rename Fr _ _ _ _ => F1
  rename News _ _ _ _ => N1
  have hsmL : L' ≠ sm := by
    rintro rfl
    exact absurd (Heap.lt_size hsm) (Nat.not_lt.mpr F1.above)
  rename Obj => oc
  refine iterS_tuple (σ := Unit) [Str.ofString "low", Str.ofString "high", Str.ofString "ends"] (fun _ _ => []) (fun _ _ => [(L' + 1, oc)]) (fun i _ => ∀ p ∈ ps.take i, (decide (0 < last) && memB [p] last n) = false) ()
      rfl F1 N1 ?_ ?_ ?_ (F1.keep _ _ hsm) hsmL rfl rfl ?_ ?_ ?_
  · intro p hp; exact hp
  · intro p hp; simp at hp
  · intro p hp; exact nomatch hp
  · intro i c h' m' _ F' _; exact F'.keep _ _ hsm
  · rintro i v c u h tk I oI hv hf hI F' N'
    dsimp only at hf hI N' F' ⊢
    obtain ⟨p, hp, b, u1, u2, rfl, hb⟩ := hps.get hv
    clear F1 N1
    have htup : IsTup g b #[.int p.1 u1, .int p.2 u2] := ⟨_, hb, rfl, _, rfl⟩
    k_steps
    unfold Stop
    rename Fr _ _ _ _ => F2
    refine ListComp_tup F2 (by with_unfolding_all rfl) (by decide) (by rfl) (by decide) (by rfl) rfl ?_
    k_steps
    rename Fr _ _ _ _ => F2
    rename News _ _ _ _ => N2
    refine ⟨_, _, _, rfl, F2, N2, .inr (.head _), (by show (2 : Nat) ≤ sizeLine; rw [sizeLine_eq]; decide), fun gg => ?_⟩
    refine crest (fun i ys nw => IntsAre ys ((([p.1, p.2]).take i).map fun e => if e = 0 then last else e) ∧ nw = _) ?_ ?_ ⟨.nil, rfl⟩
    · rintro j v2 I2 oI2 C oC D m2 ys nw h3 tk3 E' hj hv2 ⟨hys, rfl⟩ hNs hx F3 N3 off ne
      obtain ⟨n2, t2, rfl, hn2⟩ := ints_get (IntsAre.cons p.1 u1 (.cons p.2 u2 .nil)) (by simpa using hv2)
      clear F2 N2
      k_steps
      all_goals (unfold Stop; refine LCg.CompEnd.intro F3 N3 _ (fun _ h => h) off (.inr (.head _)) ⟨?_, rfl⟩)
      · rename n2 = 0 => e0
        rw [List.take_add_one, hn2, List.map_append]
        refine ints_app hys ?_
        rw [show List.map (fun e => if e = 0 then last else e) (some n2).toList = [last] by simp [e0]]
        exact .cons _ _ .nil
      · rename n2 ≠ 0 => e0
        rw [List.take_add_one, hn2, List.map_append]
        refine ints_app hys ?_
        rw [show List.map (fun e => if e = 0 then last else e) (some n2).toList = [n2] by simp [e0]]
        exact .cons _ _ .nil
    · rintro ys nw ⟨hys, rfl⟩
      intro D h4 tk4 F4 N4 o4
      clear F2 N2
      obtain ⟨x1, y1, rfl⟩ := ints_two hys
      k_steps
      refine sorted_N (vs := [_, _]) F4 N4 ⟨_, (N4 _ (.head _)).1, rfl, _, rfl⟩ hys (by show (2 : Nat) < 64; decide) ?_
      intro h5 vs5 ns5 e5 F5 N5 hI5 hperm hasc
      obtain ⟨x, y, rfl, hxy, hx5, hy5⟩ := perm_two hperm hasc
      obtain ⟨x2, y2, rfl⟩ := ints_two hI5
      clear F4 N4
      generalize h4.objs.size + 1 = sl at N5
      dsimp only at N5 ⊢
      k_steps
      · skip
        rename 0 < last => a1
        rename _ ≤ n => a2
        rename n ≤ _ => a3
        have a2' : x ≤ n := a2
        have a3' : n ≤ y := a3
        dsimp only [PostS]
        refine Done.intro (by assumption) ?_
        have : memB ps last n = true := memB_mem (List.mem_of_getElem? hp) (by rw [within_one a1 hx5 hy5]; simp [a2', a3'])
        simp [WithinPost, this, a1]
      all_goals (
        dsimp only [PostS]
        rename Fr _ _ _ _ => F9
        rename News _ _ _ _ => N9
        refine EndS.intro () F9 N9 ?_ ?_ hI ?_ ?_ ?_)
      · simp
      · intro q hq; rw [List.mem_singleton.mp hq]; simp
      · rename 0 < last => a1
        rename ¬ n ≤ _ => a3
        have a3' : ¬ n ≤ y := a3
        exact within_next hp hf (by rw [within_one a1 hx5 hy5]; simp [a3'])
      · exact (fun p hp => nomatch hp)
      · walk_at "MY_SAME"
      · simp
      · intro q hq; rw [List.mem_singleton.mp hq]; simp
      · rename 0 < last => a1
        rename ¬ _ ≤ n => a3
        have a3' : ¬ x ≤ n := a3
        exact within_next hp hf (by rw [within_one a1 hx5 hy5]; simp [a3'])
      · exact (fun p hp => nomatch hp)
      · walk_at "MY_SAME"
      · simp
      · intro q hq; rw [List.mem_singleton.mp hq]; simp
      · rename ¬ 0 < last => a1
        exact within_next hp hf (by simp [a1])
      · exact (fun p hp => nomatch hp)
      · walk_at "MY_SAME"
  · rintro c u h tk hf F' N'
    dsimp only at hf N' F' ⊢
    clear F1 N1
    k_steps
    (try dsimp only)
    refine Done.intro F' ?_
    rw [show ps.take vs.length = ps from List.take_of_length_le (by rw [hps.length]; exact Nat.le_refl _)] at hf
    unfold WithinPost
    by_cases a1 : 0 < last
    · rw [memB_none fun p hp => by simpa [a1] using hf p hp]; simp
    · simp [a1]
end
section

abbrev penO (cl : Addr) (sp : Int) (t : Tok) (pw : Int) (tw : Tok) (n : Nat) : Obj := listOf #[.ref cl, .int sp t, .int pw tw] n
def DrawPost (pen cl : Addr) (sp pw : Int) (tw : Tok) (n : Nat) (many : Int) (h h' : Heap) (v : Value) : Prop :=
  ∃ r tr t', v = .int r tr ∧ 0 ≤ r ∧ r < many ∧ h'.get? pen = some (penO cl (sp + 1) t' pw tw n)

theorem draw_con (w : World) (mean : ExcName → Option Value) (mg mb : Str → Option Value) (pen cl : Addr) (sp pw many : Int) (t tw tm : Tok) (n c0 : Nat) (cs : List Value) (ns : List Int) (hsp : 0 ≤ sp) (hsp1 : sp ≤ 1000) (hpw : 0 ≤ pw) (hpw1 : pw ≤ 1000) (hm : 1 ≤ many) (hm1 : many ≤ 10) :
    Con w mean mg mb 2 (.ref 272) [.ref pen, .int many tm] [(pen, penO cl sp t pw tw n)] (fun h => cl ≠ pen ∧ h.get? cl = some (listOf cs.toArray c0) ∧ IntsAre cs ns ∧ ns.length ≤ 100)
      (DrawPost pen cl sp pw tw n many) := by
  walk_at "MY_ENTER"
  intro dp un gd cn cs' L a ccd cl' outer base h0 g h₁ L' tk s B F X N lN T hd hu hpre hk hw
  (try dsimp only)
  obtain ⟨hne, hcl0, hcs, hlen⟩ := hpre
  have hcl : g.get? cl = some (listOf cs.toArray c0) := hk _ _ (by simpa using hne) hcl0
  have hcl2 : g.IsList cl cs.toArray := PySem.IsL.isList hcl
  have hcl3 := hcs.length
  k_steps
  all_goals (
    dsimp only
    rename News _ _ _ _ => N9
    refine Done.intro (by assumption) ⟨_, _, _, rfl, ?_, ?_, (N9 _ (.head _)).1⟩)
  · exact Int.fmod_nonneg_of_pos _ (by omega)
  · exact Int.fmod_lt_of_pos _ (by omega)
  · exact Int.fmod_nonneg_of_pos _ (by omega)
  · exact Int.fmod_lt_of_pos _ (by omega)

theorem draw_use {w : World} {mean : ExcName → Option Value} {mg mb : Str → Option Value} {pen cl0 : Addr} {sp pw many : Int} {t tw tm : Tok} {n c0 : Nat} {xs : List Value} {ns : List Int}
    {dp un : Nat} {gd : Option (List Code)} {cn : Str} {cs : Scope} {a : Addr} {ccd : Value} {cl : List (Str × Addr)} {outer : List Env} {A₀ : Around} {base h₀ : Heap} {L : Addr} {m : Str → Option Value} {s : Shared} {Q E : Value → Shared → Prop} {rest : List (Addr × Obj)}
    (B : Below A₀ base outer h₀) (F : Fr h₀ L s.heap m) (X : (hd.heap_1 w.params).In h₀) (N : News h₀ L s.heap ((pen, penO cl0 sp t pw tw n) :: rest))
    (T : Top viewQ (looseW viewQ [Str.ofString "PostError"]) mean mg mb h₀) (hk : cs.kind = .function) (hd : dp + 2 < recursionLimit) (hu : un + 8 * 2 < cLine)
    (off : ∀ p ∈ rest, p.1 ≠ pen) (hcl : s.heap.get? cl0 = some (listOf xs.toArray c0)) (hxs : IntsAre xs ns) (hlen : ns.length ≤ 100) (hsp : 0 ≤ sp) (hsp1 : sp ≤ 1000) (hpw : 0 ≤ pw) (hpw1 : pw ≤ 1000) (hm : 1 ≤ many) (hm1 : many ≤ 10)
    (k : ∀ r tr t' h' tk', 0 ≤ r → r < many → Kp [pen] s.heap h' → Fr h₀ L h' m → News h₀ L h' ((pen, penO cl0 (sp + 1) t' pw tw n) :: rest) → Q (.int r tr) { s with heap := h', toks := tk' }) :
    wpAny (model Challenge.rw_no0370_01.row.prog w) (ktrTop dp un gd cn cs L a ccd cl outer) (call (.ref 272) [.ref pen, .int many tm]) Q E s := by
  have hp := N _ (.head _)
  have hne : cl0 ≠ pen := by
    rintro rfl
    rw [hcl] at hp
    have h1 := Option.some.inj hp.1
    have h2 : xs.toArray = #[.ref cl0, .int sp t, .int pw tw] := by
      have := congrArg Obj.data h1
      simp only [Data.seq.injEq] at this
      exact this.1
    have h3 : xs = [.ref cl0, .int sp t, .int pw tw] := by simpa using congrArg Array.toList h2
    rw [h3] at hxs
    cases hxs
  refine draw_con w mean mg mb pen cl0 sp pw many t tw tm n c0 xs ns hsp hsp1 hpw hpw1 hm hm1 dp un gd cn cs a ccd cl outer A₀ base h₀ L m s Q E B F X
    (fun p hp => N p (by rw [List.mem_singleton.mp hp]; exact .head _)) T hk hd hu ⟨hne, hcl, hxs, hlen⟩ fun v h' tk' hK hP => ?_
  obtain ⟨r, tr, t', rfl, h0, h1, hpen⟩ := hP
  refine k r tr t' h' tk' h0 h1 hK (kp_fr (wr := [pen]) F (by simpa using ⟨hp.2.2, hp.2.1⟩) hK) fun p hq => ?_
  rcases List.mem_cons.mp hq with rfl | hq
  · exact ⟨hpen, hp.2⟩
  · exact ⟨hK _ _ (by simpa using off p hq) (N p (.tail _ hq)).1, (N p (.tail _ hq)).2⟩

theorem draw_useU {w : World} {mean : ExcName → Option Value} {mg mb : Str → Option Value} {pen cl0 : Addr} {sp pw many : Int} {t tw tm : Tok} {n c0 : Nat} {xs : List Value} {ns : List Int}
    {dp un : Nat} {gd : Option (List Code)} {cn : Str} {cs : Scope} {a : Addr} {ccd : Value} {cl : List (Str × Addr)} {outer : List Env} {A₀ : Around} {base h₀ : Heap} {L : Addr} {m : Str → Option Value} {s : Shared} {Q E : Value → Shared → Prop} {news : List (Addr × Obj)} {g : Obj → List (Addr × Obj)}
    (B : Below A₀ base outer h₀) (F : Fr h₀ L s.heap m) (X : (hd.heap_1 w.params).In h₀) (N : News h₀ L s.heap news)
    (T : Top viewQ (looseW viewQ [Str.ofString "PostError"]) mean mg mb h₀) (hk : cs.kind = .function) (hd : dp + 2 < recursionLimit) (hu : un + 8 * 2 < cLine) (U : UpdF pen (penO cl0 sp t pw tw n) news g)
    (hcl : s.heap.get? cl0 = some (listOf xs.toArray c0)) (hxs : IntsAre xs ns) (hlen : ns.length ≤ 100) (hb : (0 ≤ sp ∧ sp ≤ 1000) ∧ (0 ≤ pw ∧ pw ≤ 1000) ∧ 1 ≤ many ∧ many ≤ 10)
    (k : ∀ r tr t' h' tk', 0 ≤ r → r < many → Kp [pen] s.heap h' → Fr h₀ L h' m → News h₀ L h' (g (penO cl0 (sp + 1) t' pw tw n)) → Q (.int r tr) { s with heap := h', toks := tk' }) :
    wpAny (model Challenge.rw_no0370_01.row.prog w) (ktrTop dp un gd cn cs L a ccd cl outer) (call (.ref 272) [.ref pen, .int many tm]) Q E s := by
  obtain ⟨pre, post, rfl, hg, h1, h2⟩ := U.split
  have N' : News h₀ L s.heap ((pen, penO cl0 sp t pw tw n) :: (pre ++ post)) := fun p hp => N p (by
    rcases List.mem_cons.mp hp with rfl | hp
    · exact List.mem_append_right _ (.head _)
    · rcases List.mem_append.mp hp with hp | hp
      · exact List.mem_append_left _ hp
      · exact List.mem_append_right _ (.tail _ hp))
  refine draw_use B F X N' T hk hd hu (fun p hp => (List.mem_append.mp hp).elim (h1 p) (h2 p)) hcl hxs hlen hb.1.1 hb.1.2 hb.2.1.1 hb.2.1.2 hb.2.2.1 hb.2.2.2 fun r tr t' h' tk' a1 a2 a3 a4 a5 => k r tr t' h' tk' a1 a2 a3 a4 ?_
  rw [hg]
  intro p hp
  refine a5 p ?_
  rcases List.mem_append.mp hp with hp | hp
  · exact .tail _ (List.mem_append_left _ hp)
  · rcases List.mem_cons.mp hp with rfl | hp
    · exact .head _
    · exact .tail _ (List.mem_append_right _ hp)
end
theorem off_C8 : True ∧ True := by
  first
  | (walk1; all_goals trivial)
  | exact ⟨trivial, trivial⟩
section
local macro_rules | `(tactic| walk_at "MY_DRAW") => `(tactic| (k_here; k_dflt (
  (refine' draw_useU ?B ?F ?X ?N ?T ?hk ?hd ?hu ?U ?hcl ?hxs ?hlen ?hb ?k0)
  (walk_at "MY_CON")
  (case U => k_updF)
  (case hcl => walk_at "MY_OBJ")
  (case hxs => assumption)
  (case hlen => omega)
  (case hb => omega)
  (case' k0 => refine stopHere ?_))))

local macro_rules | `(tactic| walk_at "call ref") => `(tactic| walk_at "MY_DRAW")
def SetPost (pen cl : Addr) (sp pw : Int) (tw : Tok) (n : Nat) (h h' : Heap) (v : Value) : Prop :=
  ∃ b ws ps T sp' t', v = .ref b ∧ FreshL h h' T ∧ (b, tupO ws.toArray) ∈ T ∧ PairsL T ws ps ∧ 1 ≤ ps.length ∧ ps.length ≤ 3 ∧ (∀ p ∈ ps, 0 ≤ p.1 ∧ p.1 < 10 ∧ 0 ≤ p.2 ∧ p.2 < 10) ∧ sp ≤ sp' ∧ sp' ≤ sp + 10 ∧ h'.get? pen = some (penO cl sp' t' pw tw n)

theorem set_con (w : World) (mean : ExcName → Option Value) (mg mb : Str → Option Value) (pen cl : Addr) (sp pw : Int) (t tw : Tok) (n c0 : Nat) (cs : List Value) (ns : List Int) (hsp : 0 ≤ sp) (hsp1 : sp ≤ 900) (hpw : 0 ≤ pw) (hpw1 : pw ≤ 1000) :
    Con w mean mg mb 3 (.ref 279) [.ref pen] [(pen, penO cl sp t pw tw n)] (fun h => cl ≠ pen ∧ h.get? cl = some (listOf cs.toArray c0) ∧ IntsAre cs ns ∧ ns.length ≤ 100)
      (SetPost pen cl sp pw tw n) := by
  walk_at "MY_ENTER"
  intro dp un gd cn cs' L a ccd cl' outer base h0 g h₁ L' tk s B F X N lN T hd hu hpre hk hw
  (try dsimp only)
  obtain ⟨hne, hcl0, hcs, hlen⟩ := hpre
  have hcl : g.get? cl = some (listOf cs.toArray c0) := hk _ _ (by simpa using hne) hcl0
  have hcl3 := hcs.length
  k_steps
  rename Fr _ _ _ _ => F1
  unfold Stop
  refine For_turns F1 ?_ (by intro x; rfl) (by passes_own)
  k_steps
  rename pen < _ => lsl
  intro r1 tr1 t1 h9 tk9 hr0 hr1 K9 F9 N9
  (try dsimp only at N9)
  k_steps
  rename IsRange _ _ _ _ _ _ _ _ => hR
  rename Fr _ _ _ _ => F2
  rename News _ _ _ _ => N2
  obtain ⟨sl, esl⟩ := news_a0 N2
  subst esl
  have hn : (((1 + r1).toNat : Nat) : Int) = 1 + r1 := by omega
  have hsm : Builtin.Range.small 0 (1 + r1) 1 = true ∧ Builtin.Range.rangeSize 0 (1 + r1) 1 = (((1 + r1).toNat : Nat) : Int) := by
    have : r1 = 0 ∨ r1 = 1 ∨ r1 = 2 := by omega
    rcases this with e | e | e <;> subst e <;> exact ⟨by decide +kernel, by decide +kernel⟩
  refine' iterS_range (σ := Int × Tok × List Value × List (Int × Int) × Nat × List (Addr × Obj)) [Str.ofString "lap", Str.ofString "low"] (fun _ _ => [])
    (fun _ c => (sl, listOf c.2.2.1.toArray c.2.2.2.2.1) :: (pen, penO cl c.1 c.2.1 pw tw n) :: c.2.2.2.2.2)
    (fun i c => PairsL c.2.2.2.2.2 c.2.2.1 c.2.2.2.1 ∧ c.2.2.2.1.length = i ∧ (∀ p ∈ c.2.2.2.1, 0 ≤ p.1 ∧ p.1 < 10 ∧ 0 ≤ p.2 ∧ p.2 < 10) ∧ (sp + 1 ≤ c.1 ∧ c.1 ≤ sp + 1 + 3 * (i : Int)) ∧ OwnOff c.2.2.2.2.2 [sl, pen]) (sp + 1, _, [], [], 0, [])
    rfl F2 N2 ?g1 ?g2 ?g3 hR hsm.1 hsm.2 (by intro it v; rfl) ?g4 ?g5
  case g1 => intro p hp; exact hp
  · exact ⟨.nil, rfl, (fun p hp => nomatch hp), ⟨Int.le_refl _, by show sp + 1 ≤ sp + 1 + 3 * (0 : Int); omega⟩, fun p hp => nomatch hp⟩
  · intro p hp; exact nomatch hp
  · rintro i tl ⟨sp2, t2, ws, ps, c, T2⟩ u h tk I oI hi ⟨hP, hpl, hpb, ⟨hs1, hs2⟩, hT2⟩ hI F' N'
    dsimp only at hP hpl hpb hs1 hs2 hT2 hI N' F' ⊢
    clear F1 F2 N2 hR
    have hIsl := neN (hI (sl, listOf ws.toArray c) (.head _))
    have hIpen := neN (hI (pen, penO cl sp2 t2 pw tw n) (.tail _ (.head _)))
    have hwl := hP.length
    k_steps
    intro low tlow t3 h3 tk3 hl0 hl1 K3 F3 N3
    (try dsimp only at N3)
    k_steps
    intro r4 tr4 t4 h4 tk4 hr4 hr41 K4 F4 N4
    (try dsimp only at N4)
    k_steps
    · dsimp only [PostS]
      rename Fr _ _ _ _ => F8
      rename News _ _ _ _ => N8
      rename _ ∧ _ ∧ _ ∧ AllLt _ _ => l9
      obtain ⟨D9, eD⟩ := news_a0 N8
      subst eD
      refine EndS.intro (_, _, ws ++ [.ref D9], ps ++ [(low, low)], c + 1, (D9, tupO #[.int low tlow, .int low tlow]) :: T2) F8 N8 (.tail _ (.head _)) (List.forall_mem_cons.mpr ⟨.tail _ (.tail _ (.head _)), List.forall_mem_cons.mpr ⟨.tail _ (.tail _ (.tail _ (.head _))), List.forall_mem_cons.mpr ⟨.head _, fun q hq => .tail _ (.tail _ (.tail _ (.tail _ hq)))⟩⟩⟩) ?_ ?_ (fun p hp => nomatch hp) ?_
      · exact List.forall_mem_cons.mpr ⟨hIsl, List.forall_mem_cons.mpr ⟨hIpen, List.forall_mem_cons.mpr ⟨(Nat.ne_of_lt l9.1).symm, fun q hq => hI q (.tail _ (.tail _ hq))⟩⟩⟩
      · refine ⟨(hP.mono fun q hq => .tail _ hq).snoc ⟨D9, tlow, tlow, rfl, .head _⟩, ?_, ?_, ?_, ?_⟩
        · show (ps ++ [_]).length = i + 1
          simp [hpl]
        · refine List.forall_mem_append.mpr ⟨hpb, List.forall_mem_singleton.mpr ?_⟩
          dsimp only; omega
        · dsimp only; omega
        · intro q hq b hb
          rcases List.mem_cons.mp hq with rfl | hq
          · rcases List.mem_cons.mp hb with rfl | hb
            · exact (Nat.ne_of_lt l9.2.1).symm
            · rw [List.mem_singleton.mp hb]; exact (Nat.ne_of_lt l9.2.2.1).symm
          · exact hT2 q hq b hb
      · walk_at "MY_SAME"
    · intro hi thi t5 h5 tk5 hh0 hh1 K5 F5 N5
      (try dsimp only at N5)
      k_steps
      dsimp only [PostS]
      rename Fr _ _ _ _ => F8
      rename News _ _ _ _ => N8
      rename _ ∧ _ ∧ _ ∧ AllLt _ _ => l9
      obtain ⟨D9, eD⟩ := news_a0 N8
      subst eD
      refine EndS.intro (_, _, ws ++ [.ref D9], ps ++ [(low, hi)], c + 1, (D9, tupO #[.int low tlow, .int hi thi]) :: T2) F8 N8 (.tail _ (.head _)) (List.forall_mem_cons.mpr ⟨.tail _ (.tail _ (.head _)), List.forall_mem_cons.mpr ⟨.tail _ (.tail _ (.tail _ (.head _))), List.forall_mem_cons.mpr ⟨.head _, fun q hq => .tail _ (.tail _ (.tail _ (.tail _ hq)))⟩⟩⟩) ?_ ?_ (fun p hp => nomatch hp) ?_
      · exact List.forall_mem_cons.mpr ⟨hIsl, List.forall_mem_cons.mpr ⟨hIpen, List.forall_mem_cons.mpr ⟨(Nat.ne_of_lt l9.1).symm, fun q hq => hI q (.tail _ (.tail _ hq))⟩⟩⟩
      · refine ⟨(hP.mono fun q hq => .tail _ hq).snoc ⟨D9, tlow, thi, rfl, .head _⟩, ?_, ?_, ?_, ?_⟩
        · show (ps ++ [_]).length = i + 1
          simp [hpl]
        · refine List.forall_mem_append.mpr ⟨hpb, List.forall_mem_singleton.mpr ?_⟩
          dsimp only; omega
        · dsimp only; omega
        · intro q hq b hb
          rcases List.mem_cons.mp hq with rfl | hq
          · rcases List.mem_cons.mp hb with rfl | hb
            · exact (Nat.ne_of_lt l9.2.1).symm
            · rw [List.mem_singleton.mp hb]; exact (Nat.ne_of_lt l9.2.2.1).symm
          · exact hT2 q hq b hb
      · walk_at "MY_SAME"
  · rintro ⟨sp2, t2, ws, ps, c, T2⟩ u h tk ⟨hP, hpl, hpb, ⟨hs1, hs2⟩, hT2⟩ F' N'
    dsimp only at hP hpl hpb hs1 hs2 hT2 N' F' ⊢
    clear F1 F2 N2 hR
    k_steps
    refine kde_tupleOf (zs := ws) F' N' (PySem.IsL.isList (N' _ (.head _)).1) (by rw [List.size_toArray, hP.length]; omega) (by simp) fun D h9 F9 N9 l9 => ?_
    have hDp : D ≠ pen := (Nat.ne_of_lt (l9 (pen, _) (.tail _ (.head _)))).symm
    have fr : ∀ q, q ∈ (D, tupO ws.toArray) :: T2 → q.1 ≠ pen ∧ q ∈ (D, tupO ws.toArray) :: (sl, listOf ws.toArray c) :: (pen, penO cl sp2 t2 pw tw n) :: T2 := fun q hq => by
      rcases List.mem_cons.mp hq with rfl | hq
      · exact ⟨hDp, .head _⟩
      · exact ⟨hT2 q hq pen (by simp), .tail _ (.tail _ (.tail _ hq))⟩
    refine Done.intro F9 ⟨D, ws, ps, (D, tupO ws.toArray) :: T2, sp2, t2, rfl, fun q hq => ?_, .head _, hP.mono fun q hq => .tail _ hq, by omega, by omega, hpb, by omega, by omega, (N9 _ (.tail _ (.tail _ (.head _)))).1⟩
    obtain ⟨z1, z2⟩ := fr q hq
    refine ⟨?_, (N9 _ z2).1⟩
    cases e : h0.get? q.1 with
    | none => rfl
    | some o => have := hk _ _ (by simpa using z1) e; rw [(N9 _ z2).2.2] at this; cases this
end
section
abbrev ent (w : World) (n : String) (k : Tok) (v : Value) : DictEntry := { hash := PyData.keyHash w.params (Str.ofString n), key := .str (Str.ofString n) k, val := v }
/-- the dict of a View -/
abbrev viewO (w : World) (k : Nat → Tok) (box ul fd md : Addr) : Obj :=
  dictOf [ent w "box" (k 0) (.ref box), ent w "is_readonly" (k 1) (.bool true), ent w "uses_modseq" (k 2) (.bool false), ent w "uses_vanished" (k 3) (.bool false),
    ent w "uids" (k 4) (.ref ul), ent w "flags" (k 5) (.ref fd), ent w "modseqs" (k 6) (.ref md)] 7
/-- the dict of a Letter -/
abbrev letO (w : World) (k : Nat → Tok) (u : Int) (t : Tok) (oc : Value) (fl : Addr) (ins : Value) (ms : Int) (tm : Tok) : Obj :=
  dictOf [ent w "uid" (k 0) (.int u t), ent w "octets" (k 1) oc, ent w "flags" (k 2) (.ref fl), ent w "instant" (k 3) ins, ent w "modseq" (k 4) (.int ms tm)] 5
/-- the dict of a Box -/
abbrev boxO (w : World) (k : Nat → Tok) (tn tv : Tok) (nu : Int) (t2 : Tok) (tp : Int) (t3 : Tok) (t4 : Tok) (ll gl : Addr) : Obj :=
  dictOf [ent w "name" (k 0) (.str (Str.ofString "b") tn), ent w "validity" (k 1) (.int 3 tv), ent w "next_uid" (k 2) (.int nu t2), ent w "top" (k 3) (.int tp t3), ent w "floor" (k 4) (.int 0 t4),
    ent w "letters" (k 5) (.ref ll), ent w "gone" (k 6) (.ref gl)] 7
theorem inst_g {h : Heap} {x C dx : Addr} {od : Obj} {sl : Array (Option Value)} (e1 : h.get? x = some (⟨.ref C, some dx, .plain, sl⟩ : Obj)) (e2 : h.get? dx = some od) : InstAt h x ⟨.ref C, some dx, .plain, sl⟩ C (some od) := ⟨e1, rfl, rfl, e2⟩
end
local macro_rules | `(tactic| k_inst) => `(tactic| (refine' inst_g ?e1 ?e2; (case e1 => walk_at "MY_OBJ"); (case e2 => walk_at "MY_OBJ")))
section

theorem getD_some {l : List Int} {k : Nat} (h : k < l.length) : l[k]? = some (l.getD k 0) := by simp [List.getD, h]
theorem asc_lt {l : List Int} {i j : Nat} {a b : Int} (ha : l.Pairwise (· < ·)) (h1 : l[i]? = some a) (h2 : l[j]? = some b) (h : i < j) : a < b := by
  obtain ⟨hi, rfl⟩ := List.getElem?_eq_some_iff.mp h1
  obtain ⟨hj, rfl⟩ := List.getElem?_eq_some_iff.mp h2
  exact List.pairwise_iff_getElem.mp ha i j hi hj h
theorem asc_le {l : List Int} {i j : Nat} {a b : Int} (ha : l.Pairwise (· < ·)) (h1 : l[i]? = some a) (h2 : l[j]? = some b) (h : i ≤ j) : a ≤ b := by
  rcases Nat.lt_or_eq_of_le h with h | h
  · exact Int.le_of_lt (asc_lt ha h1 h2 h)
  · subst h; rw [h1] at h2; cases h2; exact Int.le_refl _
def PlacePost (ns : List Int) (u : Int) (h h' : Heap) (v : Value) : Prop := ∃ r t, v = .int r t ∧ ((∃ k : Nat, ns[k]? = some u ∧ r = (k : Int)) ∨ (u ∉ ns ∧ r = -1))
theorem place_con (w : World) (mean : ExcName → Option Value) (mg mb : Str → Option Value) (ul : Addr) (xs : List Value) (ns : List Int) (c0 : Nat) (u : Int) (t : Tok) :
    Con w mean mg mb 2 (.ref 98) [.ref ul, .int u t] [] (fun h => h.get? ul = some (listOf xs.toArray c0) ∧ IntsAre xs ns ∧ ns.length ≤ 100 ∧ ns.Pairwise (· < ·)) (PlacePost ns u) := by
  walk_at "MY_ENTER"
  intro dp un gd cn cs L a ccd cl outer base h0 g h₁ L' tk s B F X N lN T hd hu hpre hk hw
  (try dsimp only)
  obtain ⟨hul0, hxs, hlen, hasc⟩ := hpre
  have hul : g.get? ul = some (listOf xs.toArray c0) := hk _ _ (by simp) hul0
  have hul2 : g.IsList ul xs.toArray := PySem.IsL.isList hul
  have hxl := hxs.length
  k_steps
  rename Fr _ _ _ _ => F1
  rename News _ _ _ _ => N1
  unfold Stop
  refine' ksw_while (σ := Int × Tok × Int × Tok) (fun _ => []) (fun c => [(Str.ofString "low", .int c.1 c.2.1), (Str.ofString "high", .int c.2.2.1 c.2.2.2)]) (fun _ => True) [Str.ofString "low", Str.ofString "high", Str.ofString "middle"]
    (fun c => 0 ≤ c.1 ∧ c.1 ≤ c.2.2.1 ∧ c.2.2.1 ≤ ns.length ∧ (∀ (j : Nat) v, (j : Int) < c.1 → ns[j]? = some v → v < u) ∧ (∀ (j : Nat) v, c.2.2.1 ≤ (j : Int) → ns[j]? = some v → u ≤ v)) (fun c => (c.2.2.1 - c.1).toNat) (0, _, (xs.length : Int), _)
    F1 (fun p hp => nomatch hp) trivial ?g1 ?g2 ?g3 (by passes_own)
  case g1 =>
    intro p hp
    rcases List.mem_cons.mp hp with rfl | hp
    · rfl
    · rw [List.mem_singleton.mp hp]; rfl
  case g2 =>
    refine ⟨Int.le_refl _, by dsimp only; omega, by dsimp only; omega, fun j v hj => by dsimp only at hj; omega, fun j v hj hv => ?_⟩
    have := (List.getElem?_eq_some_iff.mp hv).1
    dsimp only at hj; omega
  case g3 =>
    rintro ⟨lo, tl, hi, th⟩ u2 h3 tk3 _ ⟨hb0, hb1, hb2, hb3, hb4⟩ F3 N3
    dsimp only at hb0 hb1 hb2 hb3 hb4 F3 N3 ⊢
    clear F1 N1
    k_steps
    · unfold Stop
      rename Fr _ _ _ _ => F9
      rename lo < hi => hlt
      rename _ < u => h9
      have hm : (lo + hi).fdiv 2 = (lo + hi) / 2 := Int.fdiv_eq_ediv_of_nonneg _ (by decide)
      rw [hm] at h9
      refine' ksw_end ((lo + hi) / 2 + 1, _, hi, th) F9 (news' := []) (by intro p hp; exact nomatch hp) (by intro p hp; exact nomatch hp) trivial ?h1 ?h2 ?h3 ?h4
      case h1 =>
        intro p hp
        rcases List.mem_cons.mp hp with rfl | hp
        · rw [← hm]; rfl
        · rw [List.mem_singleton.mp hp]; rfl
      case h2 => walk_at "MY_SAME"
      case h3 =>
        refine ⟨by dsimp only; omega, by dsimp only; omega, hb2, fun j v hj hv => ?_, hb4⟩
        have h5 := asc_le hasc hv (getD_some (l := ns) (k := ((lo + hi) / 2).toNat) (by omega)) (by dsimp only at hj; omega)
        omega
      case h4 => dsimp only; omega
    · unfold Stop
      rename Fr _ _ _ _ => F9
      rename lo < hi => hlt
      rename ¬ _ < u => h9
      have hm : (lo + hi).fdiv 2 = (lo + hi) / 2 := Int.fdiv_eq_ediv_of_nonneg _ (by decide)
      rw [hm] at h9
      refine' ksw_end (lo, tl, (lo + hi) / 2, _) F9 (news' := []) (by intro p hp; exact nomatch hp) (by intro p hp; exact nomatch hp) trivial ?h1 ?h2 ?h3 ?h4
      case h1 =>
        intro p hp
        rcases List.mem_cons.mp hp with rfl | hp
        · rfl
        · rw [List.mem_singleton.mp hp, ← hm]; rfl
      case h2 => walk_at "MY_SAME"
      case h3 =>
        refine ⟨hb0, by dsimp only; omega, by dsimp only; omega, hb3, fun j v hj hv => ?_⟩
        have h5 := asc_le hasc (getD_some (l := ns) (k := ((lo + hi) / 2).toNat) (by omega)) hv (by dsimp only at hj; omega)
        omega
      case h4 => dsimp only; omega
    · rename ¬ lo < hi => hlt
      rename lo < (xs.length : Int) => h8
      rename _ = u => h9
      refine Done.intro (by assumption) ⟨lo, tl, rfl, .inl ⟨lo.toNat, ?_, by omega⟩⟩
      rw [getD_some (l := ns) (by omega), h9]
    · rename ¬ lo < hi => hlt
      rename lo < (xs.length : Int) => h8
      rename _ ≠ u => h9
      refine Done.intro (by assumption) ⟨-1, _, rfl, .inr ⟨fun hmem => ?_, rfl⟩⟩
      obtain ⟨j, hj, hju⟩ := List.getElem_of_mem hmem
      have hv : ns[j]? = some u := by rw [List.getElem?_eq_getElem hj, hju]
      have h1 : ¬ (j : Int) < lo := fun h => by have := hb3 j u h hv; omega
      by_cases h2 : (j : Int) = lo
      · have : j = lo.toNat := by omega
        rw [this, getD_some (l := ns) (by omega)] at hv
        exact h9 (Option.some.inj hv)
      · have h3 := getD_some (l := ns) (k := lo.toNat) (by omega)
        have h4 := asc_lt hasc h3 hv (by omega)
        have h5 := hb4 lo.toNat _ (by omega) h3
        omega
    · rename ¬ lo < hi => hlt
      rename ¬ lo < (xs.length : Int) => h8
      refine Done.intro (by assumption) ⟨-1, _, rfl, .inr ⟨fun hmem => ?_, rfl⟩⟩
      obtain ⟨j, hj, hju⟩ := List.getElem_of_mem hmem
      have hv : ns[j]? = some u := by rw [List.getElem?_eq_getElem hj, hju]
      have := hb3 j u (by omega) hv
      omega
end
theorem off_C10 : True ∧ True := by
  first
  | (walk1; all_goals trivial)
  | exact ⟨trivial, trivial⟩
section

/-- what a View's methods ask of the heap -/
def ViewAt (w : World) (k : Nat → Tok) (h : Heap) (view dv box ul fd md : Addr) (xs : List Value) (c0 : Nat) : Prop :=
  h.get? view = some (instObj 87 dv) ∧ h.get? dv = some (viewO w k box ul fd md) ∧ h.get? ul = some (listOf xs.toArray c0)
theorem ViewAt.keeps {w : World} {k : Nat → Tok} {h h' : Heap} {view dv box ul fd md : Addr} {xs : List Value} {c0 : Nat} (x : ViewAt w k h view dv box ul fd md xs c0) (kp : Kp [] h h') : ViewAt w k h' view dv box ul fd md xs c0 :=
  ⟨kp _ _ (by simp) x.1, kp _ _ (by simp) x.2.1, kp _ _ (by simp) x.2.2⟩
def UidAtPost (ns : List Int) (n : Int) (h h' : Heap) (v : Value) : Prop := ∃ t, v = .int (if 1 ≤ n ∧ n ≤ (ns.length : Int) then ns.getD (n - 1).toNat 0 else 0) t
theorem uid_at_yes {ns : List Int} {n : Int} {h h' : Heap} {t : Tok} (a1 : 1 ≤ n) (a2 : n ≤ (ns.length : Int)) : UidAtPost ns n h h' (.int (ns.getD (n - 1).toNat 0) t) := ⟨t, by rw [if_pos ⟨a1, a2⟩]⟩
theorem uid_at_no {ns : List Int} {n : Int} {h h' : Heap} {t : Tok} (a : ¬ (1 ≤ n ∧ n ≤ (ns.length : Int))) : UidAtPost ns n h h' (.int 0 t) := ⟨t, by rw [if_neg a]⟩
theorem uid_at_con (w : World) (mean : ExcName → Option Value) (mg mb : Str → Option Value) (k : Nat → Tok) (view dv box ul fd md : Addr) (xs : List Value) (ns : List Int) (c0 : Nat) (n : Int) (t : Tok) :
    Con w mean mg mb 2 (.ref 69) [.ref view, .int n t] [] (fun h => ViewAt w k h view dv box ul fd md xs c0 ∧ IntsAre xs ns ∧ ns.length ≤ 100) (UidAtPost ns n) := by
  walk_at "MY_ENTER"
  intro dp un gd cn cs L a ccd cl outer base h0 g h₁ L' tk s B F X N lN T hd hu hpre hk hw
  (try dsimp only)
  obtain ⟨hv0, hxs, hlen⟩ := hpre
  obtain ⟨hv1, hv2, hul⟩ := hv0.keeps hk
  have hul2 : g.IsList ul xs.toArray := PySem.IsL.isList hul
  have hxl := hxs.length
  k_steps
  all_goals (try dsimp only)
  all_goals (refine Done.intro (by assumption) ?_)
  · rename 1 ≤ n => a1
    rename n ≤ _ => a2
    exact uid_at_yes a1 (by omega)
  · rename 1 ≤ n => a1
    rename ¬ n ≤ _ => a2
    exact uid_at_no (by omega)
  · rename ¬ 1 ≤ n => a1
    exact uid_at_no (by omega)
local macro_rules | `(tactic| walk_at "call ref") => `(tactic| (k_here; k_dflt (
  (refine' (Con.use (place_con _ _ _ _ _ _ _ _ _ _) ?B ?F ?X ?N ?T ?hk ?hd ?hu ?hp ?k0))
  (walk_at "MY_CON")
  (case hp => exact ⟨by walk_at "MY_OBJ", by assumption, by assumption, by assumption⟩)
  (case' k0 => refine stopHere ?_))))
def NumPost (ns : List Int) (u : Int) (h h' : Heap) (v : Value) : Prop := ∃ r t, v = .int r t ∧ ((∃ k : Nat, ns[k]? = some u ∧ r = (k : Int) + 1) ∨ (u ∉ ns ∧ r = 0))
theorem number_of_con (w : World) (mean : ExcName → Option Value) (mg mb : Str → Option Value) (k : Nat → Tok) (view dv box ul fd md : Addr) (xs : List Value) (ns : List Int) (c0 : Nat) (u : Int) (t : Tok) :
    Con w mean mg mb 3 (.ref 62) [.ref view, .int u t] [] (fun h => ViewAt w k h view dv box ul fd md xs c0 ∧ IntsAre xs ns ∧ ns.length ≤ 100 ∧ ns.Pairwise (· < ·)) (NumPost ns u) := by
  walk_at "MY_ENTER"
  intro dp un gd cn cs L a ccd cl outer base h0 g h₁ L' tk s B F X N lN T hd hu hpre hk hw
  (try dsimp only)
  obtain ⟨hv0, hxs, hlen, hasc⟩ := hpre
  obtain ⟨hv1, hv2, hul⟩ := hv0.keeps hk
  k_steps
  intro v h9 tk9 K9 F9 N9 hP
  obtain ⟨r, t9, rfl, hr⟩ := hP
  k_steps
  refine Done.intro (by assumption) ⟨_, _, rfl, ?_⟩
  rcases hr with ⟨j, h1, h2⟩ | ⟨h1, h2⟩
  · exact .inl ⟨j, h1, by rw [h2]⟩
  · exact .inr ⟨h1, by rw [h2]; rfl⟩
end
theorem off_C11 : True ∧ True := by
  first
  | (walk1; all_goals trivial)
  | exact ⟨trivial, trivial⟩
section


local macro_rules | `(tactic| walk_at "call ref") => `(tactic| (k_here; k_dflt (refine stopHere ?_)))
theorem rangeKs_asc (a : Int) (n : Nat) : (rangeKs a n).Pairwise (· < ·) := by
  unfold rangeKs
  rw [List.pairwise_map]
  exact List.Pairwise.imp (fun h => by omega) List.pairwise_lt_range
theorem rangeKs_last (n : Nat) : (rangeKs 1 n).getLast?.getD 0 = (n : Int) := by
  cases n with
  | zero => rfl
  | succ n => unfold rangeKs; rw [List.range_succ, List.map_append, List.map_singleton, List.getLast?_concat]; simp; omega
/-- what uids_in gives back -/
def UidsIn (ps : List (Int × Int)) (ns : List Int) (isUid : Bool) : List Int :=
  if isUid then ns.filter (memB ps (ns.getLast?.getD 0)) else ((rangeKs 1 ns.length).filter (memB ps (ns.length : Int))).map fun j => ns.getD (j - 1).toNat 0
theorem uids_in_con (w : World) (mean : ExcName → Option Value) (mg mb : Str → Option Value) (k : Nat → Tok) (view dv box ul fd md sm : Addr) (xs vs : List Value) (ns : List Int) (ps : List (Int × Int)) (c0 : Nat) (isUid : Bool) :
    Con w mean mg mb 5 (.ref 74) [.ref view, .ref sm, .bool isUid] [] (fun h => ViewAt w k h view dv box ul fd md xs c0 ∧ IntsAre xs ns ∧ ns.length ≤ 90 ∧ ns.Pairwise (· < ·) ∧ h.get? sm = some (tupO vs.toArray) ∧ PairsH h vs ps ∧ ps.length ≤ 3) (IntListPost (UidsIn ps ns isUid)) := by
  walk_at "MY_CENTER"
  intro dp un gd cn cs L a ccd cl outer base h0 g h₁ L' tk cells s B F X N Y lN T hd hu hpre hk hw
  k_cells Y
  (try simp only [List.cons_append, List.nil_append] at N)
  (try dsimp only)
  obtain ⟨hv0, hxs, hlen, hasc, hsm0, hps0, hplen⟩ := hpre
  obtain ⟨hv1, hv2, hul⟩ := hv0.keeps hk
  have hsm : g.get? sm = some (tupO vs.toArray) := hk _ _ (by simp) hsm0
  have hps := hps0.keeps hk
  have hxl := hxs.length
  have hul2 : g.IsList ul xs.toArray := PySem.IsL.isList hul
  cases isUid with
  | true =>
    k_steps
    unfold Stop
    refine Con.use (members_con _ _ _ _ sm ul vs xs ps ns c0) (by k_asm) (by k_asm) (by k_asm) (by k_asm) (by k_asm) rfl (by ktr_room) (by ktr_units) ⟨by walk_at "MY_OBJ", PairsH.keeps hps (kp_keep (by k_asm)), hplen, by walk_at "MY_OBJ", hxs, by omega, hasc⟩ ?_
    intro v h9 tk9 K9 F9 N9 hP
    obtain ⟨b9, ws9, c9, rfl, hb9, hb9', hi9⟩ := hP
    have N9 := kp_add (by k_asm) N9 hb9 hb9'
    k_steps
    rename Fr _ _ _ _ => FE
    rename News _ _ _ _ => NE
    exact Done.intro FE ⟨_, ws9, _, rfl, fresh_of hk (NE _ (.head _)).2.2, (NE _ (.head _)).1, hi9⟩
  | false =>
    k_steps
    unfold Stop
    rename Fr _ _ _ _ => F2
    refine LCg.ListComp_U F2 (by with_unfolding_all rfl) (by decide) (by rfl) (by decide) (by rfl) ?_
    k_steps
    rename IntsAre _ (rangeKs _ _) => hI2
    have hn9 : ((ns.length : Int) + 1 - 1).toNat = ns.length := by omega
    rw [hn9] at hI2
    unfold Stop
    refine Con.use (members_con _ _ _ _ sm _ vs _ ps (rangeKs 1 ns.length) _) (by k_asm) (by k_asm) (by k_asm) (by k_asm) (by k_asm) rfl (by ktr_room) (by ktr_units) ⟨by walk_at "MY_OBJ", PairsH.keeps hps (kp_keep (by k_asm)), hplen, by walk_at "MY_OBJ", hI2, by rw [rangeKs_length]; omega, rangeKs_asc _ _⟩ ?_
    rw [rangeKs_last]
    intro v h9 tk9 K9 F9 N9 hP
    obtain ⟨b9, ws9, c9, rfl, hb9, hb9', hi9⟩ := hP
    have hl9 := hi9.length
    have hfl := List.length_filter_le (memB ps (ns.length : Int)) (rangeKs 1 ns.length)
    rw [rangeKs_length] at hfl
    have N9 := kp_add (by k_asm) N9 hb9 hb9'
    rename Obj => oc
    refine LCg.CompSrc.ledger (by rfl) (by k_asm) N9 (.head _) (by rw [List.size_toArray, sizeLine_eq]; omega) fun g' => ?_
    refine crest (fun i ys nw => IntsAre ys ((((rangeKs 1 ns.length).filter (memB ps (ns.length : Int))).take i).map fun j => ns.getD (j - 1).toNat 0) ∧ nw = _) ?_ ?_ ⟨.nil, rfl⟩
    · rintro j v2 I2 oI2 C oC D m2 ys nw h3 tk3 E' hj hv2 ⟨hys, rfl⟩ hNs hx F3 N3 off ne
      obtain ⟨n2, t2, rfl, hn2⟩ := ints_get hi9 (by simpa using hv2)
      have hmem := List.mem_of_getElem? hn2
      have hmr := (mem_rangeKs (List.mem_filter.mp hmem).1)
      k_steps
      unfold Stop
      refine LCg.CompEnd.intro F3 N3 _ (fun _ h => h) off (.inr ⟨_, .head _, rfl, _, rfl⟩) ⟨?_, rfl⟩
      rw [List.take_add_one, hn2, List.map_append]
      exact ints_app hys (.cons _ _ .nil)
    · rintro ys nw ⟨hys, rfl⟩
      intro D h4 tk4 F4 N4 o4
      rw [List.size_toArray, hl9, List.take_length] at hys
      k_steps
      rename Fr _ _ _ _ => FE
      rename News _ _ _ _ => NE
      exact Done.intro FE ⟨_, ys, _, rfl, fresh_of hk (NE _ (.head _)).2.2, (NE _ (.head _)).1, hys⟩
end
section
theorem compTurn_two0 (elt t1 i1 t2 i2 : Expr) (ifs : List Expr) (scope : Scope) (pos : Pos) (it acc : Value) (env : Env) :
    compTurn (.ListComp elt [⟨t1, i1, [], 0⟩, ⟨t2, i2, ifs, 0⟩] scope pos) 0 it acc env = (standAt i1.pos >>= fun _ => pyNext it >>= fun r => match r with
      | none => pure (.done .next)
      | some v => letOwnedTupleGo t1 it v >>= fun _ => assign t1 env v >>= fun _ =>
        (eval i2 env >>= fun x => standAt i2.pos >>= fun _ => foldedSetIterable i2 env x >>= fun x => holding [x] (pyIter x) >>= fun it' =>
          runOwn (.compStart (.ListComp elt [⟨t1, i1, [], 0⟩, ⟨t2, i2, ifs, 0⟩] scope pos) 1 it' acc env) env >>= fun _ =>
          again (.compLoop (.ListComp elt [⟨t1, i1, [], 0⟩, ⟨t2, i2, ifs, 0⟩] scope pos) 0 it acc env))) := by rfl
theorem compTurn_two1 (elt t1 i1 t2 i2 : Expr) (ifs : List Expr) (scope : Scope) (pos : Pos) (it acc : Value) (env : Env) :
    compTurn (.ListComp elt [⟨t1, i1, [], 0⟩, ⟨t2, i2, ifs, 0⟩] scope pos) 1 it acc env = (do
      standAt i2.pos
      match ← pyNext it with
      | none => pure (.done .next)
      | some v =>
        letOwnedTupleGo t2 it v
        assign t2 env v
        let mut ok := true
        for c in ifs do
          if ok then ok ← isTrue c env (eval c env)
        if ok then
          (do let _ ← call (.builtin "list.append") [acc, ← eval elt env])
        again (.compLoop (.ListComp elt [⟨t1, i1, [], 0⟩, ⟨t2, i2, ifs, 0⟩] scope pos) 1 it acc env)) := by rfl
section
variable {prog : Program} {w : World} {A : Around} {E : Value → Shared → Prop} {R : Result → Shared → Prop} {s : Shared}
theorem compLoop_two0 {elt t1 i1 t2 i2 : Expr} {ifs : List Expr} {scope : Scope} {pos : Pos} {it acc : Value} {env : Env} (I : Nat → Shared → Prop)
    (turn : ∀ n s, I n s → ∀ E', wpAny (model prog w) A (pyNext it) (fun r s₁ => match r with
      | none => R (.ok .next) s₁
      | some v => wpAny (model prog w) A (assign t1 env v) (fun _ s₂ => wpAny (model prog w) A (eval i2 env) (fun x s₃ => wpAny (model prog w) A (pyIter x) (fun it' s₄ =>
          codeAny (model prog w) A (.compStart (.ListComp elt [⟨t1, i1, [], 0⟩, ⟨t2, i2, ifs, 0⟩] scope pos) 1 it' acc env) (fun r s₅ => r = .ok .next ∧ ∃ m, m < n ∧ I m s₅) s₄) E' s₃) E' s₂) E' s₁) E' s)
    (n : Nat) (h : I n s) (ht : ∀ v, letOwnedTupleGo t1 it v = pure () := by intro _; rfl) (hs : ∀ x, foldedSetIterable i2 env x = pure x := by intro _; rfl) :
    codeAny (model prog w) A (.compLoop (.ListComp elt [⟨t1, i1, [], 0⟩, ⟨t2, i2, ifs, 0⟩] scope pos) 0 it acc env) R s := by
  refine codeAny_loop rfl I (fun n s hI => ?_) n h
  show wpAny _ A ((compTurn (.ListComp elt [⟨t1, i1, [], 0⟩, ⟨t2, i2, ifs, 0⟩] scope pos) 0 it acc env).onRaise (fun x => do noteFrame x env; theTreesLotGoes x)) _ _ s
  refine wpAny_noted ?_
  rw [compTurn_two0]
  refine wpAny_bind (wpAny_standAt (wpAny_bind (wpAny_mono (turn n s hI _) (fun r s₁ h₁ => ?_) fun _ _ h' => h')))
  cases r with
  | none => exact wpAny_pure h₁
  | some v =>
    refine wpAny_bind (wpAny_of_eq (ht v) ?_)
    refine wpAny_bind (wpAny_mono h₁ (fun _ s₂ h₂ => wpAny_bind (wpAny_mono h₂ (fun x s₃ h₃ => ?_) fun _ _ h' => h')) fun _ _ h' => h')
    refine wpAny_bind (wpAny_standAt (wpAny_bind (wpAny_of_eq (hs x) (wpAny_bind (wpAny_holding (wpAny_mono h₃ (fun it' s₄ h₄ => ?_) fun _ _ h' => h'))))))
    refine wpAny_bind (wpAny_runOwn (codeAny_mono h₄ (fun r s₅ h₅ => ?_)))
    obtain ⟨rfl, h₅⟩ := h₅
    exact wpAny_pure ⟨rfl, h₅⟩
theorem compLoop_two1 {elt t1 i1 t2 i2 : Expr} {ifs : List Expr} {scope : Scope} {pos : Pos} {it acc : Value} {env : Env} (I : Nat → Shared → Prop)
    (turn : ∀ n s, I n s → ∀ E', wpAny (model prog w) A (pyNext it) (fun r s₁ => match r with
      | none => R (.ok .next) s₁
      | some v => wpAny (model prog w) A (assign t2 env v) (fun _ s₂ =>
          wpAny (model prog w) A (forIn ifs true fun c r => if r = true then do let ok ← isTrue c env (eval c env); pure (ForInStep.yield ok) else pure (ForInStep.yield r)) (fun ok s₃ =>
            if ok = true then wpAny (model prog w) A (eval elt env) (fun x s₄ =>
              wpAny (model prog w) A (call (.builtin "list.append") [acc, x]) (fun _ s₅ => ∃ m, m < n ∧ I m s₅) E' s₄) E' s₃
            else ∃ m, m < n ∧ I m s₃) E' s₂) E' s₁) E' s)
    (n : Nat) (h : I n s) (ht : ∀ v, letOwnedTupleGo t2 it v = pure () := by intro _; rfl) :
    codeAny (model prog w) A (.compLoop (.ListComp elt [⟨t1, i1, [], 0⟩, ⟨t2, i2, ifs, 0⟩] scope pos) 1 it acc env) R s := by
  refine codeAny_loop rfl I (fun n s hI => ?_) n h
  show wpAny _ A ((compTurn (.ListComp elt [⟨t1, i1, [], 0⟩, ⟨t2, i2, ifs, 0⟩] scope pos) 1 it acc env).onRaise (fun x => do noteFrame x env; theTreesLotGoes x)) _ _ s
  refine wpAny_noted ?_
  rw [compTurn_two1]
  refine wpAny_bind (wpAny_standAt (wpAny_bind (wpAny_mono (turn n s hI _) (fun r s₁ h₁ => ?_) fun _ _ h' => h')))
  cases r with
  | none => exact wpAny_pure h₁
  | some v =>
    refine wpAny_bind (wpAny_of_eq (ht v) ?_)
    refine wpAny_bind (wpAny_mono h₁ (fun _ s₂ h₂ => wpAny_bind (wpAny_mono h₂ (fun ok s₃ h₃ => ?_) fun _ _ h' => h')) fun _ _ h' => h')
    cases ok with
    | false => exact wpAny_pure ⟨rfl, h₃⟩
    | true =>
      exact wpAny_bind (wpAny_bind (wpAny_mono h₃ (fun x s₄ h₄ => wpAny_bind (wpAny_mono h₄ (fun _ s₅ h₅ => wpAny_pure (wpAny_pure ⟨rfl, h₅⟩)) fun _ _ h' => h')) fun _ _ h' => h'))
theorem compStart_two1 {elt t1 i1 t2 i2 ifs scope pos it acc env}
    (h0 : codeAny (model prog w) A (.compLoop (.ListComp elt [⟨t1, i1, [], 0⟩, ⟨t2, i2, ifs, 0⟩] scope pos) 1 it acc env) R s)
    (h : ∀ E', wpAny (model prog w) A (pyIter it) (fun it' s' => codeAny (model prog w) A (.compLoop (.ListComp elt [⟨t1, i1, [], 0⟩, ⟨t2, i2, ifs, 0⟩] scope pos) 1 it' acc env) R s') E' s) :
    codeAny (model prog w) A (.compStart (.ListComp elt [⟨t1, i1, [], 0⟩, ⟨t2, i2, ifs, 0⟩] scope pos) 1 it acc env) R s := by
  refine codeAny_of_tree ?_
  show wpAny _ _ ((compStart (.ListComp elt [⟨t1, i1, [], 0⟩, ⟨t2, i2, ifs, 0⟩] scope pos) 1 it acc env).onRaise (fun x => do noteFrame x env; standAt theWindowsPlace)) _ _ s
  refine wpAny_notedAt ?_
  unfold compStart
  show wpAny _ _ (ask >>= _) _ _ s
  refine wpAny_bind (wpAny_askSetting (wpAny_ite ?_))
  split
  · first
      | exact wpAny_bind (wpAny_pure (wpAny_pure (And.intro rfl h0)))
      | exact wpAny_pure (And.intro rfl h0)
  · first
      | exact wpAny_bind (wpAny_rule (wpAny_bind (wpAny_standAt (wpAny_bind (wpAny_mono (h _) (fun it' s' h' => wpAny_pure (And.intro rfl h')) fun _ _ x => x)))))
      | (refine wpAny_bind (wpAny_rule ?_); show wpAny _ _ (standAt i2.pos >>= _) _ _ s; exact wpAny_bind (wpAny_standAt (wpAny_bind (wpAny_mono (h _) (fun it' s' h' => wpAny_pure (And.intro rfl h')) fun _ _ x => x))))
end
end
section
structure Ap (h₀ : Heap) (L C D : Addr) (news : List (Addr × Obj)) : Prop where
  c0 : h₀.get? C = none
  d0 : h₀.get? D = none
  cL : C ≠ L
  dL : D ≠ L
  cD : C ≠ D
  off : ∀ p ∈ news, p.1 ≠ C ∧ p.1 ≠ D
structure Cs (h₀ : Heap) (L : Addr) (m : Str → Option Value) (C D : Addr) (news : List (Addr × Obj)) (m' : Str → Option Value) (ys : List Value) (h : Heap) : Prop where
  F : Fr h₀ L h m
  n : h.Ns C m'
  N : News h₀ L h ((D, LCg.lst ys) :: news)
section
variable {h₀ h h' : Heap} {L C D : Addr} {m m' m'' : Str → Option Value} {news own : List (Addr × Obj)} {ys : List Value}
/-- an address that is no object of ours -/
def Odd (h₀ : Heap) (L C D : Addr) (news : List (Addr × Obj)) (b : Addr) : Prop := h₀.get? b = none ∧ b ≠ L ∧ b ≠ C ∧ b ≠ D ∧ ∀ p ∈ news, p.1 ≠ b
theorem Cs.move (x : Cs h₀ L m C D news m' ys h) (wr : List Addr) (hk : ∀ b o, b ∉ wr → h.get? b = some o → h'.get? b = some o) (hw : ∀ b ∈ wr, Odd h₀ L C D news b) : Cs h₀ L m C D news m' ys h' := by
  refine ⟨⟨x.F.ns.at' fun o e => hk L o (fun q => (hw _ q).2.1 rfl) e, fun b o e => hk b o (fun q => by rw [(hw _ q).1] at e; cases e) (x.F.keep b o e), x.F.above⟩, x.n.at' fun o e => hk C o (fun q => (hw _ q).2.2.1 rfl) e, fun p hp => ⟨hk _ _ (fun q => ?_) (x.N p hp).1, (x.N p hp).2⟩⟩
  rcases List.mem_cons.mp hp with rfl | hp
  · exact (hw _ q).2.2.2.1 rfl
  · exact (hw _ q).2.2.2.2 p hp rfl
theorem Cs.store (a : Ap h₀ L C D news) (x : Cs h₀ L m C D news m' ys h) (hs : Heap.SameBut C h h') (hn : h'.Ns C m'') : Cs h₀ L m C D news m'' ys h' :=
  ⟨x.F.change hs a.cL a.c0, hn, fun p hp => ⟨hs.extBut _ _ (by
    rcases List.mem_cons.mp hp with rfl | hp
    · exact Ne.symm a.cD
    · exact (a.off p hp).1) (x.N p hp).1, (x.N p hp).2⟩⟩
theorem Cs.app (a : Ap h₀ L C D news) (x : Cs h₀ L m C D news m' ys h) {y : Value} (hs : Heap.SameBut D h h') (hD : h'.get? D = some { cls := .type "list", data := .seq (ys.toArray.push y) (ys.length + 1) }) : Cs h₀ L m C D news m' (ys ++ [y]) h' :=
  ⟨x.F.change hs a.dL a.d0, x.n.sameBut hs a.cD, fun p hp => by
    rcases List.mem_cons.mp hp with rfl | hp
    · exact ⟨hD.trans (congrArg some (LCg.lst_snoc ys y)), a.dL, a.d0⟩
    · exact ⟨hs.extBut _ _ (a.off p hp).2 (x.N p (.tail _ hp)).1, (x.N p (.tail _ hp)).2⟩⟩

def TestEnd (h₀ : Heap) (L : Addr) (m : Str → Option Value) (s₁ : Shared) (keep : List (Addr × Obj)) (b : Bool) (ok : Bool) (s₂ : Shared) : Prop :=
  ∃ h' tk all, s₂ = { s₁ with heap := h', toks := tk } ∧ Fr h₀ L h' m ∧ News h₀ L h' all ∧ (∀ p ∈ keep, p ∈ all) ∧ ok = b
theorem TestEnd.intro {s₁ : Shared} {keep all : List (Addr × Obj)} {b ok : Bool} {tk : Nat} (F : Fr h₀ L h' m) (N : News h₀ L h' all) (hs : ∀ p ∈ keep, p ∈ all) (e : ok = b) : TestEnd h₀ L m s₁ keep b ok { s₁ with heap := h', toks := tk } :=
  ⟨h', tk, all, rfl, F, N, hs, e⟩
end
section
variable {prog : Program} {w : World} {A : Around} {E : Value → Shared → Prop} {s : Shared} {h₀ : Heap} {L : Addr} {m : Str → Option Value} {env : Env}
theorem block_pre {e : Expr} {it : Value} {scope : Scope} {cl : List (Str × Addr)} {s₂ : Shared} {news : List (Addr × Obj)} {RR : Value → Addr → Result → Shared → Prop}
    (hcell : ∀ y ∈ scope.names, y.2 ≠ .cell) (hkind : scope.kind = .function) (F : Fr h₀ L s₂.heap m) (N : News h₀ L s₂.heap news)
    (h : ∀ C D h₁ tk, Ap h₀ L C D news → Cs h₀ L m C D news (fun _ => none) [] h₁ → (∀ b o, s₂.heap.get? b = some o → h₁.get? b = some o ∧ b ≠ C ∧ b ≠ D) →
      codeAny (model prog w) A (.compStart e 0 it (.ref D) (compEnvC scope cl C env)) (RR (.ref D) C) { s₂ with heap := h₁, toks := tk }) :
    wpAny (model prog w) A (newList []) (fun acc s₃ => wpAny (model prog w) A (newFunctionEnv scope env.globals cl [] env.qual none .none (some env)) (fun cenv s₄ =>
      codeAny (model prog w) A (.compStart e 0 it acc { cenv with scope := relabel scope env }) (RR acc cenv.locals) s₄) E s₃) E s₂ := by
  refine wpAny_newObj_type (wpAny_newFunctionEnv hcell (by intro y hy; simp at hy) (fun h₁ hns₁ hsb₁ => ?_) hkind)
  dsimp only at hns₁ hsb₁ ⊢
  generalize hH2 : s₂.heap.push { cls := .type "list", dict := none, data := .seq ([] : List Value).toArray } = H2 at hns₁ hsb₁ ⊢
  have hC : H2.objs.size = s₂.heap.objs.size + 1 := by rw [← hH2, Heap.size_push]
  have hDC : s₂.heap.objs.size ≠ H2.objs.size := by rw [hC]; exact Nat.ne_of_lt (Nat.lt_succ_self _)
  have below : ∀ b, b < s₂.heap.objs.size → b ≠ H2.objs.size ∧ b ≠ s₂.heap.objs.size := fun b hb => ⟨by rw [hC]; exact Nat.ne_of_lt (Nat.lt_succ_of_lt hb), Nat.ne_of_lt hb⟩
  have old : ∀ b o, s₂.heap.get? b = some o → h₁.get? b = some o := fun b o e => hsb₁.extBut b o (below b (Heap.lt_size e)).1 (Heap.get?_push_of_some _ (hH2 ▸ Heap.get?_push_of_some _ e))
  have hacc : h₁.get? s₂.heap.objs.size = some (LCg.lst []) := hsb₁.extBut _ _ hDC (Heap.get?_push_of_some _ (hH2 ▸ Heap.get?_push_size _ rfl))
  have fresh : ∀ a, s₂.heap.objs.size ≤ a → s₂.heap.get? a = none := fun a ha => by
    cases e : s₂.heap.get? a with
    | none => rfl
    | some o' => exact absurd (Heap.lt_size e) (Nat.not_lt.mpr ha)
  have fresh₀ : ∀ a, s₂.heap.objs.size ≤ a → h₀.get? a = none := fun a ha => by
    cases e : h₀.get? a with
    | none => rfl
    | some o' => have := F.keep a o' e; rw [fresh a ha] at this; cases this
  have hD₀ : h₀.get? s₂.heap.objs.size = none := fresh₀ _ (Nat.le_refl _)
  have hC₀ : h₀.get? H2.objs.size = none := fresh₀ _ (by rw [hC]; exact Nat.le_succ _)
  have hLlt : L < s₂.heap.objs.size := F.ns.lt
  refine h _ _ h₁ _ ⟨hC₀, hD₀, Ne.symm (below L hLlt).1, Ne.symm (below L hLlt).2, Ne.symm hDC, fun p hp => below _ (Heap.lt_size (N p hp).1)⟩ ⟨F.keeps old, hns₁, fun p hp => ?_⟩ fun b o e => ⟨old b o e, below b (Heap.lt_size e)⟩
  rcases List.mem_cons.mp hp with rfl | hp
  · exact ⟨hacc, Ne.symm (below L hLlt).2, hD₀⟩
  · exact ⟨old _ _ (N p hp).1, (N p hp).2⟩

/-- the inner loop of two -/
theorem inner_two {pe px py : Pos} {x y : Str} {iter : Expr} {ifs : List Expr} {scope : Scope} {cl : List (Str × Addr)} {pos pp : Pos} {C D : Addr} {news : List (Addr × Obj)} {R : Result → Shared → Prop}
    {I b : Addr} {oI : Obj} {its : List Value} {bs : Value → Bool} {ys0 : List Value} {h₁ : Heap} {tk₁ : Nat} {m1 : Str → Option Value} (hh : A.handled = none) (ap : Ap h₀ L C D news)
    (hkind : scope.kind = .function) (hy : scope.names.lookup y = some .local) (hyd : (y == ("__debug__" : Str)) = false)
    (hI : Odd h₀ L C D news I) (hbI : b ≠ I) (hb : (h₀.get? b = some (tupO its.toArray)) ∨ (b, tupO its.toArray) ∈ news) (hz : ys0.length + its.length ≤ sizeLine)
    (cs : Cs h₀ L m C D news m1 ys0 h₁) (heI : h₁.get? I = some oI)
    (turn : ∀ v h tk oC m₂ ys own E', v ∈ its → LCg.NsObj oC m₂ → m₂ y = some v → Fr h₀ L h m → News h₀ L h ((C, oC) :: (D, LCg.lst ys) :: (news ++ own)) →
      wpAny (model prog w) A (forIn ifs true fun c r => if r = true then do let ok ← isTrue c (compEnvC scope cl C env) (eval c (compEnvC scope cl C env)); pure (ForInStep.yield ok) else pure (ForInStep.yield r))
        (TestEnd h₀ L m { s with heap := h, toks := tk } ((C, oC) :: (D, LCg.lst ys) :: (news ++ own)) (bs v)) E' { s with heap := h, toks := tk })
    (done : ∀ h' tk m', Cs h₀ L m C D news m' (ys0 ++ its.filter bs) h' → h'.get? I = some oI → R (.ok .next) { s with heap := h', toks := tk }) :
    wpAny (model prog w) A (pyIter (.ref b)) (fun it' s₄ => codeAny (model prog w) A (.compStart (.ListComp (.Name y pe) [⟨.Name x px, iter, [], 0⟩, ⟨.Name y py, .Name x pp, ifs, 0⟩] scope pos) 1 it' (.ref D) (compEnvC scope cl C env)) R s₄) E { s with heap := h₁, toks := tk₁ } := by
  have hbt : h₁.get? b = some (tupO its.toArray) := hb.elim (fun e => cs.F.keep _ _ e) fun hm => (cs.N _ (.tail _ hm)).1
  have hbC : b ≠ C := by rintro rfl; rcases hb with e | hm; · rw [ap.c0] at e; cases e
                         · exact (ap.off _ hm).1 rfl
  have hbD : b ≠ D := by rintro rfl; rcases hb with e | hm; · rw [ap.d0] at e; cases e
                         · exact (ap.off _ hm).2 rfl
  have ht : h₁.IsTuple b its.toArray := ⟨_, hbt, rfl, _, rfl⟩
  refine wpAny_pyIter_tuple ht ?_
  have hJ : ∀ c, (h₁.get? c).isSome = true → c ≠ h₁.objs.size := fun c hc => by
    obtain ⟨o, e⟩ := Option.isSome_iff_exists.mp hc
    exact Nat.ne_of_lt (Heap.lt_size e)
  have hJn : h₁.get? h₁.objs.size = none := Heap.get?_none_of_le (Nat.le_refl _)
  have hLs : L ≠ h₁.objs.size := Nat.ne_of_lt cs.F.ns.lt
  have hCs : C ≠ h₁.objs.size := Nat.ne_of_lt cs.n.lt
  have hDs : D ≠ h₁.objs.size := Nat.ne_of_lt (Heap.lt_size (cs.N _ (.head _)).1)
  have hIs : I ≠ h₁.objs.size := Nat.ne_of_lt (Heap.lt_size heI)
  have hbs : b ≠ h₁.objs.size := Nat.ne_of_lt (Heap.lt_size hbt)
  have hJ0 : h₀.get? h₁.objs.size = none := by
    cases q : h₀.get? h₁.objs.size with
    | none => rfl
    | some o => have := cs.F.keep _ _ q; rw [hJn] at this; cases this
  have hJo : Odd h₀ L C D news h₁.objs.size := ⟨hJ0, Ne.symm hLs, Ne.symm hCs, Ne.symm hDs, fun p hp => Nat.ne_of_lt (Heap.lt_size (cs.N p (.tail _ hp)).1)⟩
  have W := Walks.tuple (prog := prog) (w := w) hh h₁.objs.size b hbs its.toArray
  have up : ∀ c o, h₁.get? c = some o → (h₁.push { cls := .type "tuple_iterator", data := .fields #[.ref b, .int 0 0] }).get? c = some o := fun c o e => Heap.get?_push_of_some _ e
  have st0 : (h₁.push { cls := .type "tuple_iterator", data := .fields #[.ref b, .int 0 0] }).IsTupleIter h₁.objs.size b 0 ∧ (h₁.push { cls := .type "tuple_iterator", data := .fields #[.ref b, .int 0 0] }).IsTuple b its.toArray :=
    ⟨⟨_, Heap.get?_push_size _ rfl, rfl, rfl⟩, ht.push _⟩
  have cs0 := cs.move [] (h' := h₁.push { cls := .type "tuple_iterator", data := .fields #[.ref b, .int 0 0] }) (fun c o _ e => up c o e) (by simp)
  generalize hJe : h₁.objs.size = J at *
  have loop : ∀ hst tkst, hst.IsTupleIter J b 0 ∧ hst.IsTuple b its.toArray → Cs h₀ L m C D news m1 ys0 hst → hst.get? I = some oI →
      codeAny (model prog w) A (.compLoop (.ListComp (.Name y pe) [⟨.Name x px, iter, [], 0⟩, ⟨.Name y py, .Name x pp, ifs, 0⟩] scope pos) 1 (.ref J) (.ref D) (compEnvC scope cl C env)) R { s with heap := hst, toks := tkst } := by
    intro hst tkst st0 cs0 hI0
    refine compLoop_two1 (fun k s' => ∃ h' tk i m', s' = { s with heap := h', toks := tk } ∧ i ≤ its.length ∧ k = its.length + 1 - i ∧ (h'.IsTupleIter J b i ∧ h'.IsTuple b its.toArray) ∧ Cs h₀ L m C D news m' (ys0 ++ (its.take i).filter bs) h' ∧ h'.get? I = some oI) ?_ (its.length + 1)
      ⟨_, _, 0, m1, rfl, Nat.zero_le _, rfl, st0, by simpa using cs0, hI0⟩
    rintro k s' ⟨h', tk, i, m', rfl, hi, rfl, hst', cs', hI'⟩ E'
    by_cases hlt : i < its.length
    · refine W.item i _ _ _ (by rw [List.size_toArray]; exact hlt) hst' fun v h₂ tk₂ hPv hst₂ hk₂ => ?_
      have hv : its[i]? = some v := by simpa using hPv
      have cs₂ := cs'.move [J] hk₂ (by intro c hc; rw [List.mem_singleton.mp hc]; exact hJo)
      have hI₂ : h₂.get? I = some oI := hk₂ _ _ (by simpa using hIs) hI'
      refine wpAny_assign_Name (wpAny_storeName_local (lookup_relabel_local hy) cs₂.n (fun h₃ hn₃ hs₃ => ?_) (by simp [compEnvC, relabel, hkind]))
      have cs₃ := cs₂.store ap hs₃ hn₃
      have hI₃ : h₃.get? I = some oI := hs₃.extBut _ _ hI.2.2.1 hI₂
      have hst₃ : h₃.IsTupleIter J b (i + 1) ∧ h₃.IsTuple b its.toArray := W.frame _ _ _ hst₂ fun c hc o e => hs₃.extBut c o (by
        rcases List.mem_cons.mp hc with rfl | hc
        · exact Ne.symm hCs
        · rw [List.mem_singleton.mp hc]; exact hbC) e
      obtain ⟨oJ, heJ⟩ : ∃ o, h₃.get? J = some o := by obtain ⟨o, e, _⟩ := hst₃.1; exact ⟨o, e⟩
      obtain ⟨oC, heC, hoC⟩ := LCg.ns_obj hn₃
      have N₃ : News h₀ L h₃ ((C, oC) :: (D, LCg.lst (ys0 ++ (its.take i).filter bs)) :: (news ++ [(I, oI), (J, oJ)])) := fun p hp => by
        rcases List.mem_cons.mp hp with rfl | hp
        · exact ⟨heC, ap.cL, ap.c0⟩
        · rw [← List.cons_append] at hp
          rcases List.mem_append.mp hp with hp | hp
          · exact cs₃.N p hp
          · rcases List.mem_cons.mp hp with rfl | hp
            · exact ⟨hI₃, hI.2.1, hI.1⟩
            · rw [List.mem_singleton.mp hp]; exact ⟨heJ, hJo.2.1, hJo.1⟩
      refine wpAny_mono (turn v h₃ _ oC _ _ [(I, oI), (J, oJ)] _ (List.mem_of_getElem? hv) hoC (by simp) cs₃.F N₃) (fun ok s₄ h₄ => ?_) fun _ _ e => e
      obtain ⟨h₄, tk₄, all, rfl, F₄, N₄, sub, rfl⟩ := h₄
      have cs₄ : Cs h₀ L m C D news _ (ys0 ++ (its.take i).filter bs) h₄ := ⟨F₄, hoC.ns (N₄ _ (sub _ (.head _))).1, fun p hp => by
        refine N₄ p (sub _ (.tail _ ?_))
        rw [← List.cons_append]
        exact List.mem_append_left _ hp⟩
      have hI₄ : h₄.get? I = some oI := (N₄ _ (sub (I, oI) (by simp))).1
      have hJ₄ : h₄.get? J = some oJ := (N₄ _ (sub (J, oJ) (by simp))).1
      have hb₄ : h₄.get? b = some (tupO its.toArray) := hb.elim (fun e => cs₄.F.keep _ _ e) fun hm => (cs₄.N _ (.tail _ hm)).1
      have hst₄ : h₄.IsTupleIter J b (i + 1) ∧ h₄.IsTuple b its.toArray := ⟨by obtain ⟨o, e, r⟩ := hst₃.1; rw [heJ] at e; cases e; exact ⟨_, hJ₄, r⟩, ⟨_, hb₄, rfl, _, rfl⟩⟩
      have htake : (its.take (i + 1)).filter bs = (its.take i).filter bs ++ (if bs v then [v] else []) := take_succ_filter bs its i v hv
      cases hbv : bs v with
      | false =>
        simp only [Bool.false_eq_true, if_false]
        refine ⟨its.length + 1 - (i + 1), by omega, h₄, tk₄, i + 1, (fun z => if z = y then some v else m' z), rfl, hlt, rfl, hst₄, ?_, hI₄⟩
        rw [htake, hbv]
        simpa using cs₄
      | true =>
        simp only [if_true]
        refine ldVarK (env := env) cs₄.n (v := v) (by simp) ?_ (by simp [compEnvC, relabel, hkind]) (lookup_relabel_local hy) hyd
        have hsz : (ys0 ++ (its.take i).filter bs).toArray.size ≤ sizeLine := by
          rw [List.size_toArray, List.length_append]
          have := List.length_filter_le bs (its.take i)
          rw [List.length_take] at this
          omega
        refine append_at (hsz := hsz) (cs₄.N _ (.head _)).1 fun h₅ hs₅ hD₅ => ?_
        refine ⟨its.length + 1 - (i + 1), by omega, h₅, tk₄, i + 1, (fun z => if z = y then some v else m' z), rfl, hlt, rfl, W.frame _ _ _ hst₄ fun c hc o e => hs₅.extBut c o (by
          rcases List.mem_cons.mp hc with rfl | hc
          · exact Ne.symm hDs
          · rw [List.mem_singleton.mp hc]; exact hbD) e, ?_, hs₅.extBut _ _ hI.2.2.2.1 hI₄⟩
        rw [htake, hbv, if_pos rfl, ← List.append_assoc]
        exact cs₄.app ap hs₅ hD₅
    · obtain rfl : i = its.length := Nat.le_antisymm hi (Nat.not_lt.mp hlt)
      refine W.done _ _ _ (by rw [List.size_toArray]; exact hst') fun h₂ tk₂ hk₂ => ?_
      rw [List.take_length] at cs'
      exact done h₂ tk₂ m' (cs'.move [J] hk₂ (by intro c hc; rw [List.mem_singleton.mp hc]; exact hJo)) (hk₂ _ _ (by simpa using hIs) hI')
  exact compStart_two1 (loop _ _ st0 cs0 (up _ _ heI)) fun E' => W.self 0 _ _ _ st0 (loop _ _ st0 cs0 (up _ _ heI))
end
end
section
section
variable {prog : Program} {w : World} {A : Around} {E : Value → Shared → Prop} {s : Shared} {h₀ : Heap} {L : Addr} {m : Str → Option Value} {env : Env}
theorem flat_take {fs : List (List Value)} {i : Nat} {l : List Value} (h : fs[i]? = some l) : (fs.take (i + 1)).flatten = (fs.take i).flatten ++ l := by
  rw [List.take_add_one, h, List.flatten_append]; simp
theorem flat_len (fs : List (List Value)) (i : Nat) : (fs.take i).flatten.length ≤ fs.flatten.length := by
  have h := congrArg (fun l => (List.flatten l).length) (List.take_append_drop i fs)
  simp only [List.flatten_append, List.length_append] at h
  omega
theorem block_two {pe px py : Pos} {x y : Str} {iter : Expr} {ifs : List Expr} {scope : Scope} {cl : List (Str × Addr)} {pos pp : Pos} {news : List (Addr × Obj)} {s₂ : Shared} {RR : Value → Addr → Result → Shared → Prop}
    {I ax : Addr} {vs : List Value} {fs : List (List Value)} {bs : Value → Bool} (hh : A.handled = none)
    (hcell : ∀ y ∈ scope.names, y.2 ≠ .cell) (hkind : scope.kind = .function) (hx : scope.names.lookup x = some .local) (hy : scope.names.lookup y = some .local) (hxd : (x == ("__debug__" : Str)) = false) (hyd : (y == ("__debug__" : Str)) = false)
    (F : Fr h₀ L s₂.heap m) (N : News h₀ L s₂.heap news)
    (hI0 : h₀.get? I = none) (hIL : I ≠ L) (hIn : ∀ p ∈ news, p.1 ≠ I) (hIx : ax ≠ I) (hst0 : s₂.heap.IsTupleIter I ax 0) (hax : TupAt h₀ ax vs.toArray news)
    (rel : ∀ (i : Nat) v, vs[i]? = some v → ∃ b l, v = .ref b ∧ fs[i]? = some l ∧ TupAt h₀ b l.toArray news) (hfl : fs.length = vs.length) (hz : fs.flatten.length ≤ 1000)
    (turn : ∀ v h tk C D oC m₂ ys own E', v ∈ fs.flatten → LCg.NsObj oC m₂ → m₂ y = some v → Fr h₀ L h m → News h₀ L h ((C, oC) :: (D, LCg.lst ys) :: (news ++ own)) →
      wpAny (model prog w) A (forIn ifs true fun c r => if r = true then do let ok ← isTrue c (compEnvC scope cl C env) (eval c (compEnvC scope cl C env)); pure (ForInStep.yield ok) else pure (ForInStep.yield r))
        (TestEnd h₀ L m { s₂ with heap := h, toks := tk } ((C, oC) :: (D, LCg.lst ys) :: (news ++ own)) (bs v)) E' { s₂ with heap := h, toks := tk })
    (hRR : ∀ D C h tk m', Ap h₀ L C D news → Cs h₀ L m C D news m' (fs.flatten.filter bs) h → RR (.ref D) C (.ok .next) { s₂ with heap := h, toks := tk }) :
    wpAny (model prog w) A (newList []) (fun acc s₃ => wpAny (model prog w) A (newFunctionEnv scope env.globals cl [] env.qual none .none (some env)) (fun cenv s₄ =>
      codeAny (model prog w) A (.compStart (.ListComp (.Name y pe) [⟨.Name x px, iter, [], 0⟩, ⟨.Name y py, .Name x pp, ifs, 0⟩] scope pos) 0 (.ref I) acc { cenv with scope := relabel scope env }) (RR acc cenv.locals) s₄) E s₃) E s₂ := by
  have hst0' := hst0
  obtain ⟨o0, e0, _⟩ := hst0'
  refine block_pre hcell hkind F N fun C D h₁ tk ap cs old => ?_
  have oI := old _ _ e0
  have hI : Odd h₀ L C D news I := ⟨hI0, hIL, oI.2.1, oI.2.2, hIn⟩
  have hxt : s₂.heap.get? ax = some (tupO vs.toArray) := hax.get F.keep N
  have hxo := old _ _ hxt
  have st0 : h₁.IsTupleIter I ax 0 ∧ h₁.IsTuple ax vs.toArray := ⟨hst0.at fun o e => (old I o e).1, ⟨_, hxo.1, rfl, _, rfl⟩⟩
  have W := Walks.tuple (prog := prog) (w := w) hh I ax hIx vs.toArray
  have loop : codeAny (model prog w) A (.compLoop (.ListComp (.Name y pe) [⟨.Name x px, iter, [], 0⟩, ⟨.Name y py, .Name x pp, ifs, 0⟩] scope pos) 0 (.ref I) (.ref D) (compEnvC scope cl C env)) (RR (.ref D) C) { s₂ with heap := h₁, toks := tk } := by
    refine compLoop_two0 (fun k s' => ∃ h' tk i m', s' = { s₂ with heap := h', toks := tk } ∧ i ≤ vs.length ∧ k = vs.length + 1 - i ∧ (h'.IsTupleIter I ax i ∧ h'.IsTuple ax vs.toArray) ∧ Cs h₀ L m C D news m' ((fs.take i).flatten.filter bs) h') ?_ (vs.length + 1)
      ⟨_, _, 0, _, rfl, Nat.zero_le _, rfl, st0, by simpa using cs⟩
    rintro k s' ⟨h', tk, i, m', rfl, hi, rfl, hst', cs'⟩ E'
    by_cases hlt : i < vs.length
    · refine W.item i _ _ _ (by rw [List.size_toArray]; exact hlt) hst' fun v h₂ tk₂ hPv hst₂ hk₂ => ?_
      have hv : vs[i]? = some v := by simpa using hPv
      have cs₂ := cs'.move [I] hk₂ (by intro c hc; rw [List.mem_singleton.mp hc]; exact hI)
      refine wpAny_assign_Name (wpAny_storeName_local (lookup_relabel_local hx) cs₂.n (fun h₃ hn₃ hs₃ => ?_) (by simp [compEnvC, relabel, hkind]))
      have cs₃ := cs₂.store ap hs₃ hn₃
      have hst₃ : h₃.IsTupleIter I ax (i + 1) ∧ h₃.IsTuple ax vs.toArray := W.frame _ _ _ hst₂ fun c hc o e => hs₃.extBut c o (by
        rcases List.mem_cons.mp hc with rfl | hc
        · exact oI.2.1
        · rw [List.mem_singleton.mp hc]; exact hxo.2.1) e
      obtain ⟨oIo, heI, rI⟩ := hst₃.1
      refine ldVarK (env := env) cs₃.n (v := v) (by simp) ?_ (by simp [compEnvC, relabel, hkind]) (lookup_relabel_local hx) hxd
      obtain ⟨b, l, rfl, hl, hb⟩ := rel i v hv
      have hft := flat_take hl
      have hbI : b ≠ I := by
        rcases hb with e | hm
        · rintro rfl; rw [hI0] at e; cases e
        · exact hIn _ hm
      have hlen : ((fs.take i).flatten.filter bs).length + l.length ≤ 1000 := by
        have h1 := List.length_filter_le bs (fs.take i).flatten
        have h2 := flat_len fs (i + 1)
        rw [hft, List.length_append] at h2
        omega
      refine inner_two (s := s₂) (its := l) (bs := bs) hh ap hkind hy hyd hI hbI hb (by rw [sizeLine_eq]; omega) cs₃ heI ?_ ?_
      · intro v h tk oC m₂ ys own E' hm
        exact turn v h tk C D oC m₂ ys own E' (List.mem_flatten.mpr ⟨l, List.mem_of_getElem? hl, hm⟩)
      · intro h₄ tk₄ m₄ cs₄ hI₄
        refine ⟨rfl, vs.length + 1 - (i + 1), by omega, h₄, tk₄, i + 1, m₄, rfl, hlt, rfl, ⟨⟨_, hI₄, rI⟩, ⟨_, hax.get cs₄.F.keep fun p hp => cs₄.N p (.tail _ hp), rfl, _, rfl⟩⟩, ?_⟩
        · rw [hft, List.filter_append]; exact cs₄
    · obtain rfl : i = vs.length := Nat.le_antisymm hi (Nat.not_lt.mp hlt)
      refine W.done _ _ _ (by rw [List.size_toArray]; exact hst') fun h₂ tk₂ hk₂ => ?_
      rw [← hfl, List.take_length] at cs'
      exact hRR D C h₂ tk₂ m' ap (cs'.move [I] hk₂ (by intro c hc; rw [List.mem_singleton.mp hc]; exact hI))
  exact codeAny_compStart_list loop (W.self 0 _ _ _ st0 loop)

def SrcTwo (prog : Program) (w : World) (A : Around) (h₀ : Heap) (L : Addr) (m : Str → Option Value) (env : Env) (ifs : List Expr) (y : Str) (scope : Scope) (cl : List (Str × Addr)) (Fin : Shared → List Value → List (Addr × Obj) → Prop) (xv : Value) (s₁ : Shared) : Prop :=
  ∃ (ax : Addr) (vs : List Value) (fs : List (List Value)) (bs : Value → Bool) (news : List (Addr × Obj)), xv = .ref ax ∧ A.handled = none ∧ Fr h₀ L s₁.heap m ∧ News h₀ L s₁.heap news ∧ TupAt h₀ ax (List.toArray vs) news ∧
    (∀ (i : Nat) v, vs[i]? = some v → ∃ b l, v = .ref b ∧ fs[i]? = some l ∧ TupAt h₀ b (List.toArray l) news) ∧ fs.length = vs.length ∧ fs.flatten.length ≤ 1000 ∧
    (∀ v h tk C D oC m₂ ys own E', v ∈ fs.flatten → LCg.NsObj oC m₂ → m₂ y = some v → Fr h₀ L h m → News h₀ L h ((C, oC) :: (D, LCg.lst ys) :: (news ++ own)) →
      wpAny (model prog w) A (forIn ifs true fun c r => if r = true then do let ok ← isTrue c (compEnvC scope cl C env) (eval c (compEnvC scope cl C env)); pure (ForInStep.yield ok) else pure (ForInStep.yield r))
        (TestEnd h₀ L m { s₁ with heap := h, toks := tk } ((C, oC) :: (D, LCg.lst ys) :: (news ++ own)) (bs v)) E' { s₁ with heap := h, toks := tk }) ∧
    ∀ g, Fin { s₁ with heap := g } (fs.flatten.filter bs) news

theorem ListComp_two {pe px py : Pos} {x y : Str} {iter : Expr} {ifs : List Expr} {scope : Scope} {cl : List (Str × Addr)} {pos pp : Pos} {Q : Value → Shared → Prop} (_F₀ : Fr h₀ L s.heap m)
    (hclos : closureFor scope env = pure cl) (hcell : ∀ y ∈ scope.names, y.2 ≠ .cell) (hkind : scope.kind = .function)
    (hnames : ∀ y ∈ scope.names, y.2 = .local → scope.names.lookup y.1 = some .local) (hx : scope.names.lookup x = some .local) (hy : scope.names.lookup y = some .local) (hxd : (x == ("__debug__" : Str)) = false) (hyd : (y == ("__debug__" : Str)) = false)
    (h : wpAny (model prog w) A (eval iter env) (SrcTwo prog w A h₀ L m env ifs y scope cl (fun s₂ => LCg.FinE h₀ L m s₂ Q)) E s)
    (hs : ∀ x, foldedSetIterable iter env x = pure x := by intro _; rfl) :
    wpAny (model prog w) A (eval (.ListComp (.Name y pe) [⟨.Name x px, iter, [], 0⟩, ⟨.Name y py, .Name x pp, ifs, 0⟩] scope pos) env) Q E s := by
  rw [eval_ListComp]
  refine wpAny_comprehension_free (use := none) rfl hs hclos hkind hnames (wpAny_mono h (fun xv s₁ h₁ => ?_) fun _ _ e => e)
  obtain ⟨ax, vs, fs, bs, news, rfl, hh, F, N, hax, rel, hfl, hz, turn, fin⟩ := h₁
  have hg := hax.get F.keep N
  have hl : s₁.heap.IsTuple ax vs.toArray := ⟨_, hg, rfl, _, rfl⟩
  refine wpAny_pyIter_tuple hl ?_
  have up : ∀ b o, s₁.heap.get? b = some o → (s₁.heap.push { cls := .type "tuple_iterator", data := .fields #[.ref ax, .int 0 0] }).get? b = some o := fun b o e => Heap.get?_push_of_some _ e
  refine block_two hh hcell hkind hx hy hxd hyd (F.keeps up) (N.grown up) (next_is_new F) (Ne.symm (Nat.ne_of_lt F.ns.lt)) (fun p hp => Nat.ne_of_lt (Heap.lt_size (N p hp).1)) (Nat.ne_of_lt (Heap.lt_size hg)) ⟨_, Heap.get?_push_size _ rfl, rfl, rfl⟩ hax rel hfl hz turn ?_
  intro D C h' tk m' ap cs
  refine ⟨m', cs.n, fun h'' hs'' => fin s₁.heap D h'' tk (cs.F.change hs'' ap.cL ap.c0) (fun p hp => ?_) ?_⟩
  · refine ⟨hs''.extBut _ _ ?_ (cs.N p hp).1, (cs.N p hp).2⟩
    rcases List.mem_cons.mp hp with rfl | hp
    · exact Ne.symm ap.cD
    · exact (ap.off p hp).1
  · exact (LCg.Off3.of (I := C) (C := C) fun p hp => ⟨(ap.off p hp).1, (ap.off p hp).1, (ap.off p hp).2⟩).one

theorem Assign_ListComp_two {pe px py pz : Pos} {x y z : Str} {iter : Expr} {ifs : List Expr} {scope : Scope} {cl : List (Str × Addr)} {pos pp spos : Pos} {Q : Flow → Shared → Prop} (_F₀ : Fr h₀ L s.heap m) (hLe : env.locals = L)
    (hsw : swapsWith (.ListComp (.Name y pe) [⟨.Name x px, iter, [], 0⟩, ⟨.Name y py, .Name x pp, ifs, 0⟩] scope pos) (some (.Name z pz)) spos.line env = pure true)
    (hclos : closureFor scope env = pure cl) (hcell : ∀ y ∈ scope.names, y.2 ≠ .cell) (hkind : scope.kind = .function)
    (hnames : ∀ y ∈ scope.names, y.2 = .local → scope.names.lookup y.1 = some .local) (hx : scope.names.lookup x = some .local) (hy : scope.names.lookup y = some .local) (hxd : (x == ("__debug__" : Str)) = false) (hyd : (y == ("__debug__" : Str)) = false)
    (hz : env.kindOf z = some .local) (hp : (env.scope.kind == .class || (env.scope.kind == .module && env.locals != env.globals)) = false)
    (h : wpAny (model prog w) A (eval iter env) (SrcTwo prog w A h₀ L m env ifs y scope cl (fun s₂ => LCg.FinA h₀ L m s₂ z Q)) E s)
    (hs : ∀ x, foldedSetIterable iter env x = pure x := by intro _; rfl) :
    wpAny (model prog w) A (exec (.Assign [.Name z pz] (.ListComp (.Name y pe) [⟨.Name x px, iter, [], 0⟩, ⟨.Name y py, .Name x pp, ifs, 0⟩] scope pos) spos) env) Q E s := by
  subst hLe
  rw [exec_Assign_Name_used _ _ _ _ hsw]
  refine wpAny_bind (wpAny_standAt (wpAny_bind ?_))
  show wpAny _ A (do let _ ← comprehension (.ListComp (.Name y pe) [⟨.Name x px, iter, [], 0⟩, ⟨.Name y py, .Name x pp, ifs, 0⟩] scope pos) scope env _ (newList []) false (eval iter env) (some (assign (.Name z pz) env))) _ _ s
  refine wpAny_bind (wpAny_mono (wpAny_comprehension_free (use := some (assign (.Name z pz) env)) (Q := fun _ s' => Q .next s') rfl hs hclos hkind hnames
    (wpAny_mono h (fun xv s₁ h₁ => ?_) fun _ _ e => e)) (fun _ s' hq => wpAny_pure (wpAny_pure hq)) fun _ _ e => e)
  obtain ⟨ax, vs, fs, bs, news, rfl, hh, F, N, hax, rel, hfl, hz', turn, fin⟩ := h₁
  have hg := hax.get F.keep N
  have hl : s₁.heap.IsTuple ax vs.toArray := ⟨_, hg, rfl, _, rfl⟩
  refine wpAny_pyIter_tuple hl ?_
  have up : ∀ b o, s₁.heap.get? b = some o → (s₁.heap.push { cls := .type "tuple_iterator", data := .fields #[.ref ax, .int 0 0] }).get? b = some o := fun b o e => Heap.get?_push_of_some _ e
  refine block_two hh hcell hkind hx hy hxd hyd (F.keeps up) (N.grown up) (next_is_new F) (Ne.symm (Nat.ne_of_lt F.ns.lt)) (fun p hp => Nat.ne_of_lt (Heap.lt_size (N p hp).1)) (Nat.ne_of_lt (Heap.lt_size hg)) ⟨_, Heap.get?_push_size _ rfl, rfl, rfl⟩ hax rel hfl hz' turn ?_
  intro D C h' tk m' ap cs
  show wpAny _ A (assign (.Name z pz) env (.ref D)) _ _ _
  refine wpAny_assign_Name (wpAny_storeName_local hz cs.F.ns (fun h₂ hn₂ hs₂ => ?_) hp)
  have hL₀ : h₀.get? env.locals = none := Heap.get?_none_of_le cs.F.above
  have F₂ : Fr h₀ env.locals h₂ (fun a => if a = z then some (.ref D) else m a) := ⟨hn₂, fun b o e => hs₂.extBut b o (fun q => by rw [q, hL₀] at e; cases e) (cs.F.keep b o e), cs.F.above⟩
  refine ⟨m', cs.n.sameBut hs₂ ap.cL, fun h'' hs'' => fin s₁.heap D h'' _ (F₂.change hs'' ap.cL ap.c0) (fun p hp => ?_) ?_⟩
  · have z : h₂.get? p.1 = some p.2 := hs₂.extBut _ _ (cs.N p hp).2.1 (cs.N p hp).1
    refine ⟨hs''.extBut _ _ ?_ z, (cs.N p hp).2⟩
    rcases List.mem_cons.mp hp with rfl | hp
    · exact Ne.symm ap.cD
    · exact (ap.off p hp).1
  · exact (LCg.Off3.of (I := C) (C := C) fun p hp => ⟨(ap.off p hp).1, (ap.off p hp).1, (ap.off p hp).2⟩).one

/-! enumerate, with one test -/
theorem block_enum {pe pa pb tp : Pos} {kk : Nat} {a b : Str} {iter ct : Expr} {scope : Scope} {cl : List (Str × Addr)} {pos : Pos} {news : List (Addr × Obj)} {s₂ : Shared} {RR : Value → Addr → Result → Shared → Prop}
    {e it ax : Addr} {its : Array Value} {bs : Nat → Bool} (hh : A.handled = none)
    (hcell : ∀ y ∈ scope.names, y.2 ≠ .cell) (hkind : scope.kind = .function) (hxa : scope.names.lookup a = some .local) (hxb : scope.names.lookup b = some .local) (hab : ¬ a = b) (hbd : (b == ("__debug__" : Str)) = false)
    (F : Fr h₀ L s₂.heap m) (N : News h₀ L s₂.heap news)
    (he0 : h₀.get? e = none) (heL : e ≠ L) (hen : ∀ p ∈ news, p.1 ≠ e) (hi0 : h₀.get? it = none) (hiL : it ≠ L) (hin : ∀ p ∈ news, p.1 ≠ it) (hei : e ≠ it) (hle : ax ≠ e) (hli : ax ≠ it)
    {old : Value} (hE : IsEnum s₂.heap e it 0 old) (hit : s₂.heap.IsListIter it ax 0) (hax : LCg.SrcAt h₀ ax its news) (hz : its.size ≤ 1000)
    (turn : ∀ (i : Nat) v t h tk C D oC m₂ ys own E', its[i]? = some v → LCg.NsObj oC m₂ → m₂ a = some (.int (i : Int) t) → m₂ b = some v → Fr h₀ L h m → News h₀ L h ((C, oC) :: (D, LCg.lst ys) :: (news ++ own)) →
      wpAny (model prog w) A (isTrue ct (compEnvC scope cl C env) (eval ct (compEnvC scope cl C env)))
        (TestEnd h₀ L m { s₂ with heap := h, toks := tk } ((C, oC) :: (D, LCg.lst ys) :: (news ++ own)) (bs i)) E' { s₂ with heap := h, toks := tk })
    (hRR : ∀ D C h tk m', Ap h₀ L C D news → Cs h₀ L m C D news m' (((List.range its.size).filter bs).map fun j => its.getD j .none) h → RR (.ref D) C (.ok .next) { s₂ with heap := h, toks := tk }) :
    wpAny (model prog w) A (newList []) (fun acc s₃ => wpAny (model prog w) A (newFunctionEnv scope env.globals cl [] env.qual none .none (some env)) (fun cenv s₄ =>
      codeAny (model prog w) A (.compStart (.ListComp (.Name b pe) [⟨.Tuple [.Name a pa, .Name b pb] kk tp, iter, [ct], 0⟩] scope pos) 0 (.ref e) acc { cenv with scope := relabel scope env }) (RR acc cenv.locals) s₄) E s₃) E s₂ := by
  refine block_pre hcell hkind F N fun C D h₁ tk ap cs oldk => ?_
  have oE := oldk _ _ hE
  have oI : it ≠ C ∧ it ≠ D := by obtain ⟨o, q, _⟩ := hit; exact (oldk _ _ q).2
  have hl₂ : s₂.heap.IsList ax its := hax.list F.keep N
  have oA : ax ≠ C ∧ ax ≠ D := by obtain ⟨o, q, _⟩ := hl₂; exact (oldk _ _ q).2
  have ode : Odd h₀ L C D news e := ⟨he0, heL, oE.2.1, oE.2.2, hen⟩
  have odi : Odd h₀ L C D news it := ⟨hi0, hiL, oI.1, oI.2, hin⟩
  have W := (WalksT.enumerate (prog := prog) (w := w) hh e it ax hei hle hli its).toU
  have st0 : (∃ old, IsEnum h₁ e it 0 old) ∧ h₁.IsListIter it ax 0 ∧ h₁.IsList ax its := ⟨⟨_, oE.1⟩, hit.at fun o q => (oldk _ o q).1, hl₂.at fun o q => (oldk _ o q).1⟩
  have odds : ∀ c ∈ [e, it], Odd h₀ L C D news c := fun c hc => by
    rcases List.mem_cons.mp hc with rfl | hc
    · exact ode
    · rw [List.mem_singleton.mp hc]; exact odi
  have offC : ∀ c ∈ [e, it, ax], c ≠ C ∧ c ≠ D := fun c hc => by
    rcases List.mem_cons.mp hc with rfl | hc
    · exact ⟨oE.2.1, oE.2.2⟩
    · rcases List.mem_cons.mp hc with rfl | hc
      · exact oI
      · rw [List.mem_singleton.mp hc]; exact oA
  have loop : codeAny (model prog w) A (.compLoop (.ListComp (.Name b pe) [⟨.Tuple [.Name a pa, .Name b pb] kk tp, iter, [ct], 0⟩] scope pos) 0 (.ref e) (.ref D) (compEnvC scope cl C env)) (RR (.ref D) C) { s₂ with heap := h₁, toks := tk } := by
    refine kct_loop (fun k s' => ∃ h' tk i m', s' = { s₂ with heap := h', toks := tk } ∧ i ≤ its.size ∧ k = its.size + 1 - i ∧ ((∃ old, IsEnum h' e it i old) ∧ h'.IsListIter it ax i ∧ h'.IsList ax its) ∧ Cs h₀ L m C D news m' (((List.range i).filter bs).map fun j => its.getD j .none) h') ?_ (its.size + 1)
      ⟨_, _, 0, _, rfl, Nat.zero_le _, rfl, st0, by simpa using cs⟩
    rintro k s' ⟨h', tk, i, m', rfl, hi, rfl, hst', cs'⟩
    by_cases hlt : i < its.size
    · refine W.item i _ _ _ hlt hst' fun T vals h₂ tk₂ hP hT hMd hk₂ => ?_
      obtain ⟨t, v, hv, rfl⟩ := hP
      refine W.go _ _ _ i T _ _ _ hMd fun h₃ hst₃ hk₃ => ?_
      have hT₃ : h₃.IsTuple T #[.int (i : Int) t, v] := hT.at fun o q => hk₃ T o (W.apart i T _ hMd) q
      have cs₂ := cs'.move [e, it] hk₂ odds
      have cs₃ := cs₂.move [e, it] hk₃ odds
      refine kcp_assign (env := compEnvC scope cl C env) hh hT₃ (lookup_relabel_local hxa) (lookup_relabel_local hxb) (by simp [compEnvC, relabel, hkind]) cs₃.n fun h₄ tk₄ hn₄ hs₄ => ?_
      have cs₄ : Cs h₀ L m C D news _ (((List.range i).filter bs).map fun j => its.getD j .none) h₄ :=
        ⟨⟨cs₃.F.ns.at' fun o q => hs₄ L o (Ne.symm ap.cL) q, fun c o q => hs₄ c o (fun r => by have r' : c = C := r; rw [r', ap.c0] at q; cases q) (cs₃.F.keep c o q), cs₃.F.above⟩, hn₄, fun p hp => ⟨hs₄ _ _ (by
          rcases List.mem_cons.mp hp with rfl | hp
          · exact Ne.symm ap.cD
          · exact (ap.off p hp).1) (cs₃.N p hp).1, (cs₃.N p hp).2⟩⟩
      have hst₄ : (∃ old, IsEnum h₄ e it ((i + 1 : Nat) : Int) old) ∧ h₄.IsListIter it ax (i + 1) ∧ h₄.IsList ax its := W.frame (i + 1) _ _ hst₃ fun c hc o q => hs₄ c o (offC c hc).1 q
      obtain ⟨old4, hE4⟩ := hst₄.1
      have hE4' : ∃ o, h₄.get? e = some o ∧ ∀ g : Heap, g.get? e = some o → IsEnum g e it ((i + 1 : Nat) : Int) old4 := ⟨_, hE4, fun g q => q⟩
      obtain ⟨oe, hoe, hoe'⟩ := hE4'
      obtain ⟨oi, hoi, roi⟩ := hst₄.2.1
      obtain ⟨oC, heC, hoC⟩ := LCg.ns_obj hn₄
      have N₄ : News h₀ L h₄ ((C, oC) :: (D, LCg.lst (((List.range i).filter bs).map fun j => its.getD j .none)) :: (news ++ [(e, oe), (it, oi)])) := fun p hp => by
        rcases List.mem_cons.mp hp with rfl | hp
        · exact ⟨heC, ap.cL, ap.c0⟩
        · rw [← List.cons_append] at hp
          rcases List.mem_append.mp hp with hp | hp
          · exact cs₄.N p hp
          · rcases List.mem_cons.mp hp with rfl | hp
            · exact ⟨hoe, heL, he0⟩
            · rw [List.mem_singleton.mp hp]; exact ⟨hoi, hiL, hi0⟩
      refine wpAny_mono (turn i v t h₄ _ C D oC _ _ [(e, oe), (it, oi)] _ hv hoC (by simp [hab]) (by simp) cs₄.F N₄) (fun ok s₅ h₅ => ?_) fun _ _ q => q
      obtain ⟨h₅, tk₅, all, rfl, F₅, N₅, sub, rfl⟩ := h₅
      have cs₅ : Cs h₀ L m C D news _ (((List.range i).filter bs).map fun j => its.getD j .none) h₅ := ⟨F₅, hoC.ns (N₅ _ (sub _ (.head _))).1, fun p hp => by
        refine N₅ p (sub _ (.tail _ ?_))
        rw [← List.cons_append]
        exact List.mem_append_left _ hp⟩
      have hst₅ : (∃ old, IsEnum h₅ e it ((i + 1 : Nat) : Int) old) ∧ h₅.IsListIter it ax (i + 1) ∧ h₅.IsList ax its :=
        ⟨⟨_, hoe' _ (N₅ _ (sub (e, oe) (by simp))).1⟩, ⟨_, (N₅ _ (sub (it, oi) (by simp))).1, roi⟩, hax.list cs₅.F.keep fun p hp => cs₅.N p (.tail _ hp)⟩
      have hgv : its.getD i .none = v := by rw [Array.getD_eq_getD_getElem?, hv]; rfl
      cases hbv : bs i with
      | false =>
        simp only [Bool.false_eq_true, if_false]
        refine ⟨its.size + 1 - (i + 1), by omega, h₅, tk₅, i + 1, (fun z => if z = b then some v else if z = a then some (.int (i : Int) t) else m' z), rfl, hlt, rfl, hst₅, ?_⟩
        rw [List.range_succ, List.filter_append]
        simpa [hbv] using cs₅
      | true =>
        simp only [if_true]
        refine ldVarK (env := env) cs₅.n (v := v) (by simp) ?_ (by simp [compEnvC, relabel, hkind]) (lookup_relabel_local hxb) hbd
        have hsz : (((List.range i).filter bs).map fun j => its.getD j .none).toArray.size ≤ sizeLine := by
          rw [List.size_toArray, List.length_map]
          have := List.length_filter_le bs (List.range i)
          rw [List.length_range] at this
          rw [sizeLine_eq]
          omega
        refine append_at (hsz := hsz) (cs₅.N _ (.head _)).1 fun h₆ hs₆ hD₆ => ?_
        refine ⟨its.size + 1 - (i + 1), by omega, h₆, tk₅, i + 1, (fun z => if z = b then some v else if z = a then some (.int (i : Int) t) else m' z), rfl, hlt, rfl, W.frame (i + 1) _ _ hst₅ fun c hc o q => hs₆.extBut c o (offC c hc).2 q, ?_⟩
        have q := cs₅.app ap hs₆ hD₆
        have hfi : [i].filter bs = [i] := by simp [hbv]
        rw [List.range_succ, List.filter_append, List.map_append, hfi, List.map_singleton, hgv]
        exact q
    · obtain rfl : i = its.size := Nat.le_antisymm hi (Nat.not_lt.mp hlt)
      refine W.done _ _ _ hst' fun h₂ tk₂ hk₂ => ?_
      exact hRR D C h₂ tk₂ m' ap (cs'.move [e, it] hk₂ odds)
  exact codeAny_compStart_list loop (W.self 0 _ _ _ st0 loop)

def SrcEnum (prog : Program) (w : World) (A : Around) (h₀ : Heap) (L : Addr) (m : Str → Option Value) (env : Env) (ct : Expr) (a b : Str) (scope : Scope) (cl : List (Str × Addr)) (Fin : Shared → List Value → List (Addr × Obj) → Prop) (xv : Value) (s₁ : Shared) : Prop :=
  ∃ (e it ax : Addr) (its : Array Value) (bs : Nat → Bool) (old : Value) (news : List (Addr × Obj)), xv = .ref e ∧ A.handled = none ∧ Fr h₀ L s₁.heap m ∧ News h₀ L s₁.heap news ∧
    (h₀.get? e = none ∧ e ≠ L ∧ (∀ p ∈ news, p.1 ≠ e) ∧ h₀.get? it = none ∧ it ≠ L ∧ (∀ p ∈ news, p.1 ≠ it) ∧ e ≠ it ∧ ax ≠ e ∧ ax ≠ it) ∧
    IsEnum s₁.heap e it 0 old ∧ s₁.heap.IsListIter it ax 0 ∧ LCg.SrcAt h₀ ax its news ∧ its.size ≤ 1000 ∧
    (∀ (i : Nat) v t h tk C D oC m₂ ys own E', its[i]? = some v → LCg.NsObj oC m₂ → m₂ a = some (.int (i : Int) t) → m₂ b = some v → Fr h₀ L h m → News h₀ L h ((C, oC) :: (D, LCg.lst ys) :: (news ++ own)) →
      wpAny (model prog w) A (isTrue ct (compEnvC scope cl C env) (eval ct (compEnvC scope cl C env)))
        (TestEnd h₀ L m { s₁ with heap := h, toks := tk } ((C, oC) :: (D, LCg.lst ys) :: (news ++ own)) (bs i)) E' { s₁ with heap := h, toks := tk }) ∧
    Fin s₁ (((List.range its.size).filter bs).map fun j => its.getD j .none) news
theorem SrcEnum.intro {ct : Expr} {a b : Str} {scope : Scope} {cl : List (Str × Addr)} {Fin : Shared → List Value → List (Addr × Obj) → Prop} {ax : Addr} {its : Array Value} {news : List (Addr × Obj)} {E : Value → Shared → Prop}
    (bs : Nat → Bool) (hh : A.handled = none) (F : Fr h₀ L s.heap m) (N : News h₀ L s.heap news) (hax : LCg.SrcAt h₀ ax its news) (hz : its.size ≤ 1000)
    (turn : ∀ (i : Nat) v t h tk C D oC m₂ ys own E', its[i]? = some v → LCg.NsObj oC m₂ → m₂ a = some (.int (i : Int) t) → m₂ b = some v → Fr h₀ L h m → News h₀ L h ((C, oC) :: (D, LCg.lst ys) :: (news ++ own)) →
      wpAny (model prog w) A (isTrue ct (compEnvC scope cl C env) (eval ct (compEnvC scope cl C env)))
        (TestEnd h₀ L m { s with heap := h, toks := tk } ((C, oC) :: (D, LCg.lst ys) :: (news ++ own)) (bs i)) E' { s with heap := h, toks := tk })
    (fin : ∀ g, Fin { s with heap := g } (((List.range its.size).filter bs).map fun j => its.getD j .none) news) :
    wpAny (model prog w) A (call (.type "enumerate") [.ref ax]) (SrcEnum prog w A h₀ L m env ct a b scope cl Fin) E s := by
  have hl := hax.list F.keep N
  have hlt : ax < s.heap.objs.size := by obtain ⟨o, q, _⟩ := hl; exact Heap.lt_size q
  refine call_enumerate_list hl fun h' hE hI hsz hk => ?_
  have nw : ∀ c, s.heap.objs.size ≤ c → h₀.get? c = none ∧ c ≠ L ∧ (∀ p ∈ news, p.1 ≠ c) ∧ ax ≠ c := fun c hc => ⟨by
    cases q : h₀.get? c with
    | none => rfl
    | some o => exact absurd (Heap.lt_size (F.keep _ _ q)) (Nat.not_lt.mpr hc), fun q => absurd F.ns.lt (Nat.not_lt.mpr (q ▸ hc)), fun p hp q => absurd (Heap.lt_size (N p hp).1) (Nat.not_lt.mpr (q ▸ hc)), fun q => absurd hlt (Nat.not_lt.mpr (q ▸ hc))⟩
  have n1 := nw (s.heap.objs.size + 1) (Nat.le_succ _)
  have n2 := nw s.heap.objs.size (Nat.le_refl _)
  exact ⟨_, _, ax, its, bs, _, news, rfl, hh, F.keeps hk, N.grown hk, ⟨n1.1, n1.2.1, n1.2.2.1, n2.1, n2.2.1, n2.2.2.1, Nat.succ_ne_self _, n1.2.2.2, n2.2.2.2⟩, hE, hI, hax, hz, turn, fin h'⟩
theorem ListComp_enum {pe pa pb tp : Pos} {kk : Nat} {a b : Str} {iter ct : Expr} {scope : Scope} {cl : List (Str × Addr)} {pos : Pos} {Q : Value → Shared → Prop} (_F₀ : Fr h₀ L s.heap m)
    (hclos : closureFor scope env = pure cl) (hcell : ∀ y ∈ scope.names, y.2 ≠ .cell) (hkind : scope.kind = .function)
    (hnames : ∀ y ∈ scope.names, y.2 = .local → scope.names.lookup y.1 = some .local) (hxa : scope.names.lookup a = some .local) (hxb : scope.names.lookup b = some .local) (hab : ¬ a = b) (hbd : (b == ("__debug__" : Str)) = false)
    (h : wpAny (model prog w) A (eval iter env) (SrcEnum prog w A h₀ L m env ct a b scope cl (fun s₂ => LCg.FinE h₀ L m s₂ Q)) E s)
    (hs : ∀ x, foldedSetIterable iter env x = pure x := by intro _; rfl) :
    wpAny (model prog w) A (eval (.ListComp (.Name b pe) [⟨.Tuple [.Name a pa, .Name b pb] kk tp, iter, [ct], 0⟩] scope pos) env) Q E s := by
  rw [eval_ListComp]
  refine wpAny_comprehension_free (use := none) rfl hs hclos hkind hnames (wpAny_mono h (fun xv s₁ h₁ => ?_) fun _ _ e => e)
  obtain ⟨e, it, ax, its, bs, old, news, rfl, hh, F, N, ⟨a1, a2, a3, a4, a5, a6, a7, a8, a9⟩, hE, hI, hax, hz, turn, fin⟩ := h₁
  refine wpAny_pyIter_enum hE ?_
  refine block_enum hh hcell hkind hxa hxb hab hbd F N a1 a2 a3 a4 a5 a6 a7 a8 a9 hE hI hax hz turn ?_
  intro D C h' tk m' ap cs
  refine ⟨m', cs.n, fun h'' hs'' => fin D h'' tk (cs.F.change hs'' ap.cL ap.c0) (fun p hp => ?_) ?_⟩
  · refine ⟨hs''.extBut _ _ ?_ (cs.N p hp).1, (cs.N p hp).2⟩
    rcases List.mem_cons.mp hp with rfl | hp
    · exact Ne.symm ap.cD
    · exact (ap.off p hp).1
  · exact (LCg.Off3.of (I := C) (C := C) fun p hp => ⟨(ap.off p hp).1, (ap.off p hp).1, (ap.off p hp).2⟩).one
end
end
section

def endsL (ps : List (Int × Int)) : List Int := ps.flatMap fun p => [p.1, p.2]
theorem pairs_lists {R : Addr → Obj → Prop} : ∀ {vs : List Value} {ps : List (Int × Int)}, vs.length = ps.length → (∀ (i : Nat) v, vs[i]? = some v → ∃ p, ps[i]? = some p ∧ ∃ b u1 u2, v = .ref b ∧ R b (tupO #[.int p.1 u1, .int p.2 u2])) →
    ∃ fs : List (List Value), (∀ (i : Nat) v, vs[i]? = some v → ∃ b l, v = .ref b ∧ fs[i]? = some l ∧ R b (tupO (List.toArray l))) ∧ fs.length = vs.length ∧ IntsAre fs.flatten (endsL ps) := by
  intro vs
  induction vs with
  | nil =>
    intro ps hl h
    cases ps with
    | nil => exact ⟨[], fun i v e => by simp at e, rfl, .nil⟩
    | cons => simp at hl
  | cons v vs ih =>
    intro ps hl h
    cases ps with
    | nil => simp at hl
    | cons p ps =>
      obtain ⟨fs, h1, h2, h3⟩ := ih (ps := ps) (by simpa using hl) fun i v' e => by
        have := h (i + 1) v' (by simpa using e)
        simpa using this
      obtain ⟨q, hq, b, u1, u2, rfl, hb⟩ := h 0 v rfl
      simp at hq
      subst hq
      refine ⟨[.int p.1 u1, .int p.2 u2] :: fs, fun i v' e => ?_, by simp [h2], ?_⟩
      · cases i with
        | zero => simp at e; subst e; exact ⟨b, _, rfl, rfl, hb⟩
        | succ i => simp at e; simpa using h1 i v' e
      · exact .cons _ _ (.cons _ _ h3)
def hasB (count e : Int) : Bool := decide (e > count ∨ (e = 0 ∧ count = 0))
def valB (p : Int → Bool) : Value → Bool | .int n _ => p n | _ => false
theorem ints_filter {p : Int → Bool} : ∀ {xs : List Value} {ns : List Int}, IntsAre xs ns → IntsAre (xs.filter (valB p)) (ns.filter p)
  | _, _, .nil => .nil
  | _, _, .cons n t r => by
    have ih := ints_filter (p := p) r
    rw [List.filter_cons, List.filter_cons]
    show IntsAre (if p n = true then _ else _) (if p n = true then _ else _)
    by_cases h : p n = true
    · rw [if_pos h, if_pos h]; exact .cons n t ih
    · rw [if_neg h, if_neg h]; exact ih
theorem endsL_len (ps : List (Int × Int)) : (endsL ps).length = 2 * ps.length := by
  induction ps with
  | nil => rfl
  | cons p ps ih => unfold endsL at ih ⊢; rw [List.flatMap_cons, List.length_append, ih]; simp; omega
theorem ints_mem : ∀ {xs : List Value} {ns : List Int} {v : Value}, IntsAre xs ns → v ∈ xs → ∃ n t, v = .int n t ∧ n ∈ ns
  | _, _, _, .cons n t r, h => by
    rcases List.mem_cons.mp h with rfl | h
    · exact ⟨n, t, rfl, .head _⟩
    · obtain ⟨n', t', e, hm⟩ := ints_mem r h
      exact ⟨n', t', e, .tail _ hm⟩
def HasPost (ps : List (Int × Int)) (count : Int) (h h' : Heap) (v : Value) : Prop := v = .bool (decide ((endsL ps).filter (hasB count) = []))
theorem has_con (w : World) (mean : ExcName → Option Value) (mg mb : Str → Option Value) (k : Nat → Tok) (view dv box ul fd md sm : Addr) (xs vs : List Value) (ns : List Int) (ps : List (Int × Int)) (c0 : Nat) :
    Con w mean mg mb 10 (.ref 79) [.ref view, .ref sm] [] (fun h => ViewAt w k h view dv box ul fd md xs c0 ∧ xs.length ≤ 90 ∧ h.get? sm = some (tupO vs.toArray) ∧ PairsH h vs ps ∧ ps.length ≤ 3) (HasPost ps xs.length) := by
  walk_at "MY_CENTER"
  intro dp un gd cn cs L a ccd cl outer base h0 g h₁ L' tk cells s B F X N Y lN T hd hu hpre hk hw
  k_cells Y
  (try simp only [List.cons_append, List.nil_append] at N)
  (try dsimp only)
  obtain ⟨hv0, hlen, hsm0, hps0, hplen⟩ := hpre
  obtain ⟨hv1, hv2, hul⟩ := hv0.keeps hk
  have hsm : g.get? sm = some (tupO vs.toArray) := hk _ _ (by simp) hsm0
  have hps := hps0.keeps hk
  have hul2 : g.IsList ul xs.toArray := PySem.IsL.isList hul
  obtain ⟨fs, hf1, hf2, hf3⟩ := pairs_lists (R := fun b o => g.get? b = some o) hps.length fun i v e => hps.get e
  have hfl := hf3.length
  rw [endsL_len] at hfl
  k_steps
  unfold Stop
  rename News _ _ _ _ => N2
  rename Fr _ _ _ _ => F2
  rename Obj => oc
  refine ListComp_two F2 (by with_unfolding_all rfl) (by decide) (by rfl) (by decide) (by rfl) (by rfl) (by decide) (by decide) ?_
  k_steps
  refine ⟨sm, vs, fs, valB (hasB xs.length), _, rfl, rfl, by k_asm, N2, .inl hsm, fun i v e => by obtain ⟨b, l, e1, e2, e3⟩ := hf1 i v e; exact ⟨b, l, e1, e2, .inl e3⟩, hf2, by omega, ?_, ?_⟩
  · intro v h3 tk3 C D oC m2 ys own E' hv hNs hx F3 N3
    obtain ⟨n2, t2, rfl, hn2⟩ := ints_mem hf3 hv
    refine wpAny_tests_one ?_
    k_steps
    all_goals (refine TestEnd.intro F3 N3 (fun _ h => h) ?_)
    all_goals (show _ = decide (n2 > (xs.length : Int) ∨ (n2 = 0 ∧ (xs.length : Int) = 0)))
    all_goals (first | exact (decide_eq_true (by omega)).symm | exact (decide_eq_false (by omega)).symm)
  · intro gg D h4 tk4 F4 N4 o4
    k_steps
    rename News _ _ _ _ => N5
    refine ke_eq_ints (xs := fs.flatten.filter (valB (hasB xs.length))) (ys := []) (PySem.IsL.isList (N5 _ (.tail _ (.head _))).1) (PySem.IsL.isList (N5 _ (.head _)).1) (ints_filter hf3) .nil (by ktr_units) ?_
    exact Done.intro (by assumption) rfl
end
section
theorem entry_dict_update_loop : entryFor table "dict.update.loop" = some Builtin.«dict.update.loop» := entryFor_of_tree (by kernel_rfl)
theorem plain_dict_update_loop : plainId "dict.update.loop" = true := by decide +kernel
theorem miss_list_keys : typeLookup (.type "list") "keys" = pure none := am_miss_of_fast (by kernel_rfl)
section
variable {prog : Program} {w : World} {A : Around} {E : Value → Shared → Prop} {s : Shared} {h₀ : Heap} {L : Addr} {m : Str → Option Value}
theorem getAttr?_keys_list {a : Addr} {o : Obj} {xs : Array Value} {k : Nat} {Q : Option Value → Shared → Prop}
    (hx : s.heap.get? a = some o) (hc : o.cls = .type "list") (hdat : o.data = .seq xs k) (hd : o.dict = none) (hA : A.handled = none)
    (h : ∀ h' tk, (∀ b o, s.heap.get? b = some o → h'.get? b = some o) → Q none { s with heap := h', toks := tk }) :
    wpAny (model prog w) A (getAttr? (.ref a) "keys") Q E s := by
  obtain ⟨c, dct, dat, sl⟩ := o
  simp only at hc hdat hd
  subst hc hdat hd
  obtain ⟨hp, g, d, tk, os⟩ := s
  have hT : ∀ tk', (⟨hp, g, d, tk', os⟩ : Shared).TypeIs (.ref a) "list" := fun _ => ⟨_, hx, rfl⟩
  have hname : (["__module__", "__name__", "__qualname__", "__doc__", "__annotations__"] : List Str).contains (Str.ofString "keys") = false := by decide
  have f1 := sub_AttributeError
  have f3 := F.slot_list_getattribute.lookup
  have f4 := F.slot_list_getattribute.bind (.ref a)
  have f5 := am_list_getattr_none
  unfold getAttr? getAttrBy? getAttrBy
  repeat (any_goals (first | assumption | exact hT _ | ((with_reducible show wpAny _ _ (call (Value.builtin "list.__getattribute__") _ _) _ _ _); refine call_meets F.slot_list_getattribute (hT _) am_entry_list_getattribute (F.args_list_getattribute_2 _ _) (meets_getattribute_miss_list a xs k sl _ _ miss_list_keys hname (by decide)) ⟨hx, hA, fun h' tk' e hx' => ?_⟩) | wp_step))
  obtain ⟨t', u', he⟩ := hx'.there
  show wpAny _ _ (getattributeRaised _ _ _ _ _ _ _) _ _ _
  unfold getattributeRaised
  repeat (any_goals (first | assumption | wp_step))
  exact h _ _ hx'.keeps
end
end
section
theorem valueAt_isSome {K : Type} [DecidableEq K] {kvs : List (K × Value)} {k : K} : (valueAt kvs k).isSome = true ↔ k ∈ kvs.map (·.1) := by
  unfold valueAt
  rw [Option.isSome_map, List.find?_isSome, List.mem_map]
  constructor
  · rintro ⟨x, hx, e⟩; exact ⟨x, hx, by simpa using e⟩
  · rintro ⟨x, hx, e⟩; exact ⟨x, hx, by simpa using e⟩
theorem stored_keys {K : Type} [DecidableEq K] {kvs : List (K × Value)} {k : K} {v : Value} {k' : K} : k' ∈ (stored kvs k v).map (·.1) ↔ k' = k ∨ k' ∈ kvs.map (·.1) := by
  unfold stored
  by_cases h : kvs.any (fun kv => decide (kv.1 = k)) = true
  · rw [if_pos h, keys_map_store]
    constructor
    · exact .inr
    · rintro (rfl | h')
      · obtain ⟨x, hx, e⟩ := List.any_eq_true.mp h
        exact List.mem_map.mpr ⟨x, hx, by simpa using e⟩
      · exact h'
  · rw [if_neg h, List.map_append, List.mem_append]
    simp [or_comm]
section
variable {prog : Program} {w : World} {A : Around} {E : Value → Shared → Prop} {s : Shared} {h₀ : Heap} {L : Addr} {m : Str → Option Value}
theorem dict_update_loop {R : Result → Shared → Prop} {l D I : Addr} {vs : List Value} {ns : List Int} {hb : Heap} (hh : A.handled = none) (hlI : l ≠ I) (hlD : l ≠ D) (hDI : D ≠ I) (hD0 : hb.get? D = none) (hI0 : hb.get? I = none)
    (hes : ∀ (i : Nat) v, vs[i]? = some v → ∃ b t x, v = .ref b ∧ hb.get? b = some (tupO #[.int (ns.getD i 0) t, x])) (hz : vs.length ≤ 1000) :
    ∀ (k i : Nat) (tok : Tok) (s : Shared) (kvs : List (Int × Value)), vs.length - i = k → i ≤ vs.length → (s.heap.IsListIter I l i ∧ s.heap.IsList l vs.toArray) → s.heap.DictOf (intKind prog w) D kvs → kvs.length ≤ i → (∀ j, j < i → ns.getD j 0 ∈ kvs.map (·.1)) →
      (∀ b o, hb.get? b = some o → s.heap.get? b = some o) →
      (∀ h' tk kvs', h'.DictOf (intKind prog w) D kvs' → kvs'.length ≤ vs.length → (∀ j, j < vs.length → ns.getD j 0 ∈ kvs'.map (·.1)) → (∀ b o, hb.get? b = some o → h'.get? b = some o) → R (.ok (.ret .none)) { s with heap := h', toks := tk }) →
      codeAny (model prog w) A (.builtin "dict.update.loop" ⟨[.ref D, .ref I, .int (i : Int) tok, .none], []⟩) R s := by
  have W := Walks.list (prog := prog) (w := w) (A := A.in1) (by simp [hh]) I l hlI vs.toArray
  intro k
  induction k with
  | zero =>
    intro i tok s kvs hk hi hst hS hn hj hkeep hR
    have hin : i = vs.length := by omega
    subst hin
    refine codeAny_builtin entry_dict_update_loop ?_
    rw [Around.under_plainId plain_dict_update_loop _]
    show wpAny _ A.in1 (pyNext (.ref I) >>= _) _ _ s
    refine wpAny_bind (W.done s _ _ (by rw [List.size_toArray]; exact hst) fun h' tk hk' => ?_)
    show wpAny _ A.in1 (Builtin.Dict.addKeywords D [] >>= _) _ _ _
    refine wpAny_bind (wpAny_pure (wpAny_pure (hR h' tk kvs ?_ hn hj fun b o e => hk' b o ?_ (hkeep b o e))))
    · obtain ⟨o, es, ep, ho, rest⟩ := hS
      exact ⟨o, es, ep, hk' D o (by simpa using hDI) ho, rest⟩
    · simp only [List.mem_singleton]; rintro rfl; rw [hI0] at e; cases e
  | succ k ih =>
    intro i tok s kvs hk hi hst hS hn hj hkeep hR
    have hlt : i < vs.length := by omega
    refine codeAny_builtin entry_dict_update_loop ?_
    rw [Around.under_plainId plain_dict_update_loop _]
    show wpAny _ A.in1 (pyNext (.ref I) >>= _) _ _ s
    refine wpAny_bind (W.item i s _ _ (by rw [List.size_toArray]; exact hlt) hst fun v h' tk hP hst' hk' => ?_)
    have hv : vs[i]? = some v := by simpa using hP
    obtain ⟨b, t, x, rfl, hbo⟩ := hes i v hv
    have keep' : ∀ b o, hb.get? b = some o → h'.get? b = some o := fun c o e => hk' c o (by simp only [List.mem_singleton]; rintro rfl; rw [hI0] at e; cases e) (hkeep c o e)
    have hbt := keep' _ _ hbo
    have hS' : h'.DictOf (intKind prog w) D kvs := by
      obtain ⟨o, es, ep, ho, rest⟩ := hS
      exact ⟨o, es, ep, hk' D o (by simpa using hDI) ho, rest⟩
    have hT : Shared.TypeIs { s with heap := h', toks := tk } (.ref b) "tuple" := ⟨_, hbt, rfl⟩
    show wpAny _ A.in1 (holding [Value.ref b] ((Builtin.Dict.pairItems (.ref b)).tryCatch _ >>= _) >>= _) _ _ _
    refine wpAny_bind (wpAny_holding (wpAny_bind (wpAny_tryCatch ?_)))
    unfold Builtin.Dict.pairItems
    refine wpAny_bind (wpAny_typeOf hT ?_)
    rw [if_pos (by decide)]
    refine wpAny_bind (wpAny_seqItems hbt rfl (wpAny_pure ?_))
    show wpAny _ A.in1 (holding [Value.int (ns.getD i 0) t, x] (dictSet D (.int (ns.getD i 0) t) x)) _ _ _
    refine wpAny_holding (wpAny_dictSet_pairs (knd := intKind prog w) (hsz := by rw [sizeLine_eq]; omega) (intKind_is _ _ _ _) hS' fun h₂ hS₂ hs₂ => ?_)
    refine wpAny_pure ⟨plainId_quiet plain_dict_update_loop _, ?_⟩
    have e1 : ((i : Int) + 1) = ((i + 1 : Nat) : Int) := by omega
    show codeAny _ A (.builtin "dict.update.loop" ⟨[.ref D, .ref I, .int ((i : Int) + 1) 0, .none], []⟩) R _
    rw [e1]
    refine ih (i + 1) 0 _ (stored kvs (ns.getD i 0) x) (by omega) hlt (W.frame _ _ _ hst' fun c hc o e => hs₂.extBut c o ?_ e) hS₂ ?_ ?_ (fun c o e => hs₂.extBut c o (by rintro rfl; rw [hD0] at e; cases e) (keep' c o e)) ?_
    · rcases List.mem_cons.mp hc with rfl | hc
      · exact Ne.symm hDI
      · rw [List.mem_singleton.mp hc]; exact hlD
    · have := stored_length_le kvs (ns.getD i 0) x; omega
    · intro j hj'
      rw [stored_keys]
      rcases Nat.lt_or_eq_of_le (Nat.le_of_lt_succ hj') with h | rfl
      · exact .inr (hj j h)
      · exact .inl rfl
    · intro h3 tk3 kvs3 a1 a2 a3 a4
      exact hR h3 tk3 kvs3 a1 a2 a3 a4

theorem call_dict_list {l : Addr} {vs : List Value} {ns : List Int} {c : Nat} {Q : Value → Shared → Prop} (hh : A.handled = none) (hl : s.heap.get? l = some (listOf vs.toArray c))
    (hes : ∀ (i : Nat) v, vs[i]? = some v → ∃ b t x, v = .ref b ∧ s.heap.get? b = some (tupO #[.int (ns.getD i 0) t, x])) (hz : vs.length ≤ 1000)
    (h : ∀ h' tk kvs', h'.DictOf (intKind prog w) s.heap.objs.size kvs' → kvs'.length ≤ vs.length → (∀ j, j < vs.length → ns.getD j 0 ∈ kvs'.map (·.1)) → (∀ b o, s.heap.get? b = some o → h'.get? b = some o) → Q (.ref s.heap.objs.size) { s with heap := h', toks := tk }) :
    wpAny (model prog w) A (call (.type "dict") [.ref l]) Q E s := by
  refine callType_codes (Q₁ := fun obj s₁ => obj = .ref s.heap.objs.size ∧ s₁ = { s with heap := s.heap.push { cls := .type "dict", data := .dict #[] } }) F.kt_called_dict (F.kt_typeCall_dict_1 _) F.entry_dict_init (kt_code_dict_new _ ⟨rfl, rfl⟩) ?_
  rintro obj s₁ ⟨rfl, rfl⟩
  have hnew : (s.heap.push { cls := .type "dict", data := .dict #[] }).DictOf (intKind prog w) s.heap.objs.size [] := Heap.DictOf.new s.heap
  have hll : s.heap.IsList l vs.toArray := PySem.IsL.isList hl
  have hll' : (s.heap.push { cls := .type "dict", data := .dict #[] }).IsList l vs.toArray := hll.push _
  have hlg' : (s.heap.push { cls := .type "dict", data := .dict #[] }).get? l = some (listOf vs.toArray c) := Heap.get?_push_of_some _ hl
  refine ⟨hnew.typeIs, F.args_dict_init_2 _ _, ?_⟩
  unfold Builtin.«dict.__init__»
  refine wpAny_bind ?_
  unfold Builtin.Dict.selfAndRest
  refine wpAny_bind (wpAny_notOrdered_dict hnew.typeIs ?_)
  show wpAny _ _ (pure (s.heap.objs.size, [Value.ref l])) _ _ _
  refine wpAny_pure ?_
  show wpAny _ _ (Builtin.Dict.updateFrom "dict.__init__" s.heap.objs.size (.ref l) [] .none) _ _ _
  unfold Builtin.Dict.updateFrom
  refine wpAny_bind (wpAny_typeOf hll'.typeIs ?_)
  rw [if_pos (by decide)]
  refine wpAny_bind (getAttr?_keys_list hlg' rfl rfl rfl (by simp [hh]) fun h1 tk1 hk1 => ?_)
  have hl1 : h1.IsList l vs.toArray := ⟨_, hk1 _ _ hlg', rfl, _, rfl⟩
  have hD1 : h1.DictOf (intKind prog w) s.heap.objs.size [] := by
    obtain ⟨o, es, ep, ho, rest⟩ := hnew
    exact ⟨o, es, ep, hk1 _ _ ho, rest⟩
  have hlt : l < s.heap.objs.size := Heap.lt_size hl
  have hDlt : s.heap.objs.size < h1.objs.size := by obtain ⟨o, es, ep, ho, rest⟩ := hD1; exact Heap.lt_size ho
  simp only [Option.isNone_none, if_true]
  refine wpAny_bind (wpAny_rule (wpAny_bind (wpAny_pyIter_list hl1 ?_)))
  refine wpAny_pure ⟨plainId_quiet plain_dict_update_loop _, ?_⟩
  have up : ∀ b o, h1.get? b = some o → (h1.push { cls := .type "list_iterator", data := .fields #[.ref l, .int 0 0] }).get? b = some o := fun b o e => Heap.get?_push_of_some _ e
  have hI0 : s.heap.get? h1.objs.size = none := by
    cases q : s.heap.get? h1.objs.size with
    | none => rfl
    | some o => exact absurd (Nat.lt_trans (Heap.lt_size q) hDlt) (Nat.lt_irrefl _)
  refine dict_update_loop (R := _) (hb := s.heap) (vs := vs) (ns := ns) (l := l) (I := h1.objs.size) (D := s.heap.objs.size) (by simp [hh]) (Nat.ne_of_lt (Nat.lt_trans hlt hDlt)) (Nat.ne_of_lt hlt) (Nat.ne_of_lt hDlt) (Heap.get?_none_of_le (Nat.le_refl _)) hI0 hes hz (vs.length - 0) 0 0 _ [] rfl (Nat.zero_le _)
    ⟨⟨_, Heap.get?_push_size _ rfl, rfl, rfl⟩, hl1.push _⟩ (hD1.push _) (Nat.le_refl _) (fun j hj => absurd hj (Nat.not_lt_zero _)) (fun b o e => up _ _ (hk1 _ _ (Heap.get?_push_of_some _ e))) ?_
  intro h' tk kvs' a1 a2 a3 a4
  exact ⟨rfl, h h' tk kvs' a1 a2 a3 a4⟩

theorem dict_list_K {l : Addr} {vs : List Value} {ns : List Int} {c : Nat} {news : List (Addr × Obj)} {Q : Value → Shared → Prop} (hh : A.handled = none) (F : Fr h₀ L s.heap m) (N : News h₀ L s.heap news) (hbig : h₀.NoLimit) (hl : s.heap.get? l = some (listOf vs.toArray c))
    (hes : ∀ (i : Nat) v, vs[i]? = some v → ∃ b t x, v = .ref b ∧ s.heap.get? b = some (tupO #[.int (ns.getD i 0) t, x])) (hz : vs.length ≤ 1000)
    (h : ∀ d h' tk o kvs, Fr h₀ L h' m → News h₀ L h' ((d, o) :: news) → (∀ p ∈ news, p.1 < d) → (d == sysModules) = false → o.IsDictOf (intKind prog w) kvs → (∀ j, j < vs.length → ns.getD j 0 ∈ kvs.map (·.1)) → Q (.ref d) { s with heap := h', toks := tk }) :
    wpAny (model prog w) A (call (.type "dict") [.ref l]) Q E s := by
  refine call_dict_list hh hl hes hz fun h' tk kvs a1 a2 a3 a4 => ?_
  obtain ⟨o, ho, hd⟩ := Heap.dictOf_iff.mp a1
  exact h _ h' tk o kvs (F.keeps a4) (kp_add F (N.grown a4) (Heap.get?_none_of_le (Nat.le_refl _)) ho) (fun p hp => Heap.lt_size (N p hp).1) (F.notModules (modules_low hbig)) hd a3
end
end
section
theorem Con.use1 {w : World} {mean : ExcName → Option Value} {mg mb : Str → Option Value} {d : Nat} {f : Value} {args : List Value} {x : Addr} {o : Obj} {Pre : Heap → Prop} {Post : Heap → Heap → Value → Prop}
    (C : Con w mean mg mb d f args [(x, o)] Pre Post)
    {dp un : Nat} {gd : Option (List Code)} {cn : Str} {cs : Scope} {a : Addr} {ccd : Value} {cl : List (Str × Addr)} {outer : List Env} {A₀ : Around} {base h₀ : Heap} {L : Addr} {m : Str → Option Value} {s : Shared} {Q E : Value → Shared → Prop} {news : List (Addr × Obj)} {g : Obj → List (Addr × Obj)}
    (B : Below A₀ base outer h₀) (F : Fr h₀ L s.heap m) (X : (hd.heap_1 w.params).In h₀) (N : News h₀ L s.heap news)
    (T : Top viewQ (looseW viewQ [Str.ofString "PostError"]) mean mg mb h₀) (hk : cs.kind = .function) (hd : dp + d < recursionLimit) (hu : un + 8 * d < cLine) (U : UpdF x o news g) (hpre : Pre s.heap)
    (k : ∀ v h' tk', Kp [x] s.heap h' → Fr h₀ L h' m → (∀ o', h'.get? x = some o' → News h₀ L h' (g o')) → Post s.heap h' v → Q v { s with heap := h', toks := tk' }) :
    wpAny (model Challenge.rw_no0370_01.row.prog w) (ktrTop dp un gd cn cs L a ccd cl outer) (call f args) Q E s := by
  obtain ⟨pre, post, rfl, hg, h1, h2⟩ := U.split
  have hx := N (x, o) (List.mem_append_right _ (.head _))
  refine C dp un gd cn cs a ccd cl outer A₀ base h₀ L m s Q E B F X (fun p hp => by rw [List.mem_singleton.mp hp]; exact hx) T hk hd hu hpre fun v h' tk' hK hP =>
    k v h' tk' hK (kp_fr (wr := [x]) F (by simpa using ⟨hx.2.2, hx.2.1⟩) hK) (fun o' ho' => ?_) hP
  rw [hg]
  intro p hp
  rcases List.mem_append.mp hp with hp | hp
  · exact ⟨hK _ _ (by simpa using h1 p hp) (N p (List.mem_append_left _ hp)).1, (N p (List.mem_append_left _ hp)).2⟩
  · rcases List.mem_cons.mp hp with rfl | hp
    · exact ⟨ho', hx.2⟩
    · exact ⟨hK _ _ (by simpa using h2 p hp) (N p (List.mem_append_right _ (.tail _ hp))).1, (N p (List.mem_append_right _ (.tail _ hp))).2⟩
theorem Con.use2 {w : World} {mean : ExcName → Option Value} {mg mb : Str → Option Value} {d : Nat} {f : Value} {args : List Value} {x y : Addr} {o o2 : Obj} {Pre : Heap → Prop} {Post : Heap → Heap → Value → Prop}
    (C : Con w mean mg mb d f args [(x, o), (y, o2)] Pre Post)
    {dp un : Nat} {gd : Option (List Code)} {cn : Str} {cs : Scope} {a : Addr} {ccd : Value} {cl : List (Str × Addr)} {outer : List Env} {A₀ : Around} {base h₀ : Heap} {L : Addr} {m : Str → Option Value} {s : Shared} {Q E : Value → Shared → Prop} {news : List (Addr × Obj)} {g : Obj → List (Addr × Obj)} {g2 : Obj → Obj → List (Addr × Obj)}
    (B : Below A₀ base outer h₀) (F : Fr h₀ L s.heap m) (X : (hd.heap_1 w.params).In h₀) (N : News h₀ L s.heap news)
    (T : Top viewQ (looseW viewQ [Str.ofString "PostError"]) mean mg mb h₀) (hk : cs.kind = .function) (hd : dp + d < recursionLimit) (hu : un + 8 * d < cLine) (U : UpdF x o news g) (U2 : ∀ o', UpdF y o2 (g o') (g2 o')) (hpre : Pre s.heap)
    (k : ∀ v h' tk', Kp [x, y] s.heap h' → Fr h₀ L h' m → (∀ o' o2', h'.get? x = some o' → h'.get? y = some o2' → News h₀ L h' (g2 o' o2')) → Post s.heap h' v → Q v { s with heap := h', toks := tk' }) :
    wpAny (model Challenge.rw_no0370_01.row.prog w) (ktrTop dp un gd cn cs L a ccd cl outer) (call f args) Q E s := by
  obtain ⟨pre, post, rfl, hg, h1, h2⟩ := U.split
  have hx := N (x, o) (List.mem_append_right _ (.head _))
  have hy : s.heap.get? y = some o2 ∧ y ≠ L ∧ h₀.get? y = none := by
    obtain ⟨pre2, post2, e2, _, h3, h4⟩ := (U2 o).split
    refine N (y, o2) ?_
    rw [← hg, e2]
    exact List.mem_append_right _ (.head _)
  refine C dp un gd cn cs a ccd cl outer A₀ base h₀ L m s Q E B F X (fun p hp => by
      rcases List.mem_cons.mp hp with rfl | hp
      · exact hx
      · rw [List.mem_singleton.mp hp]; exact hy) T hk hd hu hpre fun v h' tk' hK hP =>
    k v h' tk' hK (kp_fr (wr := [x, y]) F (by simpa using ⟨⟨hx.2.2, hx.2.1⟩, hy.2.2, hy.2.1⟩) hK) (fun o' o2' ho' ho2' => ?_) hP
  obtain ⟨pre2, post2, e2, hg2, h3, h4⟩ := (U2 o').split
  rw [hg2]
  have key : ∀ p, p ∈ g o' → p.1 ≠ y → h'.get? p.1 = some p.2 ∧ p.1 ≠ L ∧ h₀.get? p.1 = none := fun p hp hpy => by
    rw [hg] at hp
    rcases List.mem_append.mp hp with hp | hp
    · exact ⟨hK _ _ (by simpa using ⟨h1 p hp, hpy⟩) (N p (List.mem_append_left _ hp)).1, (N p (List.mem_append_left _ hp)).2⟩
    · rcases List.mem_cons.mp hp with rfl | hp
      · exact ⟨ho', hx.2⟩
      · exact ⟨hK _ _ (by simpa using ⟨h2 p hp, hpy⟩) (N p (List.mem_append_right _ (.tail _ hp))).1, (N p (List.mem_append_right _ (.tail _ hp))).2⟩
  intro p hp
  rcases List.mem_append.mp hp with hp | hp
  · exact key p (by rw [e2]; exact List.mem_append_left _ hp) (h3 p hp)
  · rcases List.mem_cons.mp hp with rfl | hp
    · exact ⟨ho2', hy.2⟩
    · exact key p (by rw [e2]; exact List.mem_append_right _ (.tail _ hp)) (h4 p hp)
end
section

def LetOf (w : World) (R : Addr → Obj → Prop) (v : Value) (u : Int) : Prop :=
  ∃ a dl k t oc fl ins ms tm, v = .ref a ∧ R a (instObj 197 dl) ∧ R dl (letO w k u t oc fl ins ms tm)
def Lets (w : World) (R : Addr → Obj → Prop) (vs : List Value) (us : List Int) : Prop := vs.length = us.length ∧ ∀ (i : Nat) v, vs[i]? = some v → ∃ u, us[i]? = some u ∧ LetOf w R v u
theorem LetOf.mono {w : World} {R R' : Addr → Obj → Prop} {v : Value} {u : Int} (x : LetOf w R v u) (h : ∀ a o, R a o → R' a o) : LetOf w R' v u := by
  obtain ⟨a, dl, k, t, oc, fl, ins, ms, tm, e, h1, h2⟩ := x
  exact ⟨a, dl, k, t, oc, fl, ins, ms, tm, e, h _ _ h1, h _ _ h2⟩
theorem Lets.mono {w : World} {R R' : Addr → Obj → Prop} {vs : List Value} {us : List Int} (x : Lets w R vs us) (h : ∀ a o, R a o → R' a o) : Lets w R' vs us :=
  ⟨x.1, fun i v e => let ⟨u, e1, e2⟩ := x.2 i v e; ⟨u, e1, e2.mono h⟩⟩
theorem Lets.nil {w : World} {R : Addr → Obj → Prop} : Lets w R [] [] := ⟨rfl, fun i v e => by simp at e⟩
theorem Lets.snoc {w : World} {R : Addr → Obj → Prop} {vs : List Value} {us : List Int} {v : Value} {u : Int} (x : Lets w R vs us) (h : LetOf w R v u) : Lets w R (vs ++ [v]) (us ++ [u]) := by
  refine ⟨by simp [x.1], fun i v' e => ?_⟩
  rcases Nat.lt_trichotomy i vs.length with hi | hi | hi
  · rw [List.getElem?_append_left hi] at e
    rw [List.getElem?_append_left (by rw [← x.1]; exact hi)]
    exact x.2 i v' e
  · subst hi
    rw [List.getElem?_append_right (Nat.le_refl _)] at e
    simp at e
    subst e
    rw [x.1, List.getElem?_append_right (Nat.le_refl _)]
    exact ⟨u, by simp, h⟩
  · rw [List.getElem?_append_right (Nat.le_of_lt hi)] at e
    rw [show i - vs.length = (i - vs.length - 1) + 1 by omega] at e
    simp at e
abbrev HR (h : Heap) : Addr → Obj → Prop := fun a o => h.get? a = some o
def BoxAt (w : World) (k : Nat → Tok) (h : Heap) (box d : Addr) (tn tv : Tok) (nu : Int) (t2 : Tok) (tp : Int) (t3 t4 : Tok) (ll gl : Addr) (vs : List Value) (c : Nat) (us : List Int) : Prop :=
  h.get? box = some (instObj 235 d) ∧ h.get? d = some (boxO w k tn tv nu t2 tp t3 t4 ll gl) ∧ h.get? ll = some (listOf vs.toArray c) ∧ Lets w (HR h) vs us
theorem BoxAt.keeps {w : World} {k : Nat → Tok} {h h' : Heap} {box d : Addr} {tn tv : Tok} {nu : Int} {t2 : Tok} {tp : Int} {t3 t4 : Tok} {ll gl : Addr} {vs : List Value} {c : Nat} {us : List Int} (x : BoxAt w k h box d tn tv nu t2 tp t3 t4 ll gl vs c us) (kp : Kp [] h h') :
    BoxAt w k h' box d tn tv nu t2 tp t3 t4 ll gl vs c us := ⟨kp _ _ (by simp) x.1, kp _ _ (by simp) x.2.1, kp _ _ (by simp) x.2.2.1, x.2.2.2.mono fun a o e => kp _ _ (by simp) e⟩
theorem box_uids_con (w : World) (mean : ExcName → Option Value) (mg mb : Str → Option Value) (k : Nat → Tok) (box d : Addr) (tn tv : Tok) (nu : Int) (t2 : Tok) (tp : Int) (t3 t4 : Tok) (ll gl : Addr) (vs : List Value) (c : Nat) (us : List Int) :
    Con w mean mg mb 2 (.ref 227) [.ref box] [] (fun h => BoxAt w k h box d tn tv nu t2 tp t3 t4 ll gl vs c us ∧ us.length ≤ 90) (IntListPost us) := by
  walk_at "MY_ENTER"
  intro dp un gd cn cs L a ccd cl outer base h0 g h₁ L' tk s B F X N lN T hd hu hpre hk hw
  (try dsimp only)
  obtain ⟨hb0, hlen⟩ := hpre
  obtain ⟨hb1, hb2, hb3, hb4, hb5⟩ := hb0.keeps hk
  k_steps
  unfold Stop
  rename Fr _ _ _ _ => F2
  rename News _ _ _ _ => N2
  refine LCg.ListComp_U F2 (by with_unfolding_all rfl) (by decide) (by rfl) (by decide) (by rfl) ?_
  k_steps
  refine LCg.CompSrc.base (by rfl) (by k_asm) N2 (PySem.IsL.isList hb3) (by rw [List.size_toArray, sizeLine_eq]; omega) fun g' => ?_
  refine crest (fun i ys nw => IntsAre ys (us.take i) ∧ nw = _) ?_ ?_ ⟨.nil, rfl⟩
  · rintro j v2 I2 oI2 C oC D m2 ys nw h3 tk3 E' hj hv2 ⟨hys, rfl⟩ hNs hx F3 N3 off ne
    obtain ⟨u, hu2, al, dl, kl, tl, oc, fl, ins, ms, tm, rfl, hl1, hl2⟩ := hb5 j v2 (by simpa using hv2)
    k_steps
    unfold Stop
    refine LCg.CompEnd.intro F3 N3 _ (fun _ h => h) off (.inl (PySem.IsL.isList hb3)) ⟨?_, rfl⟩
    rw [List.take_add_one, hu2]
    exact ints_app hys (.cons _ _ .nil)
  · rintro ys nw ⟨hys, rfl⟩
    intro D h4 tk4 F4 N4 o4
    rw [List.size_toArray, hb4, List.take_length] at hys
    k_steps
    exact Done.intro F4 ⟨_, ys, _, rfl, fresh_of hk (N4 _ (.head _)).2.2, (N4 _ (.head _)).1, hys⟩
end
theorem off_V2 : True ∧ True := by
  first
  | (walk1; all_goals trivial)
  | exact ⟨trivial, trivial⟩
section

local macro_rules | `(tactic| k_room) => `(tactic| ktr_room)
theorem ne_of_objs {h : Heap} {a b : Addr} {o o' : Obj} (h1 : h.get? a = some o) (h2 : h.get? b = some o') (hne : o.data ≠ o'.data) : a ≠ b := by
  rintro rfl
  rw [h1] at h2
  exact hne (congrArg Obj.data (Option.some.inj h2))
def FlagPost (h h' : Heap) (v : Value) : Prop := ∃ b, v = .ref b ∧ h.get? b = none ∧ h'.get? b = some (tupO #[])
theorem flag_con (w : World) (mean : ExcName → Option Value) (mg mb : Str → Option Value) (fa : Addr) :
    Con w mean mg mb 3 (.ref 166) [.ref fa] [] (fun h => h.get? fa = some (tupO #[])) FlagPost := by
  walk_at "MY_ENTER"
  intro dp un gd cn cs L a ccd cl outer base h0 g h₁ L' tk s B F X N lN T hd hu hpre hk hw
  (try dsimp only)
  have hf1 : g.get? fa = some (tupO #[]) := hk _ _ (by simp) hpre
  k_steps
  rename Fr _ _ _ _ => F1
  unfold Stop
  refine For_turns F1 ?_ (by intro x; rfl) (by passes_own)
  k_steps
  rename Fr _ _ _ _ => F1
  rename News _ _ _ _ => N1
  obtain ⟨fl, efl⟩ := news_a0 N1
  subst efl
  refine iterS_tuple (σ := Unit) (vs := []) [Str.ofString "text", Str.ofString "name"] (fun _ _ => []) (fun _ _ => [(fl, listOf #[] 0)]) (fun i _ => True) ()
      rfl F1 N1 (fun p hp => hp) trivial (fun p hp => nomatch hp) (F1.keep _ _ hf1) (by rintro rfl; exact absurd (Heap.lt_size hf1) (Nat.not_lt.mpr F1.above)) rfl rfl (fun i c h' m' _ F' _ => F'.keep _ _ hf1) (fun i v c u h tk I oI hv => by simp at hv) ?_
  rintro ⟨⟩ u h tk - F' N'
  dsimp only at F' N' ⊢
  clear F1 N1
  k_steps
  rename Fr _ _ _ _ => FE
  rename News _ _ _ _ => NE
  rename IntsAre _ _ => hI
  rename List.Perm _ [] => hP
  have e0 := hI.length
  rw [hP.length_eq] at e0
  rw [List.length_eq_zero_iff.mp e0] at NE
  exact Done.intro FE ⟨_, rfl, fresh_of hk (NE _ (.head _)).2.2, (NE _ (.head _)).1⟩
def RaisedPost (w : World) (k : Nat → Tok) (d : Addr) (tn tv : Tok) (nu : Int) (t2 : Tok) (tp : Int) (t4 : Tok) (ll gl : Addr) (h h' : Heap) (v : Value) : Prop := ∃ t, v = .int (tp + 1) t ∧ h'.get? d = some (boxO w k tn tv nu t2 (tp + 1) t t4 ll gl)
theorem raised_con (w : World) (mean : ExcName → Option Value) (mg mb : Str → Option Value) (k : Nat → Tok) (box d : Addr) (tn tv : Tok) (nu : Int) (t2 : Tok) (tp : Int) (t3 t4 : Tok) (ll gl : Addr) :
    Con w mean mg mb 2 (.ref 253) [.ref box] [(d, boxO w k tn tv nu t2 tp t3 t4 ll gl)] (fun h => h.get? box = some (instObj 235 d)) (RaisedPost w k d tn tv nu t2 tp t4 ll gl) := by
  walk_at "MY_ENTER"
  intro dp un gd cn cs L a ccd cl outer base h0 g h₁ L' tk s B F X N lN T hd hu hpre hk hw
  (try dsimp only)
  have hd0 : h0.get? d = some (boxO w k tn tv nu t2 tp t3 t4 ll gl) := hw _ (.head _)
  have hbd : box ≠ d := ne_of_objs hpre hd0 (by intro e; cases e)
  have hb1 : g.get? box = some (instObj 235 d) := hk _ _ (by simpa using hbd) hpre
  k_steps
  dsimp only
  rename News _ _ _ _ => NE
  exact Done.intro (by assumption) ⟨_, rfl, (NE _ (.head _)).1⟩

def toks5 (a b c d e : Tok) : Nat → Tok
  | 0 => a
  | 1 => b
  | 2 => c
  | 3 => d
  | _ => e
def AddPost (w : World) (k : Nat → Tok) (d : Addr) (tn tv : Tok) (nu : Int) (tp : Int) (t4 : Tok) (ll gl : Addr) (vs : List Value) (c : Nat) (h h' : Heap) (v : Value) : Prop :=
  ∃ la dl kl u oc fl ins ms tm t2' t3', v = .ref la ∧ FreshL h h' [(la, instObj 197 dl), (dl, letO w kl nu u oc fl ins ms tm)] ∧ la ≠ dl ∧ h'.get? d = some (boxO w k tn tv (nu + 1) t2' (tp + 1) t3' t4 ll gl) ∧ h'.get? ll = some (listOf (List.toArray (vs ++ [Value.ref la])) (c + 1))
local macro_rules | `(tactic| walk_at "call ref") => `(tactic| (k_here; (with_reducible show wpAny _ _ (call (.ref 166) _) _ _ _); k_dflt (
  (refine' (Con.use (flag_con _ _ _ _ _) ?B ?F ?X ?N ?T ?hk ?hd ?hu ?hp ?k0))
  (walk_at "MY_CON")
  (case hp => walk_at "MY_OBJ")
  (case' k0 => refine stopHere ?_))))
local macro_rules | `(tactic| walk_at "call ref") => `(tactic| (k_here; (with_reducible show wpAny _ _ (call (.ref 253) _) _ _ _); refine stopHere ?_))
theorem add_con (w : World) (mean : ExcName → Option Value) (mg mb : Str → Option Value) (k : Nat → Tok) (box d : Addr) (tn tv : Tok) (nu : Int) (t2 : Tok) (tp : Int) (t3 t4 : Tok) (ll gl : Addr) (vs : List Value) (c : Nat) (bt : Value) (fa : Addr) (ti : Tok) :
    Con w mean mg mb 6 (.ref 260) [.ref box, bt, .ref fa, .int 1 ti] [(d, boxO w k tn tv nu t2 tp t3 t4 ll gl), (ll, listOf (List.toArray vs) c)] (fun h => h.get? box = some (instObj 235 d) ∧ vs.length ≤ 90 ∧ h.get? fa = some (tupO #[]))
      (AddPost w k d tn tv nu tp t4 ll gl vs c) := by
  walk_at "MY_ENTER"
  intro dp un gd cn cs L a ccd cl outer base h0 g h₁ L' tk s B F X N lN T hd hu hpre hk hw
  (try dsimp only)
  obtain ⟨hb0, hlen, hf0⟩ := hpre
  have hd0 : h0.get? d = some (boxO w k tn tv nu t2 tp t3 t4 ll gl) := hw _ (.head _)
  have hl0 : h0.get? ll = some (listOf (List.toArray vs) c) := hw _ (.tail _ (.head _))
  have hbd : box ≠ d := ne_of_objs hb0 hd0 (by intro e; cases e)
  have hbl : box ≠ ll := ne_of_objs hb0 hl0 (by intro e; cases e)
  have hfd : fa ≠ d := ne_of_objs hf0 hd0 (by intro e; cases e)
  have hfl : fa ≠ ll := by
    rintro rfl
    rw [hf0] at hl0
    have := congrArg Obj.cls (Option.some.inj hl0)
    simp at this
  have hb1 : g.get? box = some (instObj 235 d) := hk _ _ (by simp [hbd, hbl]) hb0
  have hf1 : g.get? fa = some (tupO #[]) := hk _ _ (by simp [hfd, hfl]) hf0
  have hdl : d ≠ ll := ne_of_objs hd0 hl0 (by intro e; cases e)
  k_steps
  intro v h9 tk9 K9 F9 N9 hP
  obtain ⟨fb, rfl, hb9, hb9'⟩ := hP
  have a9 := kp_apart N hb9
  have n93 := neN hdl
  have n94 := neN (Ne.symm hdl)
  have n91 := neN (a9 _ (.head _))
  have n92 := neN (a9 _ (.tail _ (.head _)))
  have N9 := kp_add (by k_asm) N9 hb9 hb9'
  k_steps
  unfold Stop
  refine' Con.use1 (raised_con _ _ _ _ k box d tn tv nu t2 tp t3 t4 ll gl) ?B ?F ?X ?N ?T ?hk ?hd ?hu ?U ?hp ?k0
  walk_at "MY_CON"
  case U => k_updF
  case hp => walk_at "MY_OBJ"
  intro v h9 tk9 K9 F9 N9 hP
  obtain ⟨tr, rfl, hd9⟩ := hP
  have N9 := N9 _ hd9
  k_steps
  dsimp only
  have fr : ∀ b, g.get? b = none → @Ne Nat b d → @Ne Nat b ll → h0.get? b = none := fun b hb h1 h2 => by
    cases e : h0.get? b with
    | none => rfl
    | some o => have := hk b o (by simp only [List.map_cons, List.map_nil, List.mem_cons, List.not_mem_nil, or_false, not_or]; exact ⟨h1, h2⟩) e; rw [hb] at this; cases this
  rename News _ _ _ _ => NE
  refine Done.intro (by assumption) ⟨_, _, toks5 _ _ _ _ _, _, _, _, _, _, _, _, _, rfl, List.forall_mem_cons.mpr ⟨⟨fr _ (NE _ (.head _)).2.2 (by k_ne) (by k_ne), (NE _ (.head _)).1⟩, List.forall_mem_cons.mpr ⟨⟨fr _ (NE _ (.tail _ (.head _))).2.2 (by k_ne) (by k_ne), (NE _ (.tail _ (.head _))).1⟩, fun p hp => nomatch hp⟩⟩, (by k_ne : @Ne Nat _ _), (NE _ (.tail _ (.tail _ (.tail _ (.head _))))).1, (NE _ (.tail _ (.tail _ (.tail _ (.tail _ (.head _)))))).1⟩
end
local macro_rules | `(tactic| walk_at "MY_OBJ") => `(tactic| first | (with_reducible exact (Fr.keep (by k_asm) _ _ (by with_reducible assumption))) | exact (News.get (by k_asm) (by k_mem)) | exact (Fr.keep (by k_asm) _ _ (by assumption)))
local macro_rules | `(tactic| walk_at $k:str) => if ["CompSrc"].contains k.getString then `(tactic| refine stopHere ?_) else Lean.Macro.throwUnsupported
local macro_rules | `(tactic| walk_at $k:str) => if ["call type:dict", "binaryOp Add ref ref", "call type:enumerate"].contains k.getString then `(tactic| (k_here; refine stopHere ?_)) else Lean.Macro.throwUnsupported
local macro_rules | `(tactic| k_room) => `(tactic| ktr_room)
local macro_rules | `(tactic| walk_at "call ref") => `(tactic| (k_here; (first | (with_reducible show wpAny _ _ (call (.ref 272) _) _ _ _) | (with_reducible show wpAny _ _ (call (.ref 265) _) _ _ _) | (with_reducible show wpAny _ _ (call (.ref 227) _) _ _ _) | (with_reducible show wpAny _ _ (call (.ref 84) _) _ _ _) | (with_reducible show wpAny _ _ (call (.ref 87) _) _ _ _) | (with_reducible show wpAny _ _ (call (.ref 260) _) _ _ _) | (with_reducible show wpAny _ _ (call (.ref 253) _) _ _ _) | (with_reducible show wpAny _ _ (call (.ref 279) _) _ _ _) | (with_reducible show wpAny _ _ (call (.ref 284) _) _ _ _) | (with_reducible show wpAny _ _ (call (.ref 62) _) _ _ _) | (with_reducible show wpAny _ _ (call (.ref 69) _) _ _ _) | (with_reducible show wpAny _ _ (call (.ref 74) _) _ _ _) | (with_reducible show wpAny _ _ (call (.ref 79) _) _ _ _)); refine stopHere ?_))
theorem off_V3 : True ∧ True := by
  first
  | (walk1; all_goals trivial)
  | exact ⟨trivial, trivial⟩
section

theorem let_ne_box {w : World} {k kl : Nat → Tok} {u : Int} {t : Tok} {oc : Value} {fl : Addr} {ins : Value} {ms : Int} {tm tn tv : Tok} {nu : Int} {t2 : Tok} {tp : Int} {t3 t4 : Tok} {ll gl : Addr} :
    (letO w kl u t oc fl ins ms tm).data ≠ (boxO w k tn tv nu t2 tp t3 t4 ll gl).data := by
  intro q
  have := congrArg (fun d => match d with | Data.dict es _ => es.size | _ => 0) q
  simp at this
theorem news_o0 {h₀ : Heap} {L a : Addr} {o : Obj} {r : List (Addr × Obj)} {h : Heap} (_ : News h₀ L h ((a, o) :: r)) : ∃ x, x = o := ⟨o, rfl⟩
theorem news_tl {h₀ : Heap} {L : Addr} {p : Addr × Obj} {r : List (Addr × Obj)} {h : Heap} (N : News h₀ L h (p :: r)) : News h₀ L h r := fun q hq => N q (.tail _ hq)
local macro_rules | `(tactic| walk_at "setItem ref int") => `(tactic| (k_here; k_dflt (refine' kda_set (knd := PySem.intKind _ _) ?F ?N ?U ?d (intKind_is _ _ _ _) ?z ?_; (case F => k_asm); (case N => k_asm); (case U => k_updF); (case d => k_asm); (case z => (rw [sizeLine_eq]; omega))); intro h' o' F' N' hd'; (try dsimp only at N')))
theorem kda_notin {prog : Program} {w : World} {A : Around} {E : Value → Shared → Prop} {s : Shared} {h₀ : Heap} {L d : Addr} {news : List (Addr × Obj)} {o : Obj} {kvs : List (Int × Value)} {k : Int} {tk : Tok} {Q : Value → Shared → Prop}
    (N : News h₀ L s.heap news) (hp : (d, o) ∈ news) (hd : o.IsDictOf (intKind prog w) kvs) (lo : (d == sysModules) = false) (b : Bool) (hb : (valueAt kvs k).isSome = b) (h : Q (.bool (!b)) { s with toks := s.toks + 1 }) :
    wpAny (model prog w) A (compareOp .NotIn (.int k tk) (.ref d)) Q E s := wpAny_notIn_of (intKind_is _ _ _ _) lo (kda_dict N hp hd).mapOf (by rw [hb]; exact h)
local macro_rules | `(tactic| walk_at "compareOp In int ref") => `(tactic| (k_here; k_dflt (refine kda_in (knd := PySem.intKind _ _) (by k_asm) (by k_mem) (by with_reducible assumption) (by with_reducible assumption) (intKind_is _ _ _ _) _ (by with_reducible assumption) ?_)))
local macro_rules | `(tactic| walk_at "compareOp NotIn int ref") => `(tactic| (k_here; k_dflt (refine kda_notin (by k_asm) (by k_mem) (by with_reducible assumption) (by with_reducible assumption) _ (by with_reducible assumption) ?_)))
/-- expunge's end: as it was, or with new lists -/
def ExpPost (w : World) (k : Nat → Tok) (d : Addr) (tn tv : Tok) (nu : Int) (t2 : Tok) (tp : Int) (t3 t4 : Tok) (ll gl : Addr) (vs : List Value) (us : List Int) (ng : Nat) (h h' : Heap) (v : Value) : Prop :=
  h'.get? d = some (boxO w k tn tv nu t2 tp t3 t4 ll gl) ∨
  ∃ t3' l1 g1 c1 cg1 vs1 us1 gs1, h'.get? d = some (boxO w k tn tv nu t2 (tp + 1) t3' t4 l1 g1) ∧ FreshL h h' [(l1, listOf (List.toArray vs1) c1), (g1, listOf (List.toArray gs1) cg1)] ∧ l1 ≠ g1 ∧ gs1.length ≤ ng + us.length ∧ us1.Sublist us ∧ ∀ R, Lets w R vs us → Lets w R vs1 us1
theorem exp_con (w : World) (mean : ExcName → Option Value) (mg mb : Str → Option Value) (k : Nat → Tok) (box d : Addr) (tn tv : Tok) (nu : Int) (t2 : Tok) (tp : Int) (t3 t4 : Tok) (ll gl ul : Addr) (vs gs xs : List Value) (c cg cu : Nat) (us ns : List Int) :
    Con w mean mg mb 12 (.ref 265) [.ref box, .ref ul] [(d, boxO w k tn tv nu t2 tp t3 t4 ll gl)]
      (fun h => h.get? box = some (instObj 235 d) ∧ h.get? ll = some (listOf (List.toArray vs) c) ∧ Lets w (HR h) vs us ∧ us.length ≤ 90 ∧ h.get? gl = some (listOf (List.toArray gs) cg) ∧ gs.length ≤ 1000 ∧ h.get? ul = some (listOf (List.toArray xs) cu) ∧ IntsAre xs ns ∧ ns.length ≤ 90)
      (ExpPost w k d tn tv nu t2 tp t3 t4 ll gl vs us gs.length) := by
  walk_at "MY_CENTER"
  intro dp un gd cn cs L a ccd cl outer base h0 g h₁ L' tk cells s B F X N Y lN T hd hu hpre hk hw
  k_cells Y
  (try simp only [List.cons_append, List.nil_append] at N)
  (try dsimp only)
  obtain ⟨hb0, hl0, hL0, hulen, hg0, hgl, hu0, hxs, hnl⟩ := hpre
  have hd0 : h0.get? d = some (boxO w k tn tv nu t2 tp t3 t4 ll gl) := hw _ (.head _)
  have kd : ∀ b o, h0.get? b = some o → o.data ≠ (boxO w k tn tv nu t2 tp t3 t4 ll gl).data → g.get? b = some o := fun b o e hne => hk b o (by simpa using ne_of_objs e hd0 hne) e
  have hb1 := kd _ _ hb0 (by intro e; cases e)
  have hl1 := kd _ _ hl0 (by intro e; cases e)
  have hg1 := kd _ _ hg0 (by intro e; cases e)
  have hu1 := kd _ _ hu0 (by intro e; cases e)
  have hL1 : Lets w (HR g) vs us := ⟨hL0.1, fun i v e => by
    obtain ⟨u, e1, al, dl, kl, tl, oc, fl, ins, ms, tm, e2, e3, e4⟩ := hL0.2 i v e
    exact ⟨u, e1, al, dl, kl, tl, oc, fl, ins, ms, tm, e2, kd _ _ e3 (by intro q; cases q), kd _ _ e4 let_ne_box⟩⟩
  have hxl := hxs.length
  have hul2 : g.IsList ul xs.toArray := PySem.IsL.isList hu1
  have lD : @LT.lt Nat _ d L' := lN _ (.head _)
  k_steps
  rename Fr _ _ _ _ => F1
  unfold Stop
  refine For_turns F1 ?_ (by intro x; rfl) (by passes_own)
  k_steps
  rename Fr _ _ _ _ => F1
  rename News _ _ _ _ => N1
  (try simp only [List.cons_append, List.nil_append] at N1)
  obtain ⟨wd, e⟩ := news_a0 N1
  subst e
  obtain ⟨wo, e⟩ := news_o0 N1
  subst e
  obtain ⟨oM, e⟩ := news_o0 (news_tl N1)
  subst e
  obtain ⟨oW, e⟩ := news_o0 (news_tl (news_tl N1))
  subst e
  rename Obj.IsDictOf (intKind _ _) _ _ => hwi
  rename (_ == sysModules) = false => hlo
  have hulL : L' ≠ ul := by
    rintro rfl
    exact absurd (Heap.lt_size hu1) (Nat.not_lt.mpr F1.above)
  refine iterS_list (σ := Obj × List (Int × Value)) [Str.ofString "uid"] (fun _ _ => []) (fun _ c => [(wd, c.1), (L' + 1 + 1, oM), (L' + 1, oW), (d, boxO w k tn tv nu t2 tp t3 t4 ll gl)])
    (fun i c => c.1.IsDictOf (intKind Challenge.rw_no0370_01.row.prog w) c.2 ∧ c.2.length ≤ i) (wo, [])
      rfl F1 N1 (fun p hp => hp) ⟨hwi, Nat.le_refl _⟩ (fun p hp => nomatch hp) (F1.keep _ _ hu1) hulL rfl rfl (fun i c h' m' _ F' _ => F'.keep _ _ hu1) ?_ ?_
  · rintro i v ⟨wo2, kvs⟩ u h tk I oI hv ⟨hw2, hkl⟩ hI F' N'
    dsimp only at hw2 hkl hI N' F' ⊢
    obtain ⟨n, tn0, rfl, hn⟩ := ints_get hxs hv
    have hil := (List.getElem?_eq_some_iff.mp hn).1
    clear F1 N1
    have i1 := neN (hI _ (.head _))
    have i2 := neN (hI _ (.tail _ (.head _)))
    have i3 := neN (hI _ (.tail _ (.tail _ (.head _))))
    have i4 := neN (hI _ (.tail _ (.tail _ (.tail _ (.head _)))))
    k_steps
    dsimp only [PostS]
    rename Fr _ _ _ _ => F8
    rename News _ _ _ _ => N8
    rename Obj.IsDictOf (intKind _ _) _ (stored _ _ _) => hd8
    obtain ⟨wo3, e⟩ := news_o0 (news_tl N8)
    subst e
    have hsl := stored_length_le kvs n (.bool true)
    refine EndS.intro (wo3, stored kvs n (.bool true)) F8 N8 (.head _) (fun p hp => .tail _ hp) ?_ ⟨hd8, by dsimp only; omega⟩ (fun p hp => nomatch hp) ?_
    · exact List.forall_mem_cons.mpr ⟨i1, List.forall_mem_cons.mpr ⟨i2, List.forall_mem_cons.mpr ⟨i3, List.forall_mem_cons.mpr ⟨i4, fun p hp => nomatch hp⟩⟩⟩⟩
    · walk_at "MY_SAME"
  · rintro ⟨wo2, kvs⟩ u h tk ⟨hw2, hkl⟩ F' N'
    dsimp only at hw2 hkl N' F' ⊢
    clear F1 N1
    k_steps
    unfold Stop
    refine LCt.Assign_ListComp_T F' (by rfl) (by with_unfolding_all rfl) (by with_unfolding_all rfl) (by decide) (by rfl) (by decide) (by rfl) (by rfl) (by rfl) ?_
    k_steps
    unfold Stop
    refine Con.use (box_uids_con _ _ _ _ k box d tn tv nu t2 tp t3 t4 ll gl vs c us) (by k_asm) (by k_asm) (by k_asm) (by k_asm) (by k_asm) rfl (by ktr_room) (by ktr_units)
      ⟨⟨by walk_at "MY_OBJ", (N' _ (.tail _ (.tail _ (.tail _ (.head _))))).1, F'.keep _ _ hl1, hL1.mono fun a o e => F'.keep _ _ e⟩, hulen⟩ ?_
    intro v h9 tk9 K9 F9 N9 hP
    obtain ⟨b9, ws9, c9, rfl, hb9, hb9', hi9⟩ := hP
    have hl9 := hi9.length
    have a9 := kp_apart N' hb9
    have a91 := neN (a9 _ (.head _))
    have a92 := neN (a9 _ (.tail _ (.head _)))
    have a93 := neN (a9 _ (.tail _ (.tail _ (.head _))))
    have a94 := neN (a9 _ (.tail _ (.tail _ (.tail _ (.head _)))))
    have N9 := kp_add F' N9 hb9 hb9'
    refine LCt.CompSrcT.ledger (by rfl) (by k_asm) N9 (.head _) (by rw [List.size_toArray, sizeLine_eq]; omega) fun g' => ?_
    refine crestT (fun i ys nw => (∃ ms, IntsAre ys ms ∧ ms.length ≤ i) ∧ nw = _) ?_ ?_ ⟨⟨[], .nil, Nat.le_refl _⟩, rfl⟩
    · rintro j v2 I2 oI2 C oC D m2 ys nw h3 tk3 E' hj hv2 ⟨⟨ms, hys, hml⟩, rfl⟩ hNs hx F3 N3 off ne
      obtain ⟨n2, t2, rfl, hn2⟩ := ints_get hi9 (by simpa using hv2)
      cases hbv : (valueAt kvs n2).isSome with
      | true =>
        k_steps
        unfold Stop
        refine LCg.CompEnd.intro F3 N3 _ (fun _ h => h) off (.inr ⟨_, .head _, rfl, _, rfl⟩) ⟨⟨ms ++ [n2], ints_app hys (.cons _ _ .nil), by simp; omega⟩, rfl⟩
      | false =>
        k_steps
        unfold Stop
        refine LCg.CompEnd.intro F3 N3 _ (fun _ h => h) off (.inr ⟨_, .head _, rfl, _, rfl⟩) ⟨⟨ms, hys, by omega⟩, rfl⟩
    · rintro ys nw ⟨⟨ms, hys, hml⟩, rfl⟩
      intro D h4 tk4 F4 N4 o4
      simp only [LCg.Off1, and_true] at o4
      obtain ⟨o41, o42, o43, o44, o45⟩ := o4
      rw [List.size_toArray, hl9] at hml
      have hyl := hys.length
      k_steps
      · rename Fr _ _ _ _ => FE
        rename News _ _ _ _ => NE
        exact Done.intro FE (.inl (NE _ (.tail _ (.tail _ (.tail _ (.tail _ (.tail _ (.tail _ (.tail _ (.head _))))))))).1)
      · unfold Stop
        refine' Con.use1 (raised_con _ _ _ _ k box d tn tv nu t2 tp t3 t4 ll gl) ?B ?F ?X ?N ?T ?hk ?hd ?hu ?U ?hp ?k0
        walk_at "MY_CON"
        case U => k_updF
        case hp => walk_at "MY_OBJ"
        intro v h9 tk9 K9 F9 N9 hP
        obtain ⟨tr, rfl, hd9⟩ := hP
        have N9 := N9 _ hd9
        (try dsimp only at N9)
        k_steps
        unfold Stop
        rename Fr _ _ _ _ => F5
        rename News _ _ _ _ => N5
        obtain ⟨el, e⟩ := news_a0 N5
        subst e
        obtain ⟨oM2, e⟩ := news_o0 (news_tl (news_tl (news_tl (news_tl N5))))
        subst e
        refine LCt.ListComp_T F5 (by with_unfolding_all rfl) (by decide) (by rfl) (by decide) (by rfl) ?_
        k_steps
        refine LCt.CompSrcT.base (by rfl) F5 N5 (PySem.IsL.isList hl1) (by rw [List.size_toArray, sizeLine_eq, hL1.1]; omega) fun g' => ?_
        refine crestT (fun i ys nw => (∃ us', us'.Sublist (us.take i) ∧ ∀ R, Lets w R vs us → Lets w R ys us') ∧ nw = _) ?_ ?_ ⟨⟨[], List.nil_sublist _, fun _ _ => Lets.nil⟩, rfl⟩
        · rintro j v2 I2 oI2 C oC D2 m2 zs nw h3 tk3 E' hj hv2 ⟨⟨us', hus, hzs⟩, rfl⟩ hNs hx F3 N3 off ne
          have hv3 : vs[j]? = some v2 := by simpa using hv2
          obtain ⟨u, hu2, al, dl, kl, tl, oc, fl, ins, msl, tm, e2, hq1, hq2⟩ := hL1.2 j v2 hv3
          have htake : us.take (j + 1) = us.take j ++ [u] := by rw [List.take_add_one, hu2]; rfl
          subst e2
          cases hbv : (valueAt kvs u).isSome with
          | true =>
            k_steps
            unfold Stop
            refine LCg.CompEnd.intro F3 N3 _ (fun _ h => h) off (.inl (PySem.IsL.isList hl1)) ⟨⟨us', ?_, hzs⟩, rfl⟩
            rw [htake]
            exact hus.trans (List.sublist_append_left _ _)
          | false =>
            k_steps
            unfold Stop
            refine LCg.CompEnd.intro F3 N3 _ (fun _ h => h) off (.inl (PySem.IsL.isList hl1)) ⟨⟨us' ++ [u], ?_, fun R hR => ?_⟩, rfl⟩
            · rw [htake]
              exact List.Sublist.append_right hus [u]
            · obtain ⟨u', hu', hlet⟩ := hR.2 j _ hv3
              rw [hu2] at hu'
              cases hu'
              exact (hzs R hR).snoc hlet
        · rintro zs nw ⟨⟨us', hus, hzs⟩, rfl⟩
          intro D2 h5 tk5 F5 N5 o5
          rw [List.size_toArray, hL1.1, List.take_length] at hus
          simp only [LCg.Off1, and_true] at o5
          obtain ⟨o51, o52, o53, o54, o55, o56, o57⟩ := o5
          k_steps
          unfold Stop
          rename Fr _ _ _ _ => F6
          rename News _ _ _ _ => N6
          refine LCg.ListComp_U F6 (by with_unfolding_all rfl) (by decide) (by rfl) (by decide) (by rfl) ?_
          k_steps
          unfold Stop
          refine LCg.CompSrc.ledger (by rfl) F6 N6 (.tail _ (.tail _ (.head _))) (by rw [List.size_toArray, sizeLine_eq]; omega) fun g' => ?_
          refine crest (fun i ys nw => ys.length = i ∧ nw = _) ?_ ?_ ⟨rfl, rfl⟩
          · rintro j v2 I2 oI2 C oC D3 m2 qs nw h3 tk3 E' hj hv2 ⟨hql, rfl⟩ hNs hx F3 N3 off ne
            k_steps
            unfold Stop
            rename Fr _ _ _ _ => F8
            rename News _ _ _ _ => N8
            exact LCg.CompEnd.intro F8 N8 _ (fun _ h => .tail _ h) off (.inr ⟨_, .tail _ (.tail _ (.head _)), rfl, _, rfl⟩) ⟨by simp [hql], rfl⟩
          · rintro qs nw ⟨hql, rfl⟩
            intro D3 h6 tk6 F6 N6 o6
            rw [List.size_toArray] at hql
            simp only [LCg.Off1, and_true] at o6
            obtain ⟨o61, o62, o63, o64, o65, o66, o67, o68⟩ := o6
            k_steps
            unfold Stop
            refine kmk_add_lit (its := gs.toArray) (its2 := qs.toArray) (zs := gs ++ qs) F6 N6 (PySem.IsL.isList (F6.keep _ _ hg1)) (PySem.IsL.isList (N6 _ (.head _)).1) (by simp) ?_ (by rw [sizeLine_eq]; simp only [List.toList_toArray]; omega)
            intro D4 h7 F7 N7 l7
            have p1 := neN (Nat.ne_of_gt (l7 _ (.head _)))
            have p2 := neN (Nat.ne_of_gt (l7 _ (.tail _ (.head _))))
            have p8 := neN (Nat.ne_of_gt (l7 _ (.tail _ (.tail _ (.tail _ (.tail _ (.tail _ (.tail _ (.tail _ (.tail _ (.head _)))))))))))
            k_steps
            dsimp only
            rename Fr _ _ _ _ => FE
            rename News _ _ _ _ => NE
            have fr : ∀ b, g.get? b = none → b ≠ d → h0.get? b = none := fun b hb hne => by
              cases e : h0.get? b with
              | none => rfl
              | some o => have := hk b o (by simpa using hne) e; rw [hb] at this; cases this
            exact Done.intro FE (.inr ⟨tr, D2, D4, zs.length, 0, zs, us', gs ++ qs, (NE _ (.tail _ (.tail _ (.tail _ (.tail _ (.tail _ (.tail _ (.tail _ (.tail _ (.tail _ (.head _))))))))))).1,
              List.forall_mem_cons.mpr ⟨⟨fr _ (NE _ (.tail _ (.tail _ (.head _)))).2.2 (Ne.symm o57), (NE _ (.tail _ (.tail _ (.head _)))).1⟩, List.forall_mem_cons.mpr ⟨⟨fr _ (NE _ (.head _)).2.2 p8, (NE _ (.head _)).1⟩, fun p hp => nomatch hp⟩⟩,
              Ne.symm p2, by rw [List.length_append]; omega, hus, hzs⟩)
end
section
/-- a contract of a call's code: for __init__ -/
def ConI (w : World) (mean : ExcName → Option Value) (mg mb : Str → Option Value) (d : Nat) (f : Value) (args : List Value) (wr : List (Addr × Obj))
    (Pre : Heap → Prop) (Post : Heap → Heap → Value → Prop) : Prop :=
  ∀ (dp un : Nat) (gd : Option (List Code)) (cn : Str) (cs : Scope) (a : Addr) (ccd : Value) (cl : List (Str × Addr)) (outer : List Env) (A₀ : Around) (base h₀ : Heap) (L : Addr)
    (m : Str → Option Value) (s : Shared) (R : Result → Shared → Prop),
    Below A₀ base outer h₀ → Fr h₀ L s.heap m → (hd.heap_1 w.params).In h₀ → News h₀ L s.heap wr →
    Top viewQ (looseW viewQ [Str.ofString "PostError"]) mean mg mb h₀ → cs.kind = .function →
    dp + d < recursionLimit → un + 8 * d < cLine → Pre s.heap →
    (∀ v h' tk', Kp (wr.map (·.1)) s.heap h' → Post s.heap h' v → R (.ok (.ret v)) { s with heap := h', toks := tk' }) →
    codeAny (model Challenge.rw_no0370_01.row.prog w) (ktrTop dp un gd cn cs L a ccd cl outer) (.call f ⟨args, []⟩) R s

theorem con_defI {w : World} {mean : ExcName → Option Value} {mg mb : Str → Option Value} {d : Nat} {f : Addr} {args : List Value} {wr : List (Addr × Obj)}
    {Pre : Heap → Prop} {Post : Heap → Heap → Value → Prop}
    {name qual : Str} {params : Arguments} {body : List Stmt} {scope : Scope} {dV kV doc pm cdv ct oc : Value} {an od : Option Addr} {osl : Array (Option Value)} {binds : List (Str × Value)}
    (ho : (hd.heap_1 w.params).lookup f = some ⟨oc, od, .func (fnOf name qual params body scope dV kV doc pm an cdv ct), osl⟩)
    (hcd : codeIn (hd.heap_1 w.params) cdv qual = true)
    (hbind : ∀ s : Shared, (hd.heap_1 w.params).In s.heap → BindsTo s (fnOf name qual params body scope dV kV doc pm an cdv ct) ⟨args, []⟩ binds)
    (hloc : ∀ y ∈ binds, scope.names.lookup y.1 = some .local)
    (hcell : ∀ x ∈ scope.names, x.2 ≠ .cell) (hco : scope.isCoroutine = false) (hgen : scope.isGenerator = false) (hk : scope.kind = .function)
    (h : ∀ (dp un : Nat) (gd : Option (List Code)) (cn : Str) (cs : Scope) (L a : Addr) (ccd : Value) (cl : List (Str × Addr)) (outer : List Env) (base h0 g h₁ : Heap) (L' : Addr) (tk : Nat) (s : Shared),
      Below (ktrTop dp un gd cn cs L a ccd cl outer) base (envX cn cs L a ccd cl :: outer) g → Fr g L' h₁ (fun y => binds.reverse.lookup y) → (hd.heap_1 w.params).In g → News g L' h₁ wr → (∀ p ∈ wr, p.1 < L') →
      Top viewQ (looseW viewQ [Str.ofString "PostError"]) mean mg mb g → dp + d < recursionLimit → un + 8 * d < cLine →
      Pre h0 → Kp (wr.map (·.1)) h0 g → (∀ p ∈ wr, h0.get? p.1 = some p.2) →
      wpAny (model Challenge.rw_no0370_01.row.prog w) ((ktrTop dp un gd cn cs L a ccd cl outer).deeper (envOf qual scope L' f cdv)) (execs body (envOf qual scope L' f cdv))
        (fun fl s' => Done g s (fun v h' => Post h0 h' v) (match fl with | .ret v => v | _ => .none) s') (fun _ _ => False) { s with heap := h₁, toks := tk }) :
    ConI w mean mg mb d (.ref f) args wr Pre Post := by
  intro dp un gd cn cs a ccd cl outer A₀ base h₀ L m s R B F X N T hke hd hu hpre hQ
  obtain ⟨FG, BG, st, _⟩ := groundX (A := ktrTop dp un gd cn cs L a ccd cl outer) (env := envX cn cs L a ccd cl) (R := fun _ _ => True) B F N rfl rfl hke
  have hKg : Kp (wr.map (·.1)) s.heap (hideAll s.heap (wr.map (·.1))) := fun b o hb e => hideAll_get _ e hb
  refine codeAny_call_def (fd := fnOf name qual params body scope dV kV doc pm an cdv ct) (body := body) (binds := binds) (by show dp < recursionLimit; omega) ((X.keeps F.keep) _ _ ho) rfl (T.nolimit.keeps F.keep)
    (codeRec_of (X.keeps F.keep) hcd) rfl (hbind s (X.keeps F.keep)) hcell hloc (fun h₁ hns hk₁ => ?_) hco hgen hk
  have FB : Fr (hideAll s.heap (wr.map (·.1))) s.heap.objs.size h₁ (fun y => binds.reverse.lookup y) := ⟨hns, fun b o e => hk₁ b o (of_hideAll _ e), Nat.le_of_eq (hideAll_size _ _)⟩
  have NB : News (hideAll s.heap (wr.map (·.1))) s.heap.objs.size h₁ wr := fun p hp => ⟨hk₁ _ _ (N p hp).1, Nat.ne_of_lt (Heap.lt_size (N p hp).1), hideAll_none _ (List.mem_map_of_mem hp)⟩
  refine wpAny_mono (h dp un gd cn cs L a ccd cl outer base s.heap _ h₁ s.heap.objs.size _ s BG FB (X.keeps st) NB (fun p hp => Heap.lt_size (N p hp).1) (T.keeps st) hd hu hpre hKg (fun p hp => (N p hp).1)) (fun fl s' hl => ?_) fun _ _ e => e.elim
  obtain ⟨L', m', h', tk', rfl, F', p⟩ := hl
  exact hQ _ _ _ (fun b o hb e => F'.keep b o (hKg b o hb e)) p
end
theorem off_V4 : True ∧ True := by
  first
  | (walk1; all_goals trivial)
  | exact ⟨trivial, trivial⟩
section

local macro_rules | `(tactic| walk_at "MY_IENTER") => `(tactic| (
  (refine' con_defI ?ho ?hcd ?hb ?hl ?hc ?c1 ?c2 ?c3 ?hh)
  (case' hh => k_fill)
  (case ho => k_is)
  (case hcd => k_is)
  (case hb => (intro s X; first | exact BindsTo.of_eq rfl | exact binds_K X rfl (by k_is) rfl rfl rfl))
  (case hl => exact locs rfl)
  (case hc => decide)
  (case c1 => exact rfl)
  (case c2 => exact rfl)
  (case c3 => exact rfl)
  k_whole))
theorem news_cut {h₀ h : Heap} {L : Addr} {a b : Addr × Obj} {T rest : List (Addr × Obj)} (N : News h₀ L h (a :: b :: (T ++ rest))) : News h₀ L h (a :: rest) := fun q hq => by
  rcases List.mem_cons.mp hq with rfl | hq
  · exact N _ (.head _)
  · exact N _ (.tail _ (.tail _ (List.mem_append_right _ hq)))
/-- rows (uid, x), as a comprehension makes them -/
def TupRows (T : List (Addr × Obj)) (us : List Int) (ys : List Value) : Prop := ∀ (j : Nat) v, ys[j]? = some v → ∃ b t x, v = .ref b ∧ (b, tupO #[.int (us.getD j 0) t, x]) ∈ T
theorem TupRows.snoc {T : List (Addr × Obj)} {us : List Int} {ys : List Value} {b : Addr} {u : Int} {t : Tok} {x : Value} {i : Nat} (r : TupRows T us ys) (hi : ys.length = i) (hu : us[i]? = some u) : TupRows ((b, tupO #[.int u t, x]) :: T) us (ys ++ [.ref b]) := by
  intro j v e
  rcases Nat.lt_trichotomy j ys.length with hj | hj | hj
  · rw [List.getElem?_append_left hj] at e
    obtain ⟨b', t', x', e1, e2⟩ := r j v e
    exact ⟨b', t', x', e1, .tail _ e2⟩
  · subst hj
    rw [List.getElem?_append_right (Nat.le_refl _)] at e
    simp at e
    subst e
    refine ⟨b, t, x, rfl, ?_⟩
    rw [hi, show us.getD i 0 = u by simp [List.getD, hu]]
    exact .head _
  · rw [List.getElem?_append_right (Nat.le_of_lt hj), show j - ys.length = (j - ys.length - 1) + 1 by omega] at e
    simp at e
def toks7 (a b c d e f g : Tok) : Nat → Tok
  | 0 => a
  | 1 => b
  | 2 => c
  | 3 => d
  | 4 => e
  | 5 => f
  | _ => g
/-- what a View's __init__ leaves -/
def InitPost (w : World) (dv box : Addr) (us : List Int) (h h' : Heap) (v : Value) : Prop :=
  v = .none ∧ ∃ k ul fd md xs c fo mo k1 k2, h'.get? dv = some (viewO w k box ul fd md) ∧ FreshL h h' [(ul, listOf (List.toArray xs) c), (fd, fo), (md, mo)] ∧ IntsAre xs us ∧
    fo.IsDictOf (intKind Challenge.rw_no0370_01.row.prog w) k1 ∧ mo.IsDictOf (intKind Challenge.rw_no0370_01.row.prog w) k2 ∧ (∀ j, j < us.length → us.getD j 0 ∈ k1.map (·.1)) ∧ (∀ j, j < us.length → us.getD j 0 ∈ k2.map (·.1)) ∧
    ul ≠ fd ∧ ul ≠ md ∧ fd ≠ md
theorem init_con (w : World) (mean : ExcName → Option Value) (mg mb : Str → Option Value) (k : Nat → Tok) (box d : Addr) (tn tv : Tok) (nu : Int) (t2 : Tok) (tp : Int) (t3 t4 : Tok) (ll gl : Addr) (vs : List Value) (c : Nat) (us : List Int) (view dv : Addr) :
    ConI w mean mg mb 4 (.ref 55) [.ref view, .ref box, .bool true, .bool false, .bool false] [(dv, dictOf [] 0)] (fun h => h.get? view = some (instObj 87 dv) ∧ BoxAt w k h box d tn tv nu t2 tp t3 t4 ll gl vs c us ∧ us.length ≤ 90) (InitPost w dv box us) := by
  walk_at "MY_IENTER"
  intro dp un gd cn cs L a ccd cl outer base h0 g h₁ L' tk s B F X N lN T hd hu hpre hk hw
  (try dsimp only)
  obtain ⟨hv0, ⟨hb0, hb1, hb2, hb4, hb5⟩, hlen⟩ := hpre
  have hd0 := hw _ (.head _)
  have kd : ∀ b o, h0.get? b = some o → o.data ≠ (dictOf [] 0).data → g.get? b = some o := fun b o e hne => hk b o (by simpa using ne_of_objs e hd0 hne) e
  have hv1 := kd _ _ hv0 (by intro e; cases e)
  have hb01 := kd _ _ hb0 (by intro e; cases e)
  have hb11 := kd _ _ hb1 (by intro e; cases e)
  have hb21 := kd _ _ hb2 (by intro e; cases e)
  have hL1 : Lets w (HR g) vs us := ⟨hb4, fun i v e => by
    obtain ⟨u, e1, al, dl, kl, tl, oc, fl, ins, ms, tm, e2, e3, e4⟩ := hb5 i v e
    exact ⟨u, e1, al, dl, kl, tl, oc, fl, ins, ms, tm, e2, kd _ _ e3 (by intro q; cases q), kd _ _ e4 (by intro q; cases q)⟩⟩
  k_steps
  unfold Stop
  rename News _ _ _ _ => N5
  refine Con.use (box_uids_con _ _ _ _ k box d tn tv nu t2 tp t3 t4 ll gl vs c us) (by k_asm) (by k_asm) (by k_asm) (by k_asm) (by k_asm) rfl (by ktr_room) (by ktr_units)
      ⟨⟨by walk_at "MY_OBJ", by walk_at "MY_OBJ", by walk_at "MY_OBJ", hL1.mono fun a o e => by walk_at "MY_OBJ"⟩, hlen⟩ ?_
  intro v h9 tk9 K9 F9 N9 hP
  obtain ⟨ul, xs, c9, rfl, hu9, hu9', hi9⟩ := hP
  have a9 := neN (kp_apart N5 hu9 _ (.head _))
  have N9 := kp_add (by k_asm) N9 hu9 hu9'
  k_steps
  unfold Stop
  rename Fr _ _ _ _ => F2
  rename News _ _ _ _ => N2
  refine LCg.ListComp_U F2 (by with_unfolding_all rfl) (by decide) (by rfl) (by decide) (by rfl) ?_
  k_steps
  (try unfold Stop)
  refine LCg.CompSrc.base (by rfl) (by k_asm) N2 (PySem.IsL.isList hb21) (by rw [List.size_toArray, sizeLine_eq, hL1.1]; omega) fun g' => ?_
  refine crest (fun i ys nw => ys.length = i ∧ ∃ TT, nw = TT ++ _ ∧ TupRows TT us ys) ?_ ?_ ⟨rfl, [], rfl, fun j v e => by simp at e⟩
  · rintro j v2 I2 oI2 C oC D m2 ys nw h3 tk3 E' hj hv2 ⟨hyl, TT, rfl, hys⟩ hNs hx F3 N3 off ne
    obtain ⟨u, hu2, al, dl, kl, tl, oc, fl, ins, ms, tm, rfl, hl1, hl2⟩ := hL1.2 j v2 (by simpa using hv2)
    k_steps
    unfold Stop
    rename Fr _ _ _ _ => F8
    rename News _ _ _ _ => N8
    obtain ⟨D9, eD⟩ := news_a0 N8
    subst eD
    have q1 : @Ne Nat D9 I2 := by k_ne
    have q2 : @Ne Nat D9 C := by k_ne
    have q3 : @Ne Nat D9 D := by k_ne
    refine LCg.CompEnd.intro F8 N8 _ ?_ (show LCg.Off3 I2 C D ((D9, tupO #[.int u tl, .ref fl]) :: (TT ++ _)) from ⟨⟨q1, q2, q3⟩, off⟩) (.inl (PySem.IsL.isList hb21)) ⟨by simp [hyl], (D9, tupO #[.int u tl, .ref fl]) :: TT, rfl, hys.snoc hyl hu2⟩
    exact List.forall_mem_cons.mpr ⟨.tail _ (.head _), List.forall_mem_cons.mpr ⟨.tail _ (.tail _ (.head _)), List.forall_mem_cons.mpr ⟨.tail _ (.tail _ (.tail _ (.head _))), List.forall_mem_cons.mpr ⟨.head _, fun q hq => .tail _ (.tail _ (.tail _ (.tail _ hq)))⟩⟩⟩⟩
  rintro ys nw ⟨hyl, TT, rfl, hys⟩
  intro D h4 tk4 F4 N4 o4
  rw [List.size_toArray] at hyl
  clear F2 N2
  k_steps
  (try unfold Stop)
  refine dict_list_K (ns := us) rfl F4 N4 T.nolimit (N4 _ (.head _)).1 (fun i v e => by obtain ⟨b, t, x, e1, e2⟩ := hys i v e; exact ⟨b, t, x, e1, (N4 _ (.tail _ (List.mem_append_left _ e2))).1⟩) (by rw [hyl, hL1.1]; omega) ?_
  intro d1 h5 tk5 o1 kv1 F5 N5 l5 lo1 hd1 hk1
  replace hk1 : ∀ j, j < us.length → us.getD j 0 ∈ kv1.map (·.1) := fun j hj => hk1 j (by rw [hyl, hL1.1]; exact hj)
  have p1 := neN (Nat.ne_of_gt (l5 _ (.tail _ (List.mem_append_right _ (.head _)))))
  have p2 := neN (Nat.ne_of_gt (l5 _ (.tail _ (List.mem_append_right _ (.tail _ (.head _))))))
  clear F4 N4
  replace N5 := news_cut N5
  k_steps
  unfold Stop
  rename Fr _ _ _ _ => F2
  rename News _ _ _ _ => N2
  refine LCg.ListComp_U F2 (by with_unfolding_all rfl) (by decide) (by rfl) (by decide) (by rfl) ?_
  k_steps
  (try unfold Stop)
  refine LCg.CompSrc.base (by rfl) (by k_asm) N2 (PySem.IsL.isList hb21) (by rw [List.size_toArray, sizeLine_eq, hL1.1]; omega) fun g' => ?_
  refine crest (fun i ys nw => ys.length = i ∧ ∃ TT, nw = TT ++ _ ∧ TupRows TT us ys) ?_ ?_ ⟨rfl, [], rfl, fun j v e => by simp at e⟩
  · rintro j v2 I2 oI2 C oC D m2 ys nw h3 tk3 E' hj hv2 ⟨hyl, TT, rfl, hys⟩ hNs hx F3 N3 off ne
    obtain ⟨u, hu2, al, dl, kl, tl, oc, fl, ins, ms, tm, rfl, hl1, hl2⟩ := hL1.2 j v2 (by simpa using hv2)
    k_steps
    unfold Stop
    rename Fr _ _ _ _ => F8
    rename News _ _ _ _ => N8
    obtain ⟨D9, eD⟩ := news_a0 N8
    subst eD
    have q1 : @Ne Nat D9 I2 := by k_ne
    have q2 : @Ne Nat D9 C := by k_ne
    have q3 : @Ne Nat D9 D := by k_ne
    refine LCg.CompEnd.intro F8 N8 _ ?_ (show LCg.Off3 I2 C D ((D9, tupO #[.int u tl, .int ms tm]) :: (TT ++ _)) from ⟨⟨q1, q2, q3⟩, off⟩) (.inl (PySem.IsL.isList hb21)) ⟨by simp [hyl], (D9, tupO #[.int u tl, .int ms tm]) :: TT, rfl, hys.snoc hyl hu2⟩
    exact List.forall_mem_cons.mpr ⟨.tail _ (.head _), List.forall_mem_cons.mpr ⟨.tail _ (.tail _ (.head _)), List.forall_mem_cons.mpr ⟨.tail _ (.tail _ (.tail _ (.head _))), List.forall_mem_cons.mpr ⟨.head _, fun q hq => .tail _ (.tail _ (.tail _ (.tail _ hq)))⟩⟩⟩⟩
  rintro ys nw ⟨hyl, TT, rfl, hys⟩
  intro D h4 tk4 F4 N4 o4
  rw [List.size_toArray] at hyl
  clear F2 N2
  k_steps
  (try unfold Stop)
  refine dict_list_K (ns := us) rfl F4 N4 T.nolimit (N4 _ (.head _)).1 (fun i v e => by obtain ⟨b, t, x, e1, e2⟩ := hys i v e; exact ⟨b, t, x, e1, (N4 _ (.tail _ (List.mem_append_left _ e2))).1⟩) (by rw [hyl, hL1.1]; omega) ?_
  intro d2 h5 tk5 o2 kv2 F5 N5 l5 lo2 hd2 hk2
  replace hk2 : ∀ j, j < us.length → us.getD j 0 ∈ kv2.map (·.1) := fun j hj => hk2 j (by rw [hyl, hL1.1]; exact hj)
  have p3 := neN (Nat.ne_of_gt (l5 _ (.tail _ (List.mem_append_right _ (.head _)))))
  have p4 := neN (Nat.ne_of_gt (l5 _ (.tail _ (List.mem_append_right _ (.tail _ (.head _))))))
  have p5 := neN (Nat.ne_of_gt (l5 _ (.tail _ (List.mem_append_right _ (.tail _ (.tail _ (.head _)))))))
  clear F4 N4
  replace N5 := news_cut N5
  k_steps
  rename News _ _ _ _ => NE
  have fr : ∀ b, g.get? b = none → b ≠ dv → h0.get? b = none := fun b hb hne => by
    cases e : h0.get? b with
    | none => rfl
    | some o => have := hk b o (by simpa using hne) e; rw [hb] at this; cases this
  have z1 : @Ne Nat ul dv := Ne.symm a9
  exact Done.intro (by assumption) ⟨rfl, toks7 _ _ _ _ _ _ _, ul, d1, d2, xs, c9, o1, o2, kv1, kv2, (NE _ (.tail _ (.tail _ (.tail _ (.head _))))).1,
    List.forall_mem_cons.mpr ⟨⟨fr _ (NE _ (.tail _ (.tail _ (.head _)))).2.2 z1, (NE _ (.tail _ (.tail _ (.head _)))).1⟩, List.forall_mem_cons.mpr ⟨⟨fr _ (NE _ (.tail _ (.head _))).2.2 p2, (NE _ (.tail _ (.head _))).1⟩,
      List.forall_mem_cons.mpr ⟨⟨fr _ (NE _ (.head _)).2.2 p5, (NE _ (.head _)).1⟩, fun p hp => nomatch hp⟩⟩⟩, hi9, hd1, hd2, hk1, hk2, Ne.symm p1, Ne.symm p4, Ne.symm p3⟩
end
theorem off_V5 : True ∧ True := by
  first
  | (walk1; all_goals trivial)
  | exact ⟨trivial, trivial⟩
section

theorem item_D {prog : Program} {w : World} {A : Around} {E : Value → Shared → Prop} {s : Shared} {d : Addr} {o : Obj} {kvs : List (Int × Value)} {k : Int} {t : Tok} {x : Value} {value slice : PySem.Expr} {Q : Value → Shared → Prop}
    (hg : s.heap.get? d = some o) (hd : o.IsDictOf (intKind prog w) kvs) (hl : valueAt kvs k = some x) (h : Q x { s with toks := s.toks + 1 })
    (hs : subscripted slice false (.ref d) (.int k t) = operate [.ref d, (.int k t)] (getItem (.ref d) (.int k t)) := by with_unfolding_all rfl) : wpAny (model prog w) A (subscriptTail value slice (.ref d) (.int k t)) Q E s :=
  have hD : s.heap.DictOf (intKind prog w) d kvs := Heap.dictOf_iff.mpr ⟨o, hg, hd⟩
  tail_any hD.typeIs slot_dict_getitem.lookup (wpAny_getItem_of (intKind_is _ _ _ _) hD.mapOf hl h) hs
local macro_rules | `(tactic| walk_at "subscriptTail") => `(tactic| (k_here; (with_reducible show wpAny _ _ (subscriptTail _ _ (Value.ref _) (Value.int _ _)) _ _ _); k_dflt (refine' item_D ?m ?d ?l ?_ ?hs; (case m => walk_at "MY_OBJ"); (case d => with_reducible assumption); (case l => with_reducible assumption); (case hs => with_unfolding_all rfl); k_whole)))
/-- rows (uid, x, y) -/
def TupRowsX (T : List (Addr × Obj)) (us : List Int) (ys : List Value) : Prop := ∀ (j : Nat) v, ys[j]? = some v → ∃ b t x y, v = .ref b ∧ (b, tupO #[.int (us.getD j 0) t, x, y]) ∈ T
theorem TupRowsX.snoc {T : List (Addr × Obj)} {us : List Int} {ys : List Value} {b : Addr} {u : Int} {t : Tok} {x y : Value} {i : Nat} (r : TupRowsX T us ys) (hi : ys.length = i) (hu : us[i]? = some u) : TupRowsX ((b, tupO #[.int u t, x, y]) :: T) us (ys ++ [.ref b]) := by
  intro j v e
  rcases Nat.lt_trichotomy j ys.length with hj | hj | hj
  · rw [List.getElem?_append_left hj] at e
    obtain ⟨b', t', x', y', e1, e2⟩ := r j v e
    exact ⟨b', t', x', y', e1, .tail _ e2⟩
  · subst hj
    rw [List.getElem?_append_right (Nat.le_refl _)] at e
    simp at e
    subst e
    refine ⟨b, t, x, y, rfl, ?_⟩
    rw [hi, show us.getD i 0 = u by simp [List.getD, hu]]
    exact .head _
  · rw [List.getElem?_append_right (Nat.le_of_lt hj), show j - ys.length = (j - ys.length - 1) + 1 by omega] at e
    simp at e
def DictAt (w : World) (h : Heap) (d : Addr) (us : List Int) : Prop := ∃ o kvs, h.get? d = some o ∧ o.IsDictOf (intKind Challenge.rw_no0370_01.row.prog w) kvs ∧ ∀ j, j < us.length → us.getD j 0 ∈ kvs.map (·.1)
def ToldPost (ns : List Int) (h h' : Heap) (v : Value) : Prop :=
  ∃ b ws T, v = .ref b ∧ FreshL h h' ((b, tupO (List.toArray ws)) :: T) ∧ ws.length = ns.length ∧ TupRowsX T ns ws
theorem told_con (w : World) (mean : ExcName → Option Value) (mg mb : Str → Option Value) (k : Nat → Tok) (view dv box ul fd md : Addr) (xs : List Value) (ns : List Int) (c0 : Nat) :
    Con w mean mg mb 2 (.ref 84) [.ref view] [] (fun h => ViewAt w k h view dv box ul fd md xs c0 ∧ IntsAre xs ns ∧ ns.length ≤ 90 ∧ DictAt w h fd ns ∧ DictAt w h md ns) (ToldPost ns) := by
  walk_at "MY_CENTER"
  intro dp un gd cn cs L a ccd cl outer base h0 g h₁ L' tk cells s B F X N Y lN T hd hu hpre hk hw
  k_cells Y
  (try simp only [List.cons_append, List.nil_append] at N)
  (try dsimp only)
  obtain ⟨hv0, hxs, hlen, ⟨fo, k1, hf0, hf1, hf2⟩, ⟨mo, k2, hm0, hm1, hm2⟩⟩ := hpre
  obtain ⟨hv1, hv2, hul⟩ := hv0.keeps hk
  have hfd : g.get? fd = some fo := hk _ _ (by simp) hf0
  have hmd : g.get? md = some mo := hk _ _ (by simp) hm0
  have hxl := hxs.length
  have hul2 : g.IsList ul xs.toArray := PySem.IsL.isList hul
  k_steps
  unfold Stop
  rename Fr _ _ _ _ => F2
  rename News _ _ _ _ => N2
  obtain ⟨oc, eo⟩ := news_o0 N2
  subst eo
  refine LCg.ListComp_U F2 (by with_unfolding_all rfl) (by decide) (by rfl) (by decide) (by rfl) ?_
  k_steps
  (try unfold Stop)
  refine LCg.CompSrc.base (by rfl) (by k_asm) N2 hul2 (by rw [List.size_toArray, sizeLine_eq]; omega) fun g' => ?_
  refine crest (fun i ys nw => ys.length = i ∧ ∃ TT, nw = (L' + 1, oc) :: TT ∧ TupRowsX TT ns ys) ?_ ?_ ⟨rfl, [], rfl, fun j v e => by simp at e⟩
  · rintro j v2 I2 oI2 C oC D m2 ys nw h3 tk3 E' hj hv2 ⟨hyl, TT, rfl, hys⟩ hNs hx F3 N3 off ne
    obtain ⟨u, tu, rfl, hu2⟩ := ints_get hxs (by simpa using hv2)
    have hj2 : j < ns.length := (List.getElem?_eq_some_iff.mp hu2).1
    have hge : ns.getD j 0 = u := by simp [List.getD, hu2]
    obtain ⟨xf, hxf⟩ := Option.isSome_iff_exists.mp (valueAt_isSome.mpr (hge ▸ hf2 j hj2))
    obtain ⟨xm, hxm⟩ := Option.isSome_iff_exists.mp (valueAt_isSome.mpr (hge ▸ hm2 j hj2))
    k_steps
    unfold Stop
    rename Fr _ _ _ _ => F8
    rename News _ _ _ _ => N8
    obtain ⟨D9, eD⟩ := news_a0 N8
    subst eD
    have q1 : @Ne Nat D9 I2 := by k_ne
    have q2 : @Ne Nat D9 C := by k_ne
    have q3 : @Ne Nat D9 D := by k_ne
    refine LCg.CompEnd.intro F8 N8 _ ?_ (show LCg.Off3 I2 C D ((L' + 1, oc) :: (D9, tupO #[.int u tu, xf, xm]) :: TT) from ⟨off.1, ⟨q1, q2, q3⟩, off.2⟩) (.inl hul2) ⟨by simp [hyl], (D9, tupO #[.int u tu, xf, xm]) :: TT, rfl, hys.snoc hyl hu2⟩
    exact List.forall_mem_cons.mpr ⟨.tail _ (.head _), List.forall_mem_cons.mpr ⟨.tail _ (.tail _ (.head _)), List.forall_mem_cons.mpr ⟨.tail _ (.tail _ (.tail _ (.head _))), List.forall_mem_cons.mpr ⟨.tail _ (.tail _ (.tail _ (.tail _ (.head _)))), List.forall_mem_cons.mpr ⟨.head _, fun q hq => .tail _ (.tail _ (.tail _ (.tail _ (.tail _ hq))))⟩⟩⟩⟩⟩
  rintro ys nw ⟨hyl, TT, rfl, hys⟩
  intro D h4 tk4 F4 N4 o4
  rw [List.size_toArray] at hyl
  clear F2 N2
  k_steps
  rename Fr _ _ _ _ => F9
  rename News _ _ _ _ => N9
  obtain ⟨D6, eD⟩ := news_a0 N9
  subst eD
  (try dsimp only)
  refine Done.intro F9 ⟨D6, ys, TT, rfl, fun q hq => ?_, by omega, hys⟩
  have : q ∈ (D6, tupO ys.toArray) :: (D, LCg.lst ys) :: (L' + 1, oc) :: TT := by
    rcases List.mem_cons.mp hq with rfl | hq
    · exact .head _
    · exact .tail _ (.tail _ (.tail _ hq))
  exact ⟨fresh_of hk (N9 _ this).2.2, (N9 _ this).1⟩
end
local macro_rules | `(tactic| walk_at $k:str) => if ["compareOp NotEq ref ref", "compareOp Eq ref ref", "call builtin:max", "compareOp NotIn int ref", "compareOp In int ref", "call builtin:list.index"].contains k.getString then `(tactic| (k_here; refine stopHere ?_)) else Lean.Macro.throwUnsupported
section
/-- the law's def: its body and its scope -/
def lawOf : Stmt → Option (List Stmt × Scope)
  | .FunctionDef _ _ b _ _ _ sc _ _ _ => some (b, sc)
  | _ => none
def lawFn : Option (List Stmt × Scope) := (Challenge.pw_no0370_01.main.body.getLast?).bind lawOf
end
section
theorem fr_re {h₀ h : Heap} {L : Addr} {m : Str → Option Value} {ps : List (Str × Value)} (hp : ∀ p ∈ ps, m p.1 = some p.2) (F : Fr h₀ L h m) : Fr h₀ L h (kstB m ps) := by
  have e : kstB m ps = m := funext fun z => kstB_eq hp fun _ => rfl
  rw [e]; exact F
theorem ksH_kst0 {names : List Str} {z : Str} {m : Str → Option Value} {r : Option Value} (H : ∀ n, names.contains n = true → z ≠ n) : ∀ {ps : List (Str × Value)}, (ps.all fun p => names.contains p.1) = true → m z = r → kstB m ps z = r
  | [], _, h => h
  | p :: q, h2, h => by
    simp only [List.all_cons, Bool.and_eq_true] at h2
    show (if z = p.1 then some p.2 else kstB m q z) = r
    rw [if_neg (H _ h2.1)]
    exact ksH_kst0 H h2.2 h
/-- the For of the inner loop of the first loop -/
def lawIn : Option (Stmt × Scope) := match lawFn with
  | some (_ :: _ :: _ :: .For _ _ (st :: _) _ _ :: _, sc) => some (st, sc)
  | _ => none
def lawAt (i : Nat) : Option (Stmt × Scope) := match lawFn with
  | some (b, sc) => match b.drop i with
    | st :: _ => some (st, sc)
    | _ => none
  | _ => none
/-- the i-th statement of the second loop's body, of the third's -/
def lawLap (i : Nat) : Option (Stmt × Scope) := match lawAt 7 with
  | some (.For _ _ b _ _, sc) => match b.drop i with
    | st :: _ => some (st, sc)
    | _ => none
  | _ => none
def lawNum (i : Nat) : Option (Stmt × Scope) := match lawAt 8 with
  | some (.For _ _ b _ _, sc) => match b.drop i with
    | st :: _ => some (st, sc)
    | _ => none
  | _ => none
theorem lets_news {w : World} {h₀ h : Heap} {L : Addr} {l T : List (Addr × Obj)} {vs : List Value} {us : List Int} (N : News h₀ L h l) (hL : Lets w (fun a o => (a, o) ∈ T) vs us) (hs : ∀ q ∈ T, q ∈ l) : Lets w (HR h) vs us :=
  hL.mono fun a o e => (N _ (hs _ e)).1
theorem bs_nums {lim i gsl : Nat} {us : List Int} {nu r1 : Int} {vsl : Nat} (h1 : us.length ≤ lim + i) (h2 : gsl ≤ 20 * (lim + i)) (hl : lim ≤ 12) (hr0 : 0 ≤ r1) (hr1 : r1 < 2) (hi : i < (1 + r1).toNat) (hnu : 1 ≤ nu) (hv : vsl = us.length) :
    (us ++ [nu]).length ≤ lim + (i + 1) ∧ (us ++ [nu]).length ≤ 90 ∧ gsl ≤ 1000 ∧ gsl ≤ 20 * (lim + (i + 1)) ∧ gsl + (us ++ [nu]).length ≤ 20 * (lim + (i + 1)) ∧ 1 ≤ nu + 1 ∧ vsl ≤ 90 := by
  rw [List.length_append, List.length_singleton]
  omega
theorem bs_bd {us : List Int} {nu : Int} (hbd : ∀ u ∈ us, 1 ≤ u ∧ u < nu) (hnu : 1 ≤ nu) : ∀ u ∈ us ++ [nu], 1 ≤ u ∧ u < nu + 1 := fun u hu => by
  rcases List.mem_append.mp hu with hu | hu
  · have := hbd u hu; omega
  · rw [List.mem_singleton.mp hu]; omega
abbrev GlobAt (mg mb : Str → Option Value) (g : Heap) : Prop := Glob 0 mg mb (List.map itemOf (recsOf viewQ)) (scalarsOf [] ++ constsW viewQ) [] (namesW viewQ [Str.ofString "PostError"]) g
/-- the box as the first loop turns it -/
structure BS where
  nu : Int
  t2 : Tok
  tp : Int
  t3 : Tok
  ll : Addr
  gl : Addr
  vs : List Value
  c : Nat
  us : List Int
  gs : List Value
  cg : Nat
  T : List (Addr × Obj)
def BFa (w : World) (box d pen cl : Addr) (R : List (Addr × Obj)) (lim : Nat) (c : BS) : Prop :=
  c.us.Pairwise (· < ·) ∧ (∀ u ∈ c.us, 1 ≤ u ∧ u < c.nu) ∧ 1 ≤ c.nu ∧ c.us.length ≤ lim ∧ c.gs.length ≤ 20 * lim ∧
  OwnOff c.T [box, d, c.ll, c.gl, pen, cl] ∧ (∃ T0, c.T = T0 ++ R ∧ OwnOff T0 (R.map (·.1)) ∧ Lets w (fun a o => (a, o) ∈ T0) c.vs c.us) ∧
  (@Ne Nat c.ll c.gl) ∧ (@Ne Nat c.ll box) ∧ (@Ne Nat c.ll d) ∧ (@Ne Nat c.ll pen) ∧ (@Ne Nat c.ll cl) ∧ (@Ne Nat c.gl box) ∧ (@Ne Nat c.gl d) ∧ (@Ne Nat c.gl pen) ∧ (@Ne Nat c.gl cl)
end
local macro_rules | `(tactic| walk_at "MY_SAME") => `(tactic| (intro z h2 h3; have H := ks_H h2 h3; clear h2 h3; (try dsimp only); (repeat (first | (with_reducible exact rfl) | refine ksH_if H rfl ?_ | refine ksH_kst H rfl rfl ?_ | refine ksH_kst0 H rfl ?_))))
section

theorem BFa.mono {w : World} {box d pen cl : Addr} {R : List (Addr × Obj)} {lim lim' : Nat} {c : BS} (h : BFa w box d pen cl R lim c) (hl : lim ≤ lim') : BFa w box d pen cl R lim' c :=
  let ⟨a2, a3, a4, a5, a6, a7⟩ := h
  ⟨a2, a3, a4, by omega, by omega, a7⟩
theorem loop_in {w : World} {mean : ExcName → Option Value} {mg mb : Str → Option Value} {g : Heap} {fa ca L' : Addr} {m₀ : Str → Option Value} {st : Stmt} {sc : Scope} {s : Shared} {Q : Flow → Shared → Prop}
    {k : Nat → Tok} {tn tv t4 : Tok} {box d pen cl : Addr} {sp pw : Int} {t tw : Tok} {n c0 : Nat} {cs : List Value} {ns : List Int} {R : List (Addr × Obj)} {lim : Nat} {c : BS}
    (hlaw : lawIn = some (st, sc)) (K0 : Below callerA g [] g) (F : Fr g L' s.heap (kstB m₀ [(Str.ofString "pen", .ref pen), (Str.ofString "box", .ref box)])) (X : (hd.heap_1 w.params).In g)
    (N : News g L' s.heap ((box, instObj 235 d) :: (d, boxO w k tn tv c.nu c.t2 c.tp c.t3 t4 c.ll c.gl) :: (c.ll, listOf (List.toArray c.vs) c.c) :: (c.gl, listOf (List.toArray c.gs) c.cg) :: (pen, penO cl sp t pw tw n) :: (cl, listOf cs.toArray c0) :: c.T))
    (T : Top viewQ (looseW viewQ [Str.ofString "PostError"]) mean mg mb g) (GL : GlobAt mg mb g) (hcs : IntsAre cs ns) (hns : ns.length ≤ 100) (hsp : 0 ≤ sp ∧ sp ≤ 900) (hpw : 0 ≤ pw ∧ pw ≤ 1000)
    (e1 : @Ne Nat box d) (e2 : @Ne Nat box pen) (e3 : @Ne Nat box cl) (e4 : @Ne Nat d pen) (e5 : @Ne Nat d cl) (e6 : @Ne Nat pen cl)
    (hf : BFa w box d pen cl R lim c) (hlim : lim ≤ 12)
    (hQ : ∀ (c' : BS) (t' : Tok) (u : Str → Option Value) (h' : Heap) (tk' : Nat), BFa w box d pen cl R (lim + 2) c' → Fr g L' h' (kstB (fun z => if ([Str.ofString "more", Str.ofString "letter"] : List Str).contains z then u z else kstB m₀ [(Str.ofString "pen", .ref pen), (Str.ofString "box", .ref box)] z) [(Str.ofString "pen", .ref pen), (Str.ofString "box", .ref box)]) →
      News g L' h' ((box, instObj 235 d) :: (d, boxO w k tn tv c'.nu c'.t2 c'.tp c'.t3 t4 c'.ll c'.gl) :: (c'.ll, listOf (List.toArray c'.vs) c'.c) :: (c'.gl, listOf (List.toArray c'.gs) c'.cg) :: (pen, penO cl (sp + 1) t' pw tw n) :: (cl, listOf cs.toArray c0) :: c'.T) →
      Q .next { s with heap := h', toks := tk' }) :
    wpAny (model Challenge.rw_no0370_01.row.prog w) (callerA.deeper (envOfC (Str.ofString "law") sc L' fa (.ref ca))) (exec st (envOfC (Str.ofString "law") sc L' fa (.ref ca))) Q (fun _ _ => False) s := by
  obtain ⟨hb, hs⟩ := Prod.mk.inj (Option.some.inj ((show lawIn = some (_, _) from rfl).symm.trans hlaw))
  subst hb hs
  clear hlaw
  revert X
  k_fill
  intro X
  obtain ⟨nu, t2, tp, t3, ll, gl, vs, cc, us, gs, cg, TT⟩ := c
  obtain ⟨hasc, hbd, hnu, hul, hgl, hT, ⟨T0, hT0, hT1, hL0⟩, n1, n2, n3, n4, n5, n6, n7, n8, n9⟩ := hf
  dsimp only at hL0 hasc hbd hnu hul hgl hT hT0 hT1 n1 n2 n3 n4 n5 n6 n7 n8 n9 N
  refine For_turns F ?_ (by intro x; rfl) (by passes_own)
  k_steps
  unfold Stop
  refine' draw_useU ?B ?F ?X ?N ?T ?hk ?hd ?hu ?U ?hcl hcs hns ?hb ?k0
  walk_at "MY_CON"
  case U => k_updF
  case hcl => walk_at "MY_OBJ"
  case hb => omega
  intro r1 tr1 t1 h9 tk9 hr0 hr1 K9 F9 N9
  (try dsimp only at N9)
  clear F N
  k_steps
  rename IsRange _ _ _ _ _ _ _ _ => hR
  rename Fr _ _ _ _ => F2
  rename News _ _ _ _ => N2
  have hsm : Builtin.Range.small 0 (1 + r1) 1 = true ∧ Builtin.Range.rangeSize 0 (1 + r1) 1 = (((1 + r1).toNat : Nat) : Int) := by
    have : r1 = 0 ∨ r1 = 1 := by omega
    rcases this with e | e <;> subst e <;> exact ⟨by decide +kernel, by decide +kernel⟩
  refine' iterS_range (σ := BS) [Str.ofString "more", Str.ofString "letter"] (fun _ _ => [(Str.ofString "pen", .ref pen), (Str.ofString "box", .ref box)])
    (fun _ c' => (box, instObj 235 d) :: (d, boxO w k tn tv c'.nu c'.t2 c'.tp c'.t3 t4 c'.ll c'.gl) :: (c'.ll, listOf (List.toArray c'.vs) c'.c) :: (c'.gl, listOf (List.toArray c'.gs) c'.cg) :: (pen, penO cl (sp + 1) t1 pw tw n) :: (cl, listOf cs.toArray c0) :: c'.T)
    (fun i c' => BFa w box d pen cl R (lim + i) c') ⟨nu, t2, tp, t3, ll, gl, vs, cc, us, gs, cg, TT⟩
    rfl F2 N2 ?g1 ?g2 ?g3 hR hsm.1 hsm.2 (by intro it v; rfl) ?g4 ?g5
  case g1 => intro p hp; exact hp
  case g2 => exact ⟨hasc, hbd, hnu, hul, hgl, hT, ⟨T0, hT0, hT1, hL0⟩, n1, n2, n3, n4, n5, n6, n7, n8, n9⟩
  case g3 => intro p hp; rcases List.mem_cons.mp hp with rfl | hp; rfl; rw [List.mem_singleton.mp hp]; rfl
  case g5 =>
    intro c' u h tk hf' F' N'
    exact hQ c' t1 u h tk (hf'.mono (by omega)) F' N'
  case g4 =>
    clear F2 N2 hR hsm hL0 hasc hbd hnu hul hgl hT hT0 hT1 n1 n2 n3 n4 n5 n6 n7 n8 n9
    rintro i tl ⟨nu, t2, tp, t3, ll, gl, vs, cc, us, gs, cg, TT⟩ u h tk I oI hi ⟨hasc, hbd, hnu, hul, hgl, hT, ⟨T0, hT0, hT1, hL0⟩, n1, n2, n3, n4, n5, n6, n7, n8, n9⟩ hI F' N'
    dsimp only at hL0 hasc hbd hnu hul hgl hT hT0 hT1 n1 n2 n3 n4 n5 n6 n7 n8 n9 hI F' N' ⊢
    obtain ⟨hul', hul9, hgl9, hgl8, hgl7, hnu9, hvl9⟩ := bs_nums hul hgl hlim hr0 hr1 hi hnu hL0.1
    have i1 := neN (hI _ (.head _))
    have i2 := neN (hI _ (.tail _ (.head _)))
    have i3 := neN (hI _ (.tail _ (.tail _ (.head _))))
    have i4 := neN (hI _ (.tail _ (.tail _ (.tail _ (.head _)))))
    have i5 := neN (hI _ (.tail _ (.tail _ (.tail _ (.tail _ (.head _))))))
    have i6 := neN (hI _ (.tail _ (.tail _ (.tail _ (.tail _ (.tail _ (.head _)))))))
    dsimp only at i1 i2 i3 i4 i5 i6
    k_steps
    unfold Stop
    rename Fr _ _ _ _ => F3
    rename News _ _ _ _ => N3
    rename _ ∧ _ ∧ _ ∧ _ ∧ _ ∧ _ ∧ _ ∧ AllLt _ _ => l1
    obtain ⟨fa9, e⟩ := news_a0 N3
    subst e
    refine' Con.use2 (add_con _ _ _ _ k box d tn tv nu t2 tp t3 t4 ll gl vs cc _ fa9 _) ?Ba ?Fa ?Xa ?Na ?Ta ?hka ?hda ?hua ?Ua ?Va ?hpa ?ka
    case Ba => k_asm
    case Fa => k_asm
    case Xa => k_asm
    case Na => k_asm
    case Ta => k_asm
    case hka => exact rfl
    case hda => ktr_room
    case hua => ktr_units
    case Ua => k_updF
    case Va => (intro o'; (try dsimp only); k_updF)
    case hpa => exact ⟨by walk_at "MY_OBJ", hvl9, by walk_at "MY_OBJ"⟩
    intro v h9 tk9 K9 F9 N9 hP
    obtain ⟨la, dl, kl, ul, oc, fl, ins, ms, tm, t2', t3', rfl, hfr, hne, hd9, hl9⟩ := hP
    have N9 := N9 _ _ hd9 hl9
    have ap := hfr.apart N3
    have N9 := hfr.toNews F3 N9
    simp only [List.cons_append, List.nil_append] at N9
    have a1 := List.forall_mem_cons.mp ap
    have a2 := (List.forall_mem_cons.mp a1.2).1
    have a1 := a1.1
    have b1 := neN (a1 _ (.tail _ (.head _)))
    have b2 := neN (a1 _ (.tail _ (.tail _ (.head _))))
    have b3 := neN (a1 _ (.tail _ (.tail _ (.tail _ (.head _)))))
    have b4 := neN (a1 _ (.tail _ (.tail _ (.tail _ (.tail _ (.head _))))))
    have b5 := neN (a1 _ (.tail _ (.tail _ (.tail _ (.tail _ (.tail _ (.head _)))))))
    have b6 := neN (a1 _ (.tail _ (.tail _ (.tail _ (.tail _ (.tail _ (.tail _ (.head _))))))))
    have b7 := neN (a1 _ (.tail _ (.tail _ (.tail _ (.tail _ (.tail _ (.tail _ (.tail _ (.head _)))))))))
    have c1 := neN (a2 _ (.tail _ (.head _)))
    have c2 := neN (a2 _ (.tail _ (.tail _ (.head _))))
    have c3 := neN (a2 _ (.tail _ (.tail _ (.tail _ (.head _)))))
    have c4 := neN (a2 _ (.tail _ (.tail _ (.tail _ (.tail _ (.head _))))))
    have c5 := neN (a2 _ (.tail _ (.tail _ (.tail _ (.tail _ (.tail _ (.head _)))))))
    have c6 := neN (a2 _ (.tail _ (.tail _ (.tail _ (.tail _ (.tail _ (.tail _ (.head _))))))))
    have c7 := neN (a2 _ (.tail _ (.tail _ (.tail _ (.tail _ (.tail _ (.tail _ (.tail _ (.head _)))))))))
    dsimp only at b1 b2 b3 b4 b5 b6 b7 c1 c2 c3 c4 c5 c6 c7
    have q1 := neN hne
    have a1T : OwnOff ((la, instObj 197 dl) :: (dl, letO w kl nu ul oc fl ins ms tm) :: TT) [box, d, ll, gl, pen, cl] := by
      intro q hq b hb
      rcases List.mem_cons.mp hq with rfl | hq
      · simp only [List.mem_cons, List.not_mem_nil, or_false] at hb
        rcases hb with rfl | rfl | rfl | rfl | rfl | rfl <;> assumption
      · rcases List.mem_cons.mp hq with rfl | hq
        · simp only [List.mem_cons, List.not_mem_nil, or_false] at hb
          rcases hb with rfl | rfl | rfl | rfl | rfl | rfl <;> assumption
        · exact hT q hq b hb
    have hT1' : OwnOff ((la, instObj 197 dl) :: (dl, letO w kl nu ul oc fl ins ms tm) :: T0) (R.map (·.1)) := by
      intro q hq b hb
      obtain ⟨p, hp, rfl⟩ := List.mem_map.mp hb
      have hpT : p ∈ TT := hT0 ▸ List.mem_append_right _ hp
      rcases List.mem_cons.mp hq with rfl | hq
      · exact a1 p (.tail _ (.tail _ (.tail _ (.tail _ (.tail _ (.tail _ (.tail _ (.tail _ hpT))))))))
      · rcases List.mem_cons.mp hq with rfl | hq
        · exact a2 p (.tail _ (.tail _ (.tail _ (.tail _ (.tail _ (.tail _ (.tail _ (.tail _ hpT))))))))
        · exact hT1 q hq _ (List.mem_map_of_mem hp)
    have hL' : Lets w (fun a o => (a, o) ∈ (la, instObj 197 dl) :: (dl, letO w kl nu ul oc fl ins ms tm) :: TT) (vs ++ [.ref la]) (us ++ [nu]) :=
      (hL0.mono fun a o e => .tail _ (.tail _ (hT0 ▸ List.mem_append_left _ e))).snoc ⟨la, dl, kl, ul, oc, fl, ins, ms, tm, rfl, .head _, .tail _ (.head _)⟩
    have hL0' : Lets w (fun a o => (a, o) ∈ (la, instObj 197 dl) :: (dl, letO w kl nu ul oc fl ins ms tm) :: T0) (vs ++ [.ref la]) (us ++ [nu]) :=
      (hL0.mono fun a o e => .tail _ (.tail _ e)).snoc ⟨la, dl, kl, ul, oc, fl, ins, ms, tm, rfl, .head _, .tail _ (.head _)⟩
    have hasc' : (us ++ [nu]).Pairwise (· < ·) := List.pairwise_append.mpr ⟨hasc, List.pairwise_singleton _ _, fun u hu v hv => by rw [List.mem_singleton.mp hv]; exact (hbd u hu).2⟩
    have hbd' := bs_bd hbd hnu
    clear a1 a2 ap hfr K9 F3 N3
    k_steps
    · unfold Stop
      rename Fr _ _ _ _ => F3
      rename News _ _ _ _ => N3
      obtain ⟨u9, e⟩ := news_a0 N3
      subst e
      refine' Con.use1 (exp_con _ _ _ _ k box d tn tv (nu + 1) t2' (tp + 1) t3' t4 ll gl u9 (vs ++ [.ref la]) gs [.int nu ul] (cc + 1) cg 0 (us ++ [nu]) [nu]) ?Bb ?Fb ?Xb ?Nb ?Tb ?hkb ?hdb ?hub ?Ub ?hpb ?kb
      case Bb => k_asm
      case Fb => k_asm
      case Xb => k_asm
      case Nb => k_asm
      case Tb => k_asm
      case hkb => exact rfl
      case hdb => ktr_room
      case hub => ktr_units
      case Ub => k_updF
      case hpb => exact ⟨by walk_at "MY_OBJ", by walk_at "MY_OBJ", lets_news N3 hL' (List.forall_mem_cons.mpr ⟨.tail _ (.head _), List.forall_mem_cons.mpr ⟨.tail _ (.tail _ (.head _)), fun q hq => .tail _ (.tail _ (.tail _ (.tail _ (.tail _ (.tail _ (.tail _ (.tail _ (.tail _ (.tail _ (.tail _ (hq)))))))))))⟩⟩), hul9, by walk_at "MY_OBJ", hgl9, (N3 _ (.head _)).1, .cons _ _ .nil, Nat.le_of_ble_eq_true rfl⟩
      intro v h9 tk9 K9 F9 N9 hP
      rcases hP with hP | ⟨t3n, l1n, g1n, c1n, cg1n, vs1, us1, gs1, hd9, hfr, hne, hgsl, hsub, hLm⟩
      · have N9 := N9 _ hP
        clear F3 N3
        k_steps
        dsimp only [PostS]
        rename Fr _ _ _ _ => F8
        rename News _ _ _ _ => N8
        refine EndS.intro ⟨nu + 1, t2', tp + 1, t3', ll, gl, vs ++ [.ref la], cc + 1, us ++ [nu], gs, cg, (la, instObj 197 dl) :: (dl, letO w kl nu ul oc fl ins ms tm) :: TT⟩ F8 N8 (.tail _ (.tail _ (.tail _ (.tail _ (.head _))))) ?_ ?_ ?_ ?_ ?_
        · dsimp only; exact List.forall_mem_cons.mpr ⟨(.tail _ (.tail _ (.tail _ (.tail _ (.tail _ (.head _)))))), List.forall_mem_cons.mpr ⟨(.tail _ (.tail _ (.tail _ (.tail _ (.tail _ (.tail _ (.head _))))))), List.forall_mem_cons.mpr ⟨(.tail _ (.tail _ (.tail _ (.tail _ (.tail _ (.tail _ (.tail _ (.head _)))))))), List.forall_mem_cons.mpr ⟨(.tail _ (.tail _ (.tail _ (.tail _ (.tail _ (.tail _ (.tail _ (.tail _ (.head _))))))))), List.forall_mem_cons.mpr ⟨(.tail _ (.tail _ (.tail _ (.tail _ (.tail _ (.tail _ (.tail _ (.tail _ (.tail _ (.head _)))))))))), List.forall_mem_cons.mpr ⟨(.tail _ (.tail _ (.tail _ (.tail _ (.tail _ (.tail _ (.tail _ (.tail _ (.tail _ (.tail _ (.head _))))))))))), List.forall_mem_cons.mpr ⟨(.tail _ (.head _)), List.forall_mem_cons.mpr ⟨(.tail _ (.tail _ (.head _))), fun q hq => .tail _ (.tail _ (.tail _ (.tail _ (.tail _ (.tail _ (.tail _ (.tail _ (.tail _ (.tail _ (.tail _ (hq)))))))))))⟩⟩⟩⟩⟩⟩⟩⟩
        · dsimp only; exact List.forall_mem_cons.mpr ⟨i1, List.forall_mem_cons.mpr ⟨i2, List.forall_mem_cons.mpr ⟨i3, List.forall_mem_cons.mpr ⟨i4, List.forall_mem_cons.mpr ⟨i5, List.forall_mem_cons.mpr ⟨i6, List.forall_mem_cons.mpr ⟨b1, List.forall_mem_cons.mpr ⟨c1, fun q hq => hI q (.tail _ (.tail _ (.tail _ (.tail _ (.tail _ (.tail _ hq))))))⟩⟩⟩⟩⟩⟩⟩⟩
        · exact ⟨hasc', hbd', hnu9, hul', hgl8, a1T, ⟨_ :: _ :: T0, by rw [hT0]; rfl, hT1', hL0'⟩, n1, n2, n3, n4, n5, n6, n7, n8, n9⟩
        · intro p hp; rcases List.mem_cons.mp hp with rfl | hp; rfl; rw [List.mem_singleton.mp hp]; rfl
        · walk_at "MY_SAME"
      · have N9 := N9 _ hd9
        have ap := hfr.apart N3
        have N9 := hfr.toNews F3 N9
        simp only [List.cons_append, List.nil_append] at N9
        have p := List.forall_mem_cons.mp ap
        have q := (List.forall_mem_cons.mp p.2).1
        have p := p.1
        have pI := neN (p _ (.tail _ (.tail _ (.tail _ (.tail _ (.head _))))))
        have pbox := neN (p _ (.tail _ (.tail _ (.tail _ (.tail _ (.tail _ (.head _)))))))
        have pd := neN (p _ (.tail _ (.tail _ (.tail _ (.tail _ (.tail _ (.tail _ (.head _))))))))
        have ppen := neN (p _ (.tail _ (.tail _ (.tail _ (.tail _ (.tail _ (.tail _ (.tail _ (.tail _ (.tail _ (.head _)))))))))))
        have pcl := neN (p _ (.tail _ (.tail _ (.tail _ (.tail _ (.tail _ (.tail _ (.tail _ (.tail _ (.tail _ (.tail _ (.head _))))))))))))
        have qI := neN (q _ (.tail _ (.tail _ (.tail _ (.tail _ (.head _))))))
        have qbox := neN (q _ (.tail _ (.tail _ (.tail _ (.tail _ (.tail _ (.head _)))))))
        have qd := neN (q _ (.tail _ (.tail _ (.tail _ (.tail _ (.tail _ (.tail _ (.head _))))))))
        have qpen := neN (q _ (.tail _ (.tail _ (.tail _ (.tail _ (.tail _ (.tail _ (.tail _ (.tail _ (.tail _ (.head _)))))))))))
        have qcl := neN (q _ (.tail _ (.tail _ (.tail _ (.tail _ (.tail _ (.tail _ (.tail _ (.tail _ (.tail _ (.tail _ (.head _))))))))))))
        dsimp only at pI pbox pd ppen pcl qI qbox qd qpen qcl
        have ez := neN hne
        have pT : ∀ x ∈ (la, instObj 197 dl) :: (dl, letO w kl nu ul oc fl ins ms tm) :: TT, l1n ≠ x.1 := List.forall_mem_cons.mpr ⟨p _ (.tail _ (.head _)), List.forall_mem_cons.mpr ⟨p _ (.tail _ (.tail _ (.head _))), fun x hx => p x (.tail _ (.tail _ (.tail _ (.tail _ (.tail _ (.tail _ (.tail _ (.tail _ (.tail _ (.tail _ (.tail _ (hx))))))))))))⟩⟩
        have qT : ∀ x ∈ (la, instObj 197 dl) :: (dl, letO w kl nu ul oc fl ins ms tm) :: TT, g1n ≠ x.1 := List.forall_mem_cons.mpr ⟨q _ (.tail _ (.head _)), List.forall_mem_cons.mpr ⟨q _ (.tail _ (.tail _ (.head _))), fun x hx => q x (.tail _ (.tail _ (.tail _ (.tail _ (.tail _ (.tail _ (.tail _ (.tail _ (.tail _ (.tail _ (.tail _ (hx))))))))))))⟩⟩
        have a2T : OwnOff ((la, instObj 197 dl) :: (dl, letO w kl nu ul oc fl ins ms tm) :: TT) [box, d, l1n, g1n, pen, cl] := by
          intro x hx b hb
          simp only [List.mem_cons, List.not_mem_nil, or_false] at hb
          rcases hb with rfl | rfl | rfl | rfl | rfl | rfl
          · exact a1T x hx _ (by simp)
          · exact a1T x hx _ (by simp)
          · exact (pT x hx).symm
          · exact (qT x hx).symm
          · exact a1T x hx _ (by simp)
          · exact a1T x hx _ (by simp)
        have hsl := hsub.length_le
        clear p q ap hfr K9 F3 N3
        k_steps
        dsimp only [PostS]
        rename Fr _ _ _ _ => F8
        rename News _ _ _ _ => N8
        refine EndS.intro ⟨nu + 1, t2', tp + 1 + 1, t3n, l1n, g1n, vs1, c1n, us1, gs1, cg1n, (la, instObj 197 dl) :: (dl, letO w kl nu ul oc fl ins ms tm) :: TT⟩ F8 N8 (.tail _ (.tail _ (.tail _ (.tail _ (.tail _ (.tail _ (.head _))))))) ?_ ?_ ?_ ?_ ?_
        · dsimp only; exact List.forall_mem_cons.mpr ⟨(.tail _ (.tail _ (.tail _ (.tail _ (.tail _ (.tail _ (.tail _ (.head _)))))))), List.forall_mem_cons.mpr ⟨(.tail _ (.tail _ (.tail _ (.tail _ (.tail _ (.tail _ (.tail _ (.tail _ (.head _))))))))), List.forall_mem_cons.mpr ⟨(.head _), List.forall_mem_cons.mpr ⟨(.tail _ (.head _)), List.forall_mem_cons.mpr ⟨(.tail _ (.tail _ (.tail _ (.tail _ (.tail _ (.tail _ (.tail _ (.tail _ (.tail _ (.tail _ (.tail _ (.head _)))))))))))), List.forall_mem_cons.mpr ⟨(.tail _ (.tail _ (.tail _ (.tail _ (.tail _ (.tail _ (.tail _ (.tail _ (.tail _ (.tail _ (.tail _ (.tail _ (.head _))))))))))))), List.forall_mem_cons.mpr ⟨(.tail _ (.tail _ (.tail _ (.head _)))), List.forall_mem_cons.mpr ⟨(.tail _ (.tail _ (.tail _ (.tail _ (.head _))))), fun q hq => .tail _ (.tail _ (.tail _ (.tail _ (.tail _ (.tail _ (.tail _ (.tail _ (.tail _ (.tail _ (.tail _ (.tail _ (.tail _ (hq)))))))))))))⟩⟩⟩⟩⟩⟩⟩⟩
        · dsimp only; exact List.forall_mem_cons.mpr ⟨i1, List.forall_mem_cons.mpr ⟨i2, List.forall_mem_cons.mpr ⟨pI, List.forall_mem_cons.mpr ⟨qI, List.forall_mem_cons.mpr ⟨i5, List.forall_mem_cons.mpr ⟨i6, List.forall_mem_cons.mpr ⟨b1, List.forall_mem_cons.mpr ⟨c1, fun q hq => hI q (.tail _ (.tail _ (.tail _ (.tail _ (.tail _ (.tail _ hq))))))⟩⟩⟩⟩⟩⟩⟩⟩
        · exact ⟨hasc'.sublist hsub, fun u hu => hbd' u (hsub.subset hu), hnu9, Nat.le_trans hsl hul', Nat.le_trans hgsl hgl7, a2T, ⟨_ :: _ :: T0, by rw [hT0]; rfl, hT1', hLm _ hL0'⟩, ez, pbox, pd, ppen, pcl, qbox, qd, qpen, qcl⟩
        · intro p hp; rcases List.mem_cons.mp hp with rfl | hp; rfl; rw [List.mem_singleton.mp hp]; rfl
        · walk_at "MY_SAME"
    · dsimp only [PostS]
      rename Fr _ _ _ _ => F8
      rename News _ _ _ _ => N8
      refine EndS.intro ⟨nu + 1, t2', tp + 1, t3', ll, gl, vs ++ [.ref la], cc + 1, us ++ [nu], gs, cg, (la, instObj 197 dl) :: (dl, letO w kl nu ul oc fl ins ms tm) :: TT⟩ F8 N8 (.tail _ (.tail _ (.tail _ (.head _)))) ?_ ?_ ?_ ?_ ?_
      · dsimp only; exact List.forall_mem_cons.mpr ⟨(.tail _ (.tail _ (.tail _ (.tail _ (.head _))))), List.forall_mem_cons.mpr ⟨(.tail _ (.tail _ (.tail _ (.tail _ (.tail _ (.head _)))))), List.forall_mem_cons.mpr ⟨(.tail _ (.tail _ (.tail _ (.tail _ (.tail _ (.tail _ (.head _))))))), List.forall_mem_cons.mpr ⟨(.tail _ (.tail _ (.tail _ (.tail _ (.tail _ (.tail _ (.tail _ (.head _)))))))), List.forall_mem_cons.mpr ⟨(.tail _ (.tail _ (.tail _ (.tail _ (.tail _ (.tail _ (.tail _ (.tail _ (.head _))))))))), List.forall_mem_cons.mpr ⟨(.tail _ (.tail _ (.tail _ (.tail _ (.tail _ (.tail _ (.tail _ (.tail _ (.tail _ (.head _)))))))))), List.forall_mem_cons.mpr ⟨(.head _), List.forall_mem_cons.mpr ⟨(.tail _ (.head _)), fun q hq => .tail _ (.tail _ (.tail _ (.tail _ (.tail _ (.tail _ (.tail _ (.tail _ (.tail _ (.tail _ (hq))))))))))⟩⟩⟩⟩⟩⟩⟩⟩
      · dsimp only; exact List.forall_mem_cons.mpr ⟨i1, List.forall_mem_cons.mpr ⟨i2, List.forall_mem_cons.mpr ⟨i3, List.forall_mem_cons.mpr ⟨i4, List.forall_mem_cons.mpr ⟨i5, List.forall_mem_cons.mpr ⟨i6, List.forall_mem_cons.mpr ⟨b1, List.forall_mem_cons.mpr ⟨c1, fun q hq => hI q (.tail _ (.tail _ (.tail _ (.tail _ (.tail _ (.tail _ hq))))))⟩⟩⟩⟩⟩⟩⟩⟩
      · exact ⟨hasc', hbd', hnu9, hul', hgl8, a1T, ⟨_ :: _ :: T0, by rw [hT0]; rfl, hT1', hL0'⟩, n1, n2, n3, n4, n5, n6, n7, n8, n9⟩
      · intro p hp; rcases List.mem_cons.mp hp with rfl | hp; rfl; rw [List.mem_singleton.mp hp]; rfl
      · walk_at "MY_SAME"
end
section

theorem lim_nums {i : Nat} {r1 : Int} (hr1 : r1 < 7) (hi : i < r1.toNat) : 2 * i ≤ 12 ∧ (i : Int) ≤ 6 := by omega
theorem two_le (i : Nat) : 2 * i + 2 ≤ 2 * (i + 1) ∧ 20 * (2 * i + 2) ≤ 20 * (2 * (i + 1)) := by omega
theorem loop_out {w : World} {mean : ExcName → Option Value} {mg mb : Str → Option Value} {g : Heap} {fa ca L' : Addr} {m₀ : Str → Option Value} {st : Stmt} {sc : Scope} {s : Shared} {Q : Flow → Shared → Prop}
    {k : Nat → Tok} {tn tv t4 : Tok} {box d pen cl : Addr} {sp pw : Int} {t tw : Tok} {n c0 : Nat} {cs : List Value} {ns : List Int} {R : List (Addr × Obj)} {c : BS}
    (hlaw : lawAt 3 = some (st, sc)) (K0 : Below callerA g [] g) (F : Fr g L' s.heap (kstB m₀ [(Str.ofString "pen", .ref pen), (Str.ofString "box", .ref box)])) (X : (hd.heap_1 w.params).In g)
    (N : News g L' s.heap ((box, instObj 235 d) :: (d, boxO w k tn tv c.nu c.t2 c.tp c.t3 t4 c.ll c.gl) :: (c.ll, listOf (List.toArray c.vs) c.c) :: (c.gl, listOf (List.toArray c.gs) c.cg) :: (pen, penO cl sp t pw tw n) :: (cl, listOf cs.toArray c0) :: c.T))
    (T : Top viewQ (looseW viewQ [Str.ofString "PostError"]) mean mg mb g) (GL : GlobAt mg mb g) (hcs : IntsAre cs ns) (hns : ns.length ≤ 100) (hsp : 0 ≤ sp ∧ sp ≤ 100) (hpw : 0 ≤ pw ∧ pw ≤ 1000)
    (e1 : @Ne Nat box d) (e2 : @Ne Nat box pen) (e3 : @Ne Nat box cl) (e4 : @Ne Nat d pen) (e5 : @Ne Nat d cl) (e6 : @Ne Nat pen cl)
    (hf : BFa w box d pen cl R 0 c)
    (hQ : ∀ (c' : BS) (sp' : Int) (t' : Tok) (m₁ : Str → Option Value) (h' : Heap) (tk' : Nat), BFa w box d pen cl R 12 c' → sp ≤ sp' → sp' ≤ sp + 7 → Fr g L' h' (kstB m₁ [(Str.ofString "pen", .ref pen), (Str.ofString "box", .ref box)]) →
      News g L' h' ((box, instObj 235 d) :: (d, boxO w k tn tv c'.nu c'.t2 c'.tp c'.t3 t4 c'.ll c'.gl) :: (c'.ll, listOf (List.toArray c'.vs) c'.c) :: (c'.gl, listOf (List.toArray c'.gs) c'.cg) :: (pen, penO cl sp' t' pw tw n) :: (cl, listOf cs.toArray c0) :: c'.T) →
      Q .next { s with heap := h', toks := tk' }) :
    wpAny (model Challenge.rw_no0370_01.row.prog w) (callerA.deeper (envOfC (Str.ofString "law") sc L' fa (.ref ca))) (exec st (envOfC (Str.ofString "law") sc L' fa (.ref ca))) Q (fun _ _ => False) s := by
  obtain ⟨hb, hs⟩ := Prod.mk.inj (Option.some.inj ((show lawAt 3 = some (_, _) from rfl).symm.trans hlaw))
  subst hb hs
  clear hlaw
  revert X
  k_fill
  intro X
  refine For_turns F ?_ (by intro x; rfl) (by passes_own)
  have hz := hf
  obtain ⟨nu, t2, tp, t3, ll, gl, vs, cc, us, gs, cg, TT⟩ := c
  obtain ⟨hasc, hbd, hnu, hul, hgl, hT, ⟨T0, hT0, hT1, hL0⟩, n1, n2, n3, n4, n5, n6, n7, n8, n9⟩ := hf
  dsimp only at hL0 hasc hbd hnu hul hgl hT hT0 hT1 n1 n2 n3 n4 n5 n6 n7 n8 n9 N
  k_steps
  unfold Stop
  refine' draw_useU ?B ?F ?X ?N ?T ?hk ?hd ?hu ?U ?hcl hcs hns ?hb ?k0
  walk_at "MY_CON"
  case U => k_updF
  case hcl => walk_at "MY_OBJ"
  case hb => omega
  intro r1 tr1 t1 h9 tk9 hr0 hr1 K9 F9 N9
  (try dsimp only at N9)
  clear F N
  k_steps
  rename IsRange _ _ _ _ _ _ _ _ => hR
  rename Fr _ _ _ _ => F2
  rename News _ _ _ _ => N2
  clear hL0 hasc hbd hnu hul hgl hT hT0 hT1 n1 n2 n3 n4 n5 n6 n7 n8 n9
  have hsm : Builtin.Range.small 0 r1 1 = true ∧ Builtin.Range.rangeSize 0 r1 1 = ((r1.toNat : Nat) : Int) := by
    have : r1 = 0 ∨ r1 = 1 ∨ r1 = 2 ∨ r1 = 3 ∨ r1 = 4 ∨ r1 = 5 ∨ r1 = 6 := by omega
    rcases this with e | e | e | e | e | e | e <;> subst e <;> exact ⟨by decide +kernel, by decide +kernel⟩
  refine' iterS_range (σ := BS × Int × Tok) [Str.ofString "lap", Str.ofString "more", Str.ofString "letter"] (fun _ _ => [(Str.ofString "pen", .ref pen), (Str.ofString "box", .ref box)])
    (fun _ c' => (box, instObj 235 d) :: (d, boxO w k tn tv c'.1.nu c'.1.t2 c'.1.tp c'.1.t3 t4 c'.1.ll c'.1.gl) :: (c'.1.ll, listOf (List.toArray c'.1.vs) c'.1.c) :: (c'.1.gl, listOf (List.toArray c'.1.gs) c'.1.cg) :: (pen, penO cl c'.2.1 c'.2.2 pw tw n) :: (cl, listOf cs.toArray c0) :: c'.1.T)
    (fun i c' => BFa w box d pen cl R (2 * i) c'.1 ∧ c'.2.1 = sp + 1 + (i : Int)) (⟨nu, t2, tp, t3, ll, gl, vs, cc, us, gs, cg, TT⟩, sp + 1, t1)
    rfl F2 N2 ?g1 ?g2 ?g3 hR hsm.1 hsm.2 (by intro it v; rfl) ?g4 ?g5
  case g1 => intro p hp; exact hp
  case g2 => exact ⟨hz, by simp⟩
  case g3 => intro p hp; rcases List.mem_cons.mp hp with rfl | hp; rfl; rw [List.mem_singleton.mp hp]; rfl
  case g5 =>
    clear F2 N2 hR hz hsm
    rintro ⟨c', sp', t'⟩ u h tk ⟨hf', hse⟩ F' N'
    dsimp only at hf' hse F' N' ⊢
    exact hQ c' sp' t' _ h tk (hf'.mono (by omega)) (by omega) (by omega) F' N'
  case g4 =>
    clear F2 N2 hR hz hsm
    rintro i tl ⟨⟨nu, t2, tp, t3, ll, gl, vs, cc, us, gs, cg, TT⟩, sp', t'⟩ u h tk I oI hi ⟨⟨hasc, hbd, hnu, hul, hgl, hT, ⟨T0, hT0, hT1, hL0⟩, n1, n2, n3, n4, n5, n6, n7, n8, n9⟩, hse⟩ hI F' N'
    dsimp only at hL0 hasc hbd hnu hul hgl hT hT0 hT1 n1 n2 n3 n4 n5 n6 n7 n8 n9 hse hI F' N' ⊢
    obtain ⟨l12, l6⟩ := lim_nums hr1 hi
    have hspb : 0 ≤ sp' ∧ sp' ≤ 900 := by omega
    have i1 := hI _ (.head _)
    have i2 := hI _ (.tail _ (.head _))
    have i3 := hI _ (.tail _ (.tail _ (.head _)))
    have i4 := hI _ (.tail _ (.tail _ (.tail _ (.head _))))
    have i5 := hI _ (.tail _ (.tail _ (.tail _ (.tail _ (.head _)))))
    have i6 := hI _ (.tail _ (.tail _ (.tail _ (.tail _ (.tail _ (.head _))))))
    have iT : ∀ p ∈ TT, p.1 ≠ I := fun p hp => hI p (.tail _ (.tail _ (.tail _ (.tail _ (.tail _ (.tail _ hp))))))
    dsimp only at i1 i2 i3 i4 i5 i6
    k_steps
    unfold Stop
    rename Fr _ _ _ _ => F3
    rename News _ _ _ _ => N3
    refine loop_in (k := k) (tn := tn) (tv := tv) (t4 := t4) (t := t') (tw := tw) (n := n) (c0 := c0) (sp := sp') (c := ⟨nu, t2, tp, t3, ll, gl, vs, cc, us, gs, cg, T0 ++ (I, oI) :: R⟩) (R := (I, oI) :: R) (lim := 2 * i) (by rfl) K0 (fr_re (ps := [(Str.ofString "pen", .ref pen), (Str.ofString "box", .ref box)]) ?_ F3) X ?_ T GL hcs hns hspb hpw e1 e2 e3 e4 e5 e6 ?_ l12 ?_
    · intro p hp; rcases List.mem_cons.mp hp with rfl | hp; rfl; rw [List.mem_singleton.mp hp]; rfl
    · intro q hq
      refine N3 q ?_
      simp only [List.mem_cons, List.mem_append] at hq
      rcases hq with rfl | rfl | rfl | rfl | rfl | rfl | hq | rfl | hq
      · exact .tail _ (.head _)
      · exact .tail _ (.tail _ (.head _))
      · exact .tail _ (.tail _ (.tail _ (.head _)))
      · exact .tail _ (.tail _ (.tail _ (.tail _ (.head _))))
      · exact .tail _ (.tail _ (.tail _ (.tail _ (.tail _ (.head _)))))
      · exact .tail _ (.tail _ (.tail _ (.tail _ (.tail _ (.tail _ (.head _))))))
      · exact .tail _ (.tail _ (.tail _ (.tail _ (.tail _ (.tail _ (.tail _ (hT0 ▸ List.mem_append_left _ hq)))))))
      · exact .head _
      · exact .tail _ (.tail _ (.tail _ (.tail _ (.tail _ (.tail _ (.tail _ (hT0 ▸ List.mem_append_right _ hq)))))))
    · refine ⟨hasc, hbd, hnu, hul, hgl, ?_, ⟨T0, rfl, ?_, hL0⟩, n1, n2, n3, n4, n5, n6, n7, n8, n9⟩
      · intro q hq b hb
        rcases List.mem_append.mp hq with hq | hq
        · exact hT q (hT0 ▸ List.mem_append_left _ hq) b hb
        · rcases List.mem_cons.mp hq with rfl | hq
          · simp only [List.mem_cons, List.not_mem_nil, or_false] at hb
            rcases hb with rfl | rfl | rfl | rfl | rfl | rfl
            · exact Ne.symm i1
            · exact Ne.symm i2
            · exact Ne.symm i3
            · exact Ne.symm i4
            · exact Ne.symm i5
            · exact Ne.symm i6
          · exact hT q (hT0 ▸ List.mem_append_right _ hq) b hb
      · intro q hq b hb
        rcases List.mem_cons.mp hb with rfl | hb
        · exact iT q (hT0 ▸ List.mem_append_left _ hq)
        · exact hT1 q hq b hb
    · have iR : ∀ p ∈ R, p.1 ≠ I := fun p hp => iT p (hT0 ▸ List.mem_append_right _ hp)
      clear hasc hbd hnu hul hgl hT hT0 hT1 hL0 n1 n2 n3 n4 n5 n6 n7 n8 n9 F3 N3 i1 i2 i3 i4 iT hI
      rintro ⟨nu2, t22, tp2, t32, ll2, gl2, vs2, cc2, us2, gs2, cg2, TT2⟩ t3' u2 h5 tk5 ⟨hasc, hbd, hnu, hul, hgl, hT, ⟨T02, hT0, hT1, hL0⟩, n1, n2, n3, n4, n5, n6, n7, n8, n9⟩ F5 N5
      dsimp only at hL0 hasc hbd hnu hul hgl hT hT0 hT1 n1 n2 n3 n4 n5 n6 n7 n8 n9 F5 N5 ⊢
      subst hT0
      k_steps
      dsimp only [PostS]
      rename Fr _ _ _ _ => F8
      rename News _ _ _ _ => N8
      have hsub : ∀ q ∈ T02 ++ R, q ∈ T02 ++ (I, oI) :: R := fun q hq => by
        rcases List.mem_append.mp hq with hq | hq
        · exact List.mem_append_left _ hq
        · exact List.mem_append_right _ (.tail _ hq)
      have hTI : ∀ q ∈ T02 ++ R, q.1 ≠ I := fun q hq => by
        rcases List.mem_append.mp hq with hq | hq
        · exact hT1 q hq I (.head _)
        · exact iR q hq
      refine EndS.intro (⟨nu2, t22, tp2, t32, ll2, gl2, vs2, cc2, us2, gs2, cg2, T02 ++ R⟩, sp' + 1, t3') F8 N8 ?_ ?_ ?_ ?_ ?_ ?_
      · exact .tail _ (.tail _ (.tail _ (.tail _ (.tail _ (.tail _ (List.mem_append_right _ (.head _)))))))
      · dsimp only; exact List.forall_mem_cons.mpr ⟨.head _, List.forall_mem_cons.mpr ⟨.tail _ (.head _), List.forall_mem_cons.mpr ⟨.tail _ (.tail _ (.head _)), List.forall_mem_cons.mpr ⟨.tail _ (.tail _ (.tail _ (.head _))), List.forall_mem_cons.mpr ⟨.tail _ (.tail _ (.tail _ (.tail _ (.head _)))),
          List.forall_mem_cons.mpr ⟨.tail _ (.tail _ (.tail _ (.tail _ (.tail _ (.head _))))), fun q hq => .tail _ (.tail _ (.tail _ (.tail _ (.tail _ (.tail _ (hsub q hq))))))⟩⟩⟩⟩⟩⟩
      · have jj : ∀ b ∈ [box, d, ll2, gl2, pen, cl], I ≠ b := fun b hb => hT (I, oI) (List.mem_append_right _ (.head _)) b hb
        dsimp only; exact List.forall_mem_cons.mpr ⟨Ne.symm (jj _ (by simp)), List.forall_mem_cons.mpr ⟨Ne.symm (jj _ (by simp)), List.forall_mem_cons.mpr ⟨Ne.symm (jj _ (by simp)), List.forall_mem_cons.mpr ⟨Ne.symm (jj _ (by simp)), List.forall_mem_cons.mpr ⟨Ne.symm (jj _ (by simp)), List.forall_mem_cons.mpr ⟨Ne.symm (jj _ (by simp)), hTI⟩⟩⟩⟩⟩⟩
      · refine ⟨⟨hasc, hbd, hnu, Nat.le_trans hul (two_le i).1, Nat.le_trans hgl (two_le i).2, fun q hq => hT q (hsub q hq), ⟨T02, rfl, fun q hq b hb => hT1 q hq b (.tail _ hb), hL0⟩, n1, n2, n3, n4, n5, n6, n7, n8, n9⟩, ?_⟩
        dsimp only
        rw [hse, Int.natCast_succ, Int.add_assoc (sp + 1)]
      · intro p hp; rcases List.mem_cons.mp hp with rfl | hp; rfl; rw [List.mem_singleton.mp hp]; rfl
      · walk_at "MY_SAME"
end
section

theorem last_pos {us : List Int} (hpos : ∀ u ∈ us, 1 ≤ u) (h : us ≠ []) : 0 < us.getLast?.getD 0 := by
  obtain ⟨o, r, e⟩ := List.eq_nil_or_concat us |>.resolve_left h
  rw [List.concat_eq_append] at e
  subst e
  rw [List.getLast?_concat]
  have := hpos r (by simp)
  show 0 < r
  omega
theorem filt_pos {us : List Int} {ps : List (Int × Int)} (hpos : ∀ u ∈ us, 1 ≤ u) : UidsIn ps us true = us.filter (fun u => decide (0 < us.getLast?.getD 0) && memB ps (us.getLast?.getD 0) u) := by
  show us.filter (memB ps (us.getLast?.getD 0)) = _
  by_cases h : us = []
  · subst h; rfl
  · rw [decide_eq_true (last_pos hpos h)]
    simp only [Bool.true_and]
theorem lap_a {w : World} {mean : ExcName → Option Value} {mg mb : Str → Option Value} {g : Heap} {fa ca L' : Addr} {m₀ : Str → Option Value} {st : Stmt} {sc : Scope} {s : Shared} {Q : Flow → Shared → Prop}
    {kv : Nat → Tok} {view dv box ulv fd md ul b : Addr} {cv cu : Nat} {xv xu ws : List Value} {us : List Int} {ps : List (Int × Int)} {ou os ol : Obj} {tl : Tok} {TT : List (Addr × Obj)}
    (hlaw : lawLap 2 = some (st, sc)) (K0 : Below callerA g [] g) (F : Fr g L' s.heap (kstB m₀ [(Str.ofString "view", .ref view)])) (X : (hd.heap_1 w.params).In g)
    (N : News g L' s.heap ((view, instObj 87 dv) :: (dv, viewO w kv box ulv fd md) :: (ulv, listOf (List.toArray xv) cv) :: (ul, listOf (List.toArray xu) cu) :: (L' + 1, ou) :: (L' + 1 + 1, os) :: (L' + 1 + 1 + 1, ol) :: (b, tupO (List.toArray ws)) :: TT))
    (T : Top viewQ (looseW viewQ [Str.ofString "PostError"]) mean mg mb g) (GL : GlobAt mg mb g)
    (hxv : IntsAre xv us) (hxu : IntsAre xu us) (hlen : us.length ≤ 90) (hasc : us.Pairwise (· < ·)) (hpos : ∀ u ∈ us, 1 ≤ u) (hP : PairsL TT ws ps) (hpl : ps.length ≤ 3)
    (hou : ou.data = .cell (some (.ref ul))) (hos : os.data = .cell (some (.ref b))) (hol : ol.data = .cell (some (.int (us.getLast?.getD 0) tl)))
    (hQ : ∀ (h' : Heap) (tk' : Nat), Fr g L' h' (kstB m₀ [(Str.ofString "view", .ref view)]) →
      News g L' h' ((view, instObj 87 dv) :: (dv, viewO w kv box ulv fd md) :: (ulv, listOf (List.toArray xv) cv) :: (ul, listOf (List.toArray xu) cu) :: (L' + 1, ou) :: (L' + 1 + 1, os) :: (L' + 1 + 1 + 1, ol) :: (b, tupO (List.toArray ws)) :: TT) →
      Q .next { s with heap := h', toks := tk' }) :
    wpAny (model Challenge.rw_no0370_01.row.prog w) (callerA.deeper (envOfC (Str.ofString "law") sc L' fa (.ref ca))) (exec st (envOfC (Str.ofString "law") sc L' fa (.ref ca))) Q (fun _ _ => False) s := by
  obtain ⟨hb, hs⟩ := Prod.mk.inj (Option.some.inj ((show lawLap 2 = some (_, _) from rfl).symm.trans hlaw))
  subst hb hs
  clear hlaw
  revert X
  k_fill
  intro X
  k_steps
  unfold Stop
  rename Fr _ _ _ _ => F3
  rename News _ _ _ _ => N3
  refine Con.use (uids_in_con _ _ _ _ kv view dv box ulv fd md b xv ws us ps cv true) (by k_asm) (by k_asm) (by k_asm) (by k_asm) (by k_asm) rfl (by ktr_room) (by ktr_units)
    ⟨⟨by walk_at "MY_OBJ", by walk_at "MY_OBJ", by walk_at "MY_OBJ"⟩, hxv, hlen, hasc, by walk_at "MY_OBJ", (hP.mono fun q hq => .tail _ (.tail _ (.tail _ (.tail _ (.tail _ (.tail _ (.tail _ (.tail _ hq)))))))).toH N3, hpl⟩ ?_
  intro v h9 tk9 K9 F9 N9 hP9
  obtain ⟨b9, ws9, c9, rfl, hb9, hb9', hi9⟩ := hP9
  have N9 := kp_add F3 N9 hb9 hb9'
  clear F3 N3
  k_steps
  unfold Stop
  refine LCt.ListComp_T F9 (by with_unfolding_all rfl) (by decide) (by rfl) (by decide) (by rfl) ?_
  k_steps
  (try unfold Stop)
  have hxl := hxu.length
  refine LCt.CompSrcT.ledger (by rfl) F9 N9 (.tail _ (.tail _ (.tail _ (.tail _ (.head _))))) (by rw [List.size_toArray, sizeLine_eq]; omega) fun g' => ?_
  refine crestT (fun i ys nw => IntsAre ys ((us.take i).filter (fun u => decide (0 < us.getLast?.getD 0) && memB ps (us.getLast?.getD 0) u)) ∧ nw = _) ?_ ?_ ⟨.nil, rfl⟩
  · rintro j v2 I2 oI2 C oC D m2 ys nw h3 tk3 E' hj hv2 ⟨hys, rfl⟩ hNs hx F3 N3 off ne
    obtain ⟨n2, t2, rfl, hn2⟩ := ints_get hxu (by simpa using hv2)
    clear F9 N9
    k_steps
    unfold Stop
    have hstep := filt_step (p := fun u => decide (0 < us.getLast?.getD 0) && memB ps (us.getLast?.getD 0) u) hn2
    refine Con.use (within_con _ _ _ _ b ws ps n2 (us.getLast?.getD 0) t2 tl) (by k_asm) (by k_asm) (by k_asm) (by k_asm) (by k_asm) rfl (by ktr_room) (by ktr_units)
      ⟨by walk_at "MY_OBJ", (hP.mono fun q hq => .tail _ (.tail _ (.tail _ (.tail _ (.tail _ (.tail _ (.tail _ (.tail _ (.tail _ (.tail _ (.tail _ (.tail _ (hq))))))))))))).toH N3⟩ ?_
    intro v h9 tk9 K9 F9 N9 hP9
    unfold WithinPost at hP9
    subst hP9
    cases hbv : (decide (0 < us.getLast?.getD 0) && memB ps (us.getLast?.getD 0) n2) with
    | true =>
      k_steps
      unfold Stop
      refine LCg.CompEnd.intro F9 N9 _ (fun _ h => h) off (.inr ⟨_, .tail _ (.tail _ (.tail _ (.tail _ (.head _)))), rfl, _, rfl⟩) ⟨?_, rfl⟩
      rw [hstep, hbv, if_pos rfl]
      exact ints_app hys (.cons _ _ .nil)
    | false =>
      k_steps
      unfold Stop
      refine LCg.CompEnd.intro F9 N9 _ (fun _ h => h) off (.inr ⟨_, .tail _ (.tail _ (.tail _ (.tail _ (.head _)))), rfl, _, rfl⟩) ⟨?_, rfl⟩
      rw [hstep, hbv, if_neg (by simp), List.append_nil]
      exact hys
  · rintro ys nw ⟨hys, rfl⟩
    intro D h4 tk4 F4 N4 o4
    rw [List.size_toArray, hxl, List.take_length] at hys
    clear F9 N9
    k_steps
    unfold Stop
    refine ke_ne_ints (xs := ws9) (ys := ys) (PySem.IsL.isList (N4 _ (.tail _ (.head _))).1) (PySem.IsL.isList (N4 _ (.head _)).1) hi9 hys (by ktr_units) ?_
    rw [show (!decide (UidsIn ps us true = us.filter (fun u => decide (0 < us.getLast?.getD 0) && memB ps (us.getLast?.getD 0) u))) = false by rw [decide_eq_true (filt_pos hpos)]; rfl]
    k_steps
    exact hQ _ _ F4 fun q hq => N4 q (.tail _ (.tail _ hq))
end
section

theorem enum_ints {xs : List Value} {ns : List Int} (h : IntsAre xs ns) : ∀ l : List Nat, (∀ j ∈ l, j < xs.length) → IntsAre (l.map fun j => xs.toArray.getD j .none) (l.map fun j => ns.getD j 0)
  | [], _ => .nil
  | j :: l, hl => by
    have hj := hl j (.head _)
    have ih := enum_ints h l fun k hk => hl k (.tail _ hk)
    obtain ⟨n, t, e, hn⟩ := ints_get h (i := j) (v := xs[j]) (List.getElem?_eq_getElem hj)
    rw [List.map_cons, List.map_cons]
    rw [show xs.toArray.getD j .none = .int n t by rw [← e]; simp [Array.getD, hj], show ns.getD j 0 = n by simp [List.getD, hn]]
    exact .cons n t ih
theorem enum_eq {xu : List Value} {us : List Int} {ps : List (Int × Int)} (hxl : xu.length = us.length) :
    UidsIn ps us false = (List.filter (fun (i : Nat) => decide (0 < (xu.length : Int)) && memB ps (xu.length : Int) ((i : Int) + 1)) (List.range xu.toArray.size)).map fun j => us.getD j 0 := by
  rw [List.size_toArray, hxl]
  show ((rangeKs 1 us.length).filter (memB ps (us.length : Int))).map (fun j => us.getD (j - 1).toNat 0) = _
  unfold rangeKs
  rw [List.filter_map, List.map_map]
  have e1 : (List.range us.length).filter (memB ps (us.length : Int) ∘ fun (i : Nat) => (1 : Int) + i) = (List.range us.length).filter (fun (i : Nat) => decide (0 < (us.length : Int)) && memB ps (us.length : Int) ((i : Int) + 1)) := by
    refine List.filter_congr fun i hi => ?_
    have hi2 := List.mem_range.mp hi
    rw [decide_eq_true (by omega : (0 : Int) < us.length), Bool.true_and]
    show memB ps _ (1 + (i : Int)) = _
    rw [Int.add_comm]
  rw [e1]
  refine List.map_congr_left fun i _ => ?_
  show us.getD ((1 : Int) + i - 1).toNat 0 = _
  rw [show ((1 : Int) + i - 1).toNat = i by omega]
theorem lap_b {w : World} {mean : ExcName → Option Value} {mg mb : Str → Option Value} {g : Heap} {fa ca L' : Addr} {m₀ : Str → Option Value} {st : Stmt} {sc : Scope} {s : Shared} {Q : Flow → Shared → Prop}
    {kv : Nat → Tok} {view dv box ulv fd md ul b : Addr} {cv cu : Nat} {xv xu ws : List Value} {us : List Int} {ps : List (Int × Int)} {ou os ol : Obj} {tl : Tok} {TT : List (Addr × Obj)}
    (hlaw : lawLap 3 = some (st, sc)) (K0 : Below callerA g [] g) (F : Fr g L' s.heap (kstB m₀ [(Str.ofString "view", .ref view)])) (X : (hd.heap_1 w.params).In g)
    (N : News g L' s.heap ((view, instObj 87 dv) :: (dv, viewO w kv box ulv fd md) :: (ulv, listOf (List.toArray xv) cv) :: (ul, listOf (List.toArray xu) cu) :: (L' + 1, ou) :: (L' + 1 + 1, os) :: (L' + 1 + 1 + 1, ol) :: (b, tupO (List.toArray ws)) :: TT))
    (T : Top viewQ (looseW viewQ [Str.ofString "PostError"]) mean mg mb g) (GL : GlobAt mg mb g)
    (hxv : IntsAre xv us) (hxu : IntsAre xu us) (hlen : us.length ≤ 90) (hasc : us.Pairwise (· < ·)) (hpos : ∀ u ∈ us, 1 ≤ u) (hP : PairsL TT ws ps) (hpl : ps.length ≤ 3)
    (hou : ou.data = .cell (some (.ref ul))) (hos : os.data = .cell (some (.ref b))) (hol : ol.data = .cell (some (.int (us.getLast?.getD 0) tl)))
    (hQ : ∀ (h' : Heap) (tk' : Nat), Fr g L' h' (kstB m₀ [(Str.ofString "view", .ref view)]) →
      News g L' h' ((view, instObj 87 dv) :: (dv, viewO w kv box ulv fd md) :: (ulv, listOf (List.toArray xv) cv) :: (ul, listOf (List.toArray xu) cu) :: (L' + 1, ou) :: (L' + 1 + 1, os) :: (L' + 1 + 1 + 1, ol) :: (b, tupO (List.toArray ws)) :: TT) →
      Q .next { s with heap := h', toks := tk' }) :
    wpAny (model Challenge.rw_no0370_01.row.prog w) (callerA.deeper (envOfC (Str.ofString "law") sc L' fa (.ref ca))) (exec st (envOfC (Str.ofString "law") sc L' fa (.ref ca))) Q (fun _ _ => False) s := by
  obtain ⟨hb, hs⟩ := Prod.mk.inj (Option.some.inj ((show lawLap 3 = some (_, _) from rfl).symm.trans hlaw))
  subst hb hs
  clear hlaw
  revert X
  k_fill
  intro X
  k_steps
  unfold Stop
  rename Fr _ _ _ _ => F3
  rename News _ _ _ _ => N3
  refine Con.use (uids_in_con _ _ _ _ kv view dv box ulv fd md b xv ws us ps cv false) (by k_asm) (by k_asm) (by k_asm) (by k_asm) (by k_asm) rfl (by ktr_room) (by ktr_units)
    ⟨⟨by walk_at "MY_OBJ", by walk_at "MY_OBJ", by walk_at "MY_OBJ"⟩, hxv, hlen, hasc, by walk_at "MY_OBJ", (hP.mono fun q hq => .tail _ (.tail _ (.tail _ (.tail _ (.tail _ (.tail _ (.tail _ (.tail _ hq)))))))).toH N3, hpl⟩ ?_
  intro v h9 tk9 K9 F9 N9 hP9
  obtain ⟨b9, ws9, c9, rfl, hb9, hb9', hi9⟩ := hP9
  have N9 := kp_add F3 N9 hb9 hb9'
  clear F3 N3
  k_steps
  unfold Stop
  have hxl := hxu.length
  refine ListComp_enum F9 (by with_unfolding_all rfl) (by decide) (by rfl) (by decide) (by rfl) (by rfl) (by decide) (by decide) ?_
  k_steps
  unfold Stop
  refine SrcEnum.intro (fun i => decide (0 < (xu.length : Int)) && memB ps (xu.length : Int) ((i : Int) + 1)) (by rfl) F9 N9 (.inr ⟨_, .tail _ (.tail _ (.tail _ (.tail _ (.head _)))), rfl, _, rfl⟩) (by rw [List.size_toArray]; omega) ?_ ?_
  · rintro i v t3 h3 tk3 C D oC m2 ys own E' hv hNs hxa hxb F3 N3
    obtain ⟨n2, t2, rfl, hn2⟩ := ints_get hxu (by simpa using hv)
    simp only [List.cons_append, List.nil_append] at N3
    clear F9 N9
    k_steps
    unfold Stop
    refine Con.use (within_con _ _ _ _ b ws ps ((i : Int) + 1) (xu.length : Int) _ _) (by k_asm) (by k_asm) (by k_asm) (by k_asm) (by k_asm) rfl (by ktr_room) (by ktr_units)
      ⟨by walk_at "MY_OBJ", (hP.mono fun q hq => .tail _ (.tail _ (.tail _ (.tail _ (.tail _ (.tail _ (.tail _ (.tail _ (.tail _ (.tail _ (.tail _ (List.mem_append_left _ hq)))))))))))).toH N3⟩ ?_
    intro v h9 tk9 K9 F9 N9 hP9
    unfold WithinPost at hP9
    subst hP9
    k_steps
    exact TestEnd.intro F9 N9 (fun _ h => h) rfl
  · intro gg D h4 tk4 F4 N4 o4
    have hys := enum_ints hxu (List.filter (fun (i : Nat) => decide (0 < (xu.length : Int)) && memB ps (xu.length : Int) ((i : Int) + 1)) (List.range xu.toArray.size)) (fun j hj => by have := List.mem_range.mp (List.mem_filter.mp hj).1; rwa [List.size_toArray] at this)
    clear F9 N9
    k_steps
    unfold Stop
    refine ke_ne_ints (xs := ws9) (PySem.IsL.isList (N4 _ (.tail _ (.head _))).1) (PySem.IsL.isList (N4 _ (.head _)).1) hi9 hys (by ktr_units) ?_
    rw [show (!decide (UidsIn ps us false = (List.filter (fun (i : Nat) => decide (0 < (xu.length : Int)) && memB ps (xu.length : Int) ((i : Int) + 1)) (List.range xu.toArray.size)).map fun j => us.getD j 0)) = false by rw [decide_eq_true (enum_eq hxl)]; rfl]
    k_steps
    exact hQ _ _ F4 fun q hq => N4 q (.tail _ (.tail _ hq))
end
section

theorem has_no {ps : List (Int × Int)} {us : List Int} {n M : Int} (hn : n = (us.length : Int)) (hM : M ∈ endsL ps) (hmax : ∀ a, a ∈ endsL ps → a ≤ M) :
    decide ((endsL ps).filter (hasB n) = []) = (decide (M ≤ n) && (!((endsL ps).any (· == 0)) || !decide (us = []))) := by
  have key : (endsL ps).filter (hasB n) = [] ↔ ∀ e ∈ endsL ps, ¬ (e > n ∨ (e = 0 ∧ n = 0)) := by
    rw [List.filter_eq_nil_iff]
    simp [hasB]
  have hz : us = [] ↔ n = 0 := by
    rw [hn]; cases us <;> simp; omega
  by_cases h1 : M ≤ n
  · rw [decide_eq_true h1, Bool.true_and]
    by_cases h2 : (endsL ps).any (· == 0) = true
    · have h2' : (0 : Int) ∈ endsL ps := by
        obtain ⟨x, hx, e⟩ := List.any_eq_true.mp h2
        have : x = 0 := by simpa using e
        exact this ▸ hx
      rw [h2, Bool.not_true, Bool.false_or]
      by_cases h3 : us = []
      · rw [decide_eq_true h3, decide_eq_false]; rfl
        intro q
        exact key.mp q 0 h2' (.inr ⟨rfl, hz.mp h3⟩)
      · rw [decide_eq_false h3, decide_eq_true]; rfl
        refine key.mpr fun e he => ?_
        rintro (q | ⟨_, q⟩)
        · have := hmax e he; omega
        · exact h3 (hz.mpr q)
    · rw [(Bool.not_eq_true _).mp h2, Bool.not_false, Bool.true_or, decide_eq_true]
      refine key.mpr fun e he => ?_
      rintro (q | ⟨q, _⟩)
      · have := hmax e he; omega
      · exact h2 (List.any_eq_true.mpr ⟨e, he, by simp [q]⟩)
  · rw [decide_eq_false h1, Bool.false_and, decide_eq_false]
    intro q
    exact key.mp q M hM (.inl (by omega))
theorem lap_d {w : World} {mean : ExcName → Option Value} {mg mb : Str → Option Value} {g : Heap} {fa ca L' : Addr} {m₀ : Str → Option Value} {st : Stmt} {sc : Scope} {s : Shared} {Q : Flow → Shared → Prop}
    {kv : Nat → Tok} {view dv box ulv fd md ul b : Addr} {cv cu : Nat} {xv xu ws : List Value} {us : List Int} {ps : List (Int × Int)} {ou os ol : Obj} {tl : Tok} {TT : List (Addr × Obj)} {en : Addr} {ce : Nat} {xe : List Value}
    (hlaw : lawLap 5 = some (st, sc)) (K0 : Below callerA g [] g) (F : Fr g L' s.heap (kstB m₀ [(Str.ofString "view", .ref view), (Str.ofString "ends", .ref en)])) (X : (hd.heap_1 w.params).In g)
    (N : News g L' s.heap ((view, instObj 87 dv) :: (dv, viewO w kv box ulv fd md) :: (ulv, listOf (List.toArray xv) cv) :: (ul, listOf (List.toArray xu) cu) :: (L' + 1, ou) :: (L' + 1 + 1, os) :: (L' + 1 + 1 + 1, ol) :: (b, tupO (List.toArray ws)) :: (en, listOf (List.toArray xe) ce) :: TT))
    (T : Top viewQ (looseW viewQ [Str.ofString "PostError"]) mean mg mb g) (GL : GlobAt mg mb g)
    (hxv : IntsAre xv us) (hxu : IntsAre xu us) (hlen : us.length ≤ 90) (hasc : us.Pairwise (· < ·)) (hpos : ∀ u ∈ us, 1 ≤ u) (hP : PairsL TT ws ps) (hpl : ps.length ≤ 3) (hpl1 : 1 ≤ ps.length) (hxe : IntsAre xe (endsL ps))
    (hou : ou.data = .cell (some (.ref ul))) (hos : os.data = .cell (some (.ref b))) (hol : ol.data = .cell (some (.int (us.getLast?.getD 0) tl)))
    (hQ : ∀ (h' : Heap) (tk' : Nat), Fr g L' h' (kstB m₀ [(Str.ofString "view", .ref view), (Str.ofString "ends", .ref en)]) →
      News g L' h' ((view, instObj 87 dv) :: (dv, viewO w kv box ulv fd md) :: (ulv, listOf (List.toArray xv) cv) :: (ul, listOf (List.toArray xu) cu) :: (L' + 1, ou) :: (L' + 1 + 1, os) :: (L' + 1 + 1 + 1, ol) :: (b, tupO (List.toArray ws)) :: (en, listOf (List.toArray xe) ce) :: TT) →
      Q .next { s with heap := h', toks := tk' }) :
    wpAny (model Challenge.rw_no0370_01.row.prog w) (callerA.deeper (envOfC (Str.ofString "law") sc L' fa (.ref ca))) (exec st (envOfC (Str.ofString "law") sc L' fa (.ref ca))) Q (fun _ _ => False) s := by
  obtain ⟨hb, hs⟩ := Prod.mk.inj (Option.some.inj ((show lawLap 5 = some (_, _) from rfl).symm.trans hlaw))
  subst hb hs
  clear hlaw
  revert X
  k_fill
  intro X
  have hxl := hxu.length
  have hvl := hxv.length
  k_steps
  unfold Stop
  rename Fr _ _ _ _ => F3
  rename News _ _ _ _ => N3
  refine Con.use (has_con _ _ _ _ kv view dv box ulv fd md b xv ws us ps cv) (by k_asm) (by k_asm) (by k_asm) (by k_asm) (by k_asm) rfl (by ktr_room) (by ktr_units)
    ⟨⟨by walk_at "MY_OBJ", by walk_at "MY_OBJ", by walk_at "MY_OBJ"⟩, by rw [hvl]; exact hlen, by walk_at "MY_OBJ", (hP.mono fun q hq => .tail _ (.tail _ (.tail _ (.tail _ (.tail _ (.tail _ (.tail _ (.tail _ (.tail _ (hq)))))))))).toH N3, hpl⟩ ?_
  intro v h9 tk9 K9 F9 N9 hP9
  unfold HasPost at hP9
  subst hP9
  clear F3 N3
  cases hB : decide ((endsL ps).filter (hasB (xv.length : Int)) = [])
  all_goals (
    k_steps
    unfold Stop
    rename Fr _ _ _ _ => F4
    rename News _ _ _ _ => N4
    refine kso_max (vs := xe) (ns := endsL ps) F4 N4 (PySem.IsL.isList (N4 _ (.tail _ (.tail _ (.tail _ (.tail _ (.tail _ (.tail _ (.tail _ (.tail _ (.head _)))))))))).1) hxe (by rw [endsL_len]; omega) (by with_unfolding_all rfl) ?_
    intro h4 M tM tk4 F5 N5 hM hmax
    clear F4 N4
    have hno := has_no (us := us) (n := (xv.length : Int)) (by rw [hvl]) hM hmax
    rw [hB] at hno
    have e : (xv.length : Int) = (xu.length : Int) := by rw [hvl, hxl]
    k_steps)
  all_goals (first
    | (rename ¬ M ≤ _ => a1
       rw [e, decide_eq_false a1, Bool.false_and] at hno
       first | contradiction | exact hQ _ _ (by assumption) (by assumption) | (exfalso; rename (_ != _) = true => a2; rw [decide_eq_false a1] at a2; exact absurd a2 (by decide)))
    | skip)
  all_goals (
    rename M ≤ _ => a1
    unfold Stop
    rename News _ _ _ _ => N4
    refine notin_list_ints (vs := xe) (ns := endsL ps) (PySem.IsL.isList (N4 _ (.tail _ (.tail _ (.tail _ (.tail _ (.tail _ (.tail _ (.tail _ (.tail _ (.head _)))))))))).1) hxe ?_
    rw [e, decide_eq_true a1, Bool.true_and] at hno
    cases hZ : (endsL ps).any (· == 0)
    · rw [hZ, Bool.not_false, Bool.true_or] at hno
      k_steps
      all_goals (first | contradiction | exact hQ _ _ (by assumption) (by assumption))
    · rw [hZ, Bool.not_true, Bool.false_or] at hno
      k_steps
      unfold Stop
      rename News _ _ _ _ => N5
      refine ke_ne_ints (xs := xu) (ys := []) (PySem.IsL.isList (N5 _ (.tail _ (.tail _ (.tail _ (.tail _ (.head _)))))).1) (PySem.IsL.isList (N5 _ (.head _)).1) hxu .nil (by ktr_units) ?_
      rw [← hno]
      k_steps
      all_goals (first | contradiction | exact hQ _ _ (by assumption) (fun q hq => (by assumption : News g L' _ _) q (.tail _ hq))))
end
theorem off_L9 : True ∧ True := by
  first
  | (walk1; all_goals trivial)
  | exact ⟨trivial, trivial⟩
section

local macro_rules | `(tactic| walk_at "exec If") => `(tactic| (k_here; refine stopHere ?_))
theorem nodup9 {a0 a1 a2 a3 a4 a5 a6 a7 a8 : Addr} (h : ([a0, a1, a2, a3, a4, a5, a6, a7, a8] : List Addr).Nodup) :
    ((@Ne Nat a5 a0) ∧ (@Ne Nat a5 a1) ∧ (@Ne Nat a5 a2) ∧ (@Ne Nat a5 a3) ∧ (@Ne Nat a5 a4) ∧ (@Ne Nat a5 a6) ∧ (@Ne Nat a5 a7) ∧ (@Ne Nat a5 a8)) ∧
    ((@Ne Nat a6 a0) ∧ (@Ne Nat a6 a1) ∧ (@Ne Nat a6 a2) ∧ (@Ne Nat a6 a3) ∧ (@Ne Nat a6 a4) ∧ (@Ne Nat a6 a7) ∧ (@Ne Nat a6 a8)) ∧
    ((@Ne Nat a7 a0) ∧ (@Ne Nat a7 a1) ∧ (@Ne Nat a7 a2) ∧ (@Ne Nat a7 a3) ∧ (@Ne Nat a7 a4) ∧ (@Ne Nat a7 a8)) := by
  simp only [List.nodup_cons, List.mem_cons, List.not_mem_nil, or_false, not_or] at h
  obtain ⟨⟨_, _, _, _, x05, x06, x07, _⟩, ⟨_, _, _, x15, x16, x17, _⟩, ⟨_, _, x25, x26, x27, _⟩, ⟨_, x35, x36, x37, _⟩, ⟨x45, x46, x47, _⟩, ⟨x56, x57, x58⟩, ⟨x67, x68⟩, x78, _⟩ := h
  exact ⟨⟨Ne.symm x05, Ne.symm x15, Ne.symm x25, Ne.symm x35, Ne.symm x45, x56, x57, x58⟩, ⟨Ne.symm x06, Ne.symm x16, Ne.symm x26, Ne.symm x36, Ne.symm x46, x67, x68⟩, ⟨Ne.symm x07, Ne.symm x17, Ne.symm x27, Ne.symm x37, Ne.symm x47, x78⟩⟩
theorem news_sub {h₀ h : Heap} {L : Addr} {l l' : List (Addr × Obj)} (N : News h₀ L h l) (hs : ∀ q ∈ l', q ∈ l) : News h₀ L h l' := fun q hq => N q (hs q hq)
theorem filt_all {α : Type} (l : List α) : l.filter (fun _ => true) = l := List.filter_eq_self.mpr fun _ _ => rfl
theorem lap_nums {i : Nat} {sp sp' : Int} (h : 0 ≤ sp ∧ sp ≤ 100) (h1 : sp ≤ sp') (h2 : sp' ≤ sp + 10 * (i : Int)) (hi : i < 3) : 0 ≤ sp' ∧ sp' ≤ 900 := by omega
theorem lap_next {i : Nat} {sp sp' sp2 : Int} (h1 : sp ≤ sp') (h2 : sp' ≤ sp + 10 * (i : Int)) (h3 : sp' ≤ sp2) (h4 : sp2 ≤ sp' + 10) : sp ≤ sp2 ∧ sp2 ≤ sp + 10 * ((i + 1 : Nat) : Int) := by omega
theorem loop_lap {w : World} {mean : ExcName → Option Value} {mg mb : Str → Option Value} {g : Heap} {fa ca L' : Addr} {m₀ : Str → Option Value} {st : Stmt} {sc : Scope} {s : Shared} {Q : Flow → Shared → Prop}
    {kv : Nat → Tok} {view dv box ulv fd md ul pen cl : Addr} {cv cu n c0 : Nat} {xv xu cs : List Value} {us ns : List Int} {ou os ol : Obj} {sp pw : Int} {t tw : Tok} {zs zl : Option Value} {R2 : List (Addr × Obj)}
    (hlaw : lawAt 7 = some (st, sc)) (K0 : Below callerA g [] g) (F : Fr g L' s.heap (kstB m₀ [(Str.ofString "pen", .ref pen), (Str.ofString "view", .ref view)])) (X : (hd.heap_1 w.params).In g)
    (N : News g L' s.heap ((view, instObj 87 dv) :: (dv, viewO w kv box ulv fd md) :: (ulv, listOf (List.toArray xv) cv) :: (ul, listOf (List.toArray xu) cu) :: (L' + 1, ou) :: (L' + 1 + 1, os) :: (L' + 1 + 1 + 1, ol) :: (pen, penO cl sp t pw tw n) :: (cl, listOf (List.toArray cs) c0) :: R2))
    (T : Top viewQ (looseW viewQ [Str.ofString "PostError"]) mean mg mb g) (GL : GlobAt mg mb g)
    (hxv : IntsAre xv us) (hxu : IntsAre xu us) (hlen : us.length ≤ 90) (hasc : us.Pairwise (· < ·)) (hpos : ∀ u ∈ us, 1 ≤ u) (hcs : IntsAre cs ns) (hns : ns.length ≤ 100) (hsp : 0 ≤ sp ∧ sp ≤ 100) (hpw : 0 ≤ pw ∧ pw ≤ 1000)
    (hou : ou.data = .cell (some (.ref ul))) (hos : os.data = .cell zs) (hol : ol.data = .cell zl)
    (hnd : ([view, dv, ulv, ul, (L' + 1), (L' + 1 + 1), (L' + 1 + 1 + 1), pen, cl] : List Addr).Nodup) (hR : OwnOff R2 [L' + 1 + 1, L' + 1 + 1 + 1, pen])
    (hQ : ∀ (os' ol' : Obj) (sp' : Int) (t' : Tok) (m₁ : Str → Option Value) (h' : Heap) (tk' : Nat), Fr g L' h' (kstB m₁ [(Str.ofString "pen", .ref pen), (Str.ofString "view", .ref view)]) →
      News g L' h' ((view, instObj 87 dv) :: (dv, viewO w kv box ulv fd md) :: (ulv, listOf (List.toArray xv) cv) :: (ul, listOf (List.toArray xu) cu) :: (L' + 1, ou) :: (L' + 1 + 1, os') :: (L' + 1 + 1 + 1, ol') :: (pen, penO cl sp' t' pw tw n) :: (cl, listOf (List.toArray cs) c0) :: R2) →
      Q .next { s with heap := h', toks := tk' }) :
    wpAny (model Challenge.rw_no0370_01.row.prog w) (callerA.deeper (envOfC (Str.ofString "law") sc L' fa (.ref ca))) (exec st (envOfC (Str.ofString "law") sc L' fa (.ref ca))) Q (fun _ _ => False) s := by
  obtain ⟨hb, hs⟩ := Prod.mk.inj (Option.some.inj ((show lawAt 7 = some (_, _) from rfl).symm.trans hlaw))
  subst hb hs
  clear hlaw
  revert X
  k_fill
  intro X
  obtain ⟨⟨s0, s1, s2, s3, s4, s6, s7, s8⟩, ⟨l0, l1, l2, l3, l4, l7, l8⟩, ⟨p0, p1, p2, p3, p4, p8⟩⟩ := nodup9 hnd
  refine For_turns F ?_ (by intro x; rfl) (by passes_own)
  k_steps
  rename IsRange _ _ _ _ _ _ _ _ => hRg
  rename Fr _ _ _ _ => F2
  rename News _ _ _ _ => N2
  refine' iterS_range (σ := Obj × Obj × Int × Tok × Option Value × Option Value) [Str.ofString "lap", Str.ofString "ends"] (fun _ _ => [(Str.ofString "pen", .ref pen), (Str.ofString "view", .ref view)])
    (fun _ c => (view, instObj 87 dv) :: (dv, viewO w kv box ulv fd md) :: (ulv, listOf (List.toArray xv) cv) :: (ul, listOf (List.toArray xu) cu) :: (L' + 1, ou) :: (L' + 1 + 1, c.1) :: (L' + 1 + 1 + 1, c.2.1) :: (pen, penO cl c.2.2.1 c.2.2.2.1 pw tw n) :: (cl, listOf (List.toArray cs) c0) :: R2)
    (fun i c => sp ≤ c.2.2.1 ∧ c.2.2.1 ≤ sp + 10 * (i : Int) ∧ c.1.data = .cell c.2.2.2.2.1 ∧ c.2.1.data = .cell c.2.2.2.2.2) (os, ol, sp, t, zs, zl) (n := 3)
    rfl F2 N2 ?g1 ?g2 ?g3 hRg (by decide +kernel) (by decide +kernel) (by intro it v; rfl) ?g4 ?g5
  case g1 => intro p hp; exact hp
  case g2 => exact ⟨Int.le_refl _, by dsimp only; omega, hos, hol⟩
  case g3 => intro p hp; rcases List.mem_cons.mp hp with rfl | hp; rfl; rw [List.mem_singleton.mp hp]; rfl
  case g5 =>
    rintro ⟨os', ol', sp', t', zs', zl'⟩ u h tk - F' N'
    exact hQ os' ol' sp' t' _ h tk F' N'
  case g4 =>
    clear F2 N2 hRg hos hol
    rintro i tl ⟨os, ol, sp', t', zs, zl⟩ u h tk I oI hi ⟨hs1, hs2, hos, hol⟩ hI F' N'
    dsimp only at hs1 hs2 hos hol hI F' N' ⊢
    have i0 := neN (hI _ (.head _))
    have i1 := neN (hI _ (.tail _ (.head _)))
    have i2 := neN (hI _ (.tail _ (.tail _ (.head _))))
    have i3 := neN (hI _ (.tail _ (.tail _ (.tail _ (.head _)))))
    have i4 := neN (hI _ (.tail _ (.tail _ (.tail _ (.tail _ (.head _))))))
    have i5 := neN (hI _ (.tail _ (.tail _ (.tail _ (.tail _ (.tail _ (.head _)))))))
    have i6 := neN (hI _ (.tail _ (.tail _ (.tail _ (.tail _ (.tail _ (.tail _ (.head _))))))))
    have i7 := neN (hI _ (.tail _ (.tail _ (.tail _ (.tail _ (.tail _ (.tail _ (.tail _ (.head _)))))))))
    have i8 := neN (hI _ (.tail _ (.tail _ (.tail _ (.tail _ (.tail _ (.tail _ (.tail _ (.tail _ (.head _))))))))))
    dsimp only at i0 i1 i2 i3 i4 i5 i6 i7 i8
    obtain ⟨hsp0, hsp9⟩ := lap_nums hsp hs1 hs2 hi
    k_steps
    unfold Stop
    rename Fr _ _ _ _ => F3
    rename News _ _ _ _ => N3
    refine' Con.use1 (set_con _ _ _ _ pen cl sp' pw t' tw n c0 cs ns hsp0 hsp9 hpw.1 hpw.2) ?Ba ?Fa ?Xa ?Na ?Ta ?hka ?hda ?hua ?Ua ?hpa ?ka
    case Ba => k_asm
    case Fa => k_asm
    case Xa => k_asm
    case Na => k_asm
    case Ta => k_asm
    case hka => exact rfl
    case hda => ktr_room
    case hua => ktr_units
    case Ua => k_updF
    case hpa => exact ⟨Ne.symm p8, by walk_at "MY_OBJ", hcs, hns⟩
    intro v h9 tk9 K9 F9 N9 hP
    obtain ⟨b, ws, ps, T2, sp2, t2, rfl, hfr, hb, hPL, hp1, hp3, hbnd, hq1, hq2, hpen⟩ := hP
    have N9 := N9 _ hpen
    have ap := hfr.apart N3
    have N9 := hfr.toNews F3 N9
    obtain ⟨hn1, hn2⟩ := lap_next (i := i) hs1 hs2 hq1 hq2
    have hTo : OwnOff (T2 ++ R2) [L' + 1 + 1, L' + 1 + 1 + 1] := by
      intro q hq x hx
      rcases List.mem_append.mp hq with hq | hq
      · rcases List.mem_cons.mp hx with rfl | hx
        · exact ap q hq _ (.tail _ (.tail _ (.tail _ (.tail _ (.tail _ (.tail _ (.head _)))))))
        · rw [List.mem_singleton.mp hx]; exact ap q hq _ (.tail _ (.tail _ (.tail _ (.tail _ (.tail _ (.tail _ (.tail _ (.head _))))))))
      · rcases List.mem_cons.mp hx with rfl | hx
        · exact hR q hq _ (.head _)
        · rw [List.mem_singleton.mp hx]; exact hR q hq _ (.tail _ (.head _))
    have b5 : @Ne Nat b (L' + 1 + 1) := ap _ hb _ (.tail _ (.tail _ (.tail _ (.tail _ (.tail _ (.tail _ (.head _)))))))
    have b6 : @Ne Nat b (L' + 1 + 1 + 1) := ap _ hb _ (.tail _ (.tail _ (.tail _ (.tail _ (.tail _ (.tail _ (.tail _ (.head _))))))))
    have hPL2 : PairsL (T2 ++ R2) ws ps := hPL.mono fun q hq => List.mem_append_left _ hq
    have hRT : ∀ q ∈ R2, q ∈ T2 ++ R2 := fun q hq => List.mem_append_right _ hq
    replace N9 : News g L' h9 ((I, oI) :: (view, instObj 87 dv) :: (dv, viewO w kv box ulv fd md) :: (ulv, listOf (List.toArray xv) cv) :: (ul, listOf (List.toArray xu) cu) :: (L' + 1, ou) :: (L' + 1 + 1, os) :: (L' + 1 + 1 + 1, ol) :: (pen, penO cl sp2 t2 pw tw n) :: (cl, listOf (List.toArray cs) c0) :: (b, tupO (List.toArray ws)) :: (T2 ++ R2)) := by
      refine fun q hq => N9 q ?_
      simp only [List.mem_cons, List.mem_append] at hq
      rcases hq with rfl | rfl | rfl | rfl | rfl | rfl | rfl | rfl | rfl | rfl | rfl | hq | hq
      · exact List.mem_append_right _ (.head _)
      · exact List.mem_append_right _ (.tail _ (.head _))
      · exact List.mem_append_right _ (.tail _ (.tail _ (.head _)))
      · exact List.mem_append_right _ (.tail _ (.tail _ (.tail _ (.head _))))
      · exact List.mem_append_right _ (.tail _ (.tail _ (.tail _ (.tail _ (.head _)))))
      · exact List.mem_append_right _ (.tail _ (.tail _ (.tail _ (.tail _ (.tail _ (.head _))))))
      · exact List.mem_append_right _ (.tail _ (.tail _ (.tail _ (.tail _ (.tail _ (.tail _ (.head _)))))))
      · exact List.mem_append_right _ (.tail _ (.tail _ (.tail _ (.tail _ (.tail _ (.tail _ (.tail _ (.head _))))))))
      · exact List.mem_append_right _ (.tail _ (.tail _ (.tail _ (.tail _ (.tail _ (.tail _ (.tail _ (.tail _ (.head _)))))))))
      · exact List.mem_append_right _ (.tail _ (.tail _ (.tail _ (.tail _ (.tail _ (.tail _ (.tail _ (.tail _ (.tail _ (.head _))))))))))
      · exact List.mem_append_left _ hb
      · exact List.mem_append_left _ hq
      · exact List.mem_append_right _ (.tail _ (.tail _ (.tail _ (.tail _ (.tail _ (.tail _ (.tail _ (.tail _ (.tail _ (.tail _ (hq)))))))))))
    generalize T2 ++ R2 = TT at hTo hPL2 hRT N9
    clear ap hfr K9 F3 N3 hPL hb hR hs1 hs2 hq1 hq2 hpen
    k_steps
    unfold Stop
    rename News _ _ _ _ => N5
    refine ke_ne_ints (xs := xu) (ys := []) (PySem.IsL.isList (N5 _ (.tail _ (.tail _ (.tail _ (.tail _ (.tail _ (.head _))))))).1) (PySem.IsL.isList (N5 _ (.head _)).1) hxu .nil (by ktr_units) ?_
    rcases List.eq_nil_or_concat us with e | ⟨us0, x, e⟩
    · subst e
      rw [show (!decide (([] : List Int) = [])) = false from rfl]
      k_steps
      unfold Stop
      rename Fr _ _ _ _ => F5
      rename News _ _ _ _ => N5
      obtain ⟨l9, e9⟩ := news_a0 N5
      subst e9
      obtain ⟨os2, e9⟩ := news_o0 (news_tl (news_tl (news_tl (news_tl (news_tl (news_tl (news_tl N5)))))))
      subst e9
      obtain ⟨ol2, e9⟩ := news_o0 (news_tl (news_tl (news_tl (news_tl (news_tl (news_tl (news_tl (news_tl N5))))))))
      subst e9
      have hos2 : os2.data = .cell (some (.ref b)) := by assumption
      obtain ⟨t9, hol2⟩ : ∃ t9, ol2.data = .cell (some (.int (([] : List Int).getLast?.getD 0) t9)) := ⟨_, by assumption⟩
      have hPT : PairsL ((I, oI) :: (pen, penO cl sp2 t2 pw tw n) :: (cl, listOf (List.toArray cs) c0) :: TT) ws ps := hPL2.mono fun q hq => .tail _ (.tail _ (.tail _ hq))
      refine lap_a (kv := kv) (dv := dv) (box := box) (ulv := ulv) (fd := fd) (md := md) (ul := ul) (b := b) (cv := cv) (cu := cu) (ws := ws) (ps := ps) (ou := ou) (os := os2) (ol := ol2) (TT := (I, oI) :: (pen, penO cl sp2 t2 pw tw n) :: (cl, listOf (List.toArray cs) c0) :: TT) (by rfl) K0 (fr_re (ps := [(Str.ofString "view", .ref view)]) ?_ F5) X ?_ T GL hxv hxu hlen hasc hpos hPT hp3 hou hos2 hol2 ?_
      · intro p hp; rw [List.mem_singleton.mp hp]; rfl
      · exact news_sub N5 (List.forall_mem_cons.mpr ⟨.tail _ (.tail _ (.head _)), List.forall_mem_cons.mpr ⟨.tail _ (.tail _ (.tail _ (.head _))), List.forall_mem_cons.mpr ⟨.tail _ (.tail _ (.tail _ (.tail _ (.head _)))), List.forall_mem_cons.mpr ⟨.tail _ (.tail _ (.tail _ (.tail _ (.tail _ (.head _))))), List.forall_mem_cons.mpr ⟨.tail _ (.tail _ (.tail _ (.tail _ (.tail _ (.tail _ (.head _)))))), List.forall_mem_cons.mpr ⟨.tail _ (.tail _ (.tail _ (.tail _ (.tail _ (.tail _ (.tail _ (.head _))))))), List.forall_mem_cons.mpr ⟨.tail _ (.tail _ (.tail _ (.tail _ (.tail _ (.tail _ (.tail _ (.tail _ (.head _)))))))), List.forall_mem_cons.mpr ⟨.tail _ (.tail _ (.tail _ (.tail _ (.tail _ (.tail _ (.tail _ (.tail _ (.tail _ (.tail _ (.tail _ (.head _))))))))))), List.forall_mem_cons.mpr ⟨.tail _ (.head _), List.forall_mem_cons.mpr ⟨.tail _ (.tail _ (.tail _ (.tail _ (.tail _ (.tail _ (.tail _ (.tail _ (.tail _ (.head _))))))))), List.forall_mem_cons.mpr ⟨.tail _ (.tail _ (.tail _ (.tail _ (.tail _ (.tail _ (.tail _ (.tail _ (.tail _ (.tail _ (.head _)))))))))), fun q hq => .tail _ (.tail _ (.tail _ (.tail _ (.tail _ (.tail _ (.tail _ (.tail _ (.tail _ (.tail _ (.tail _ (.tail _ (hq))))))))))))⟩⟩⟩⟩⟩⟩⟩⟩⟩⟩⟩)
      intro h6 tk6 F6 N6
      clear F5 N5
      k_steps
      unfold Stop
      refine lap_b (by rfl) K0 F6 X N6 T GL hxv hxu hlen hasc hpos hPT hp3 hou hos2 hol2 ?_
      intro h7 tk7 F7 N7
      clear F6 N6
      k_steps
      unfold Stop
      refine Assign_ListComp_two F7 (by rfl) (by with_unfolding_all rfl) (by with_unfolding_all rfl) (by decide) (by rfl) (by decide) (by rfl) (by rfl) (by decide) (by decide) (by rfl) (by rfl) ?_
      k_steps
      obtain ⟨fs, hf1, hf2, hf3⟩ := pairs_lists (R := fun b o => (b, o) ∈ TT) hPL2.length fun i v e => hPL2.get e
      have hfl := hf3.length
      rw [endsL_len] at hfl
      have hf4 := filt_all fs.flatten
      refine ⟨b, ws, fs, fun _ => true, _, rfl, rfl, F7, N7, .inr (.tail _ (.tail _ (.tail _ (.tail _ (.tail _ (.tail _ (.tail _ (.head _)))))))), fun i v e => by obtain ⟨b, l, e1, e2, e3⟩ := hf1 i v e; exact ⟨b, l, e1, e2, .inr (.tail _ (.tail _ (.tail _ (.tail _ (.tail _ (.tail _ (.tail _ (.tail _ (.tail _ (.tail _ (.tail _ (e3))))))))))))⟩, hf2, by omega, ?_, ?_⟩
      · intro v h3 tk3 C D oC m2 ys own E3 hv hNs hx F3 N3
        simp only [List.forIn_nil]
        exact wpAny_pure (TestEnd.intro F3 N3 (fun _ h => h) rfl)
      · intro gg D h4 tk4 F4 N4 o4
        rw [hf4] at N4
        k_steps
        unfold Stop
        refine lap_d (kv := kv) (dv := dv) (box := box) (ulv := ulv) (fd := fd) (md := md) (ul := ul) (b := b) (cv := cv) (cu := cu) (ws := ws) (ps := ps) (ou := ou) (os := os2) (ol := ol2) (TT := (I, oI) :: (pen, penO cl sp2 t2 pw tw n) :: (cl, listOf (List.toArray cs) c0) :: TT) (en := D) (ce := fs.flatten.length) (by rfl) K0 (fr_re (ps := [(Str.ofString "view", .ref view), (Str.ofString "ends", .ref D)]) ?_ F4) X ?_ T GL hxv hxu hlen hasc hpos hPT hp3 hp1 hf3 hou hos2 hol2 ?_
        · intro p hp
          rcases List.mem_cons.mp hp with rfl | hp
          · rfl
          · rw [List.mem_singleton.mp hp]; rfl
        · exact news_sub N4 (List.forall_mem_cons.mpr ⟨.tail _ (.head _), List.forall_mem_cons.mpr ⟨.tail _ (.tail _ (.head _)), List.forall_mem_cons.mpr ⟨.tail _ (.tail _ (.tail _ (.head _))), List.forall_mem_cons.mpr ⟨.tail _ (.tail _ (.tail _ (.tail _ (.head _)))), List.forall_mem_cons.mpr ⟨.tail _ (.tail _ (.tail _ (.tail _ (.tail _ (.head _))))), List.forall_mem_cons.mpr ⟨.tail _ (.tail _ (.tail _ (.tail _ (.tail _ (.tail _ (.head _)))))), List.forall_mem_cons.mpr ⟨.tail _ (.tail _ (.tail _ (.tail _ (.tail _ (.tail _ (.tail _ (.head _))))))), List.forall_mem_cons.mpr ⟨.tail _ (.tail _ (.tail _ (.tail _ (.tail _ (.tail _ (.tail _ (.tail _ (.head _)))))))), List.forall_mem_cons.mpr ⟨.head _, List.forall_mem_cons.mpr ⟨.tail _ (.tail _ (.tail _ (.tail _ (.tail _ (.tail _ (.tail _ (.tail _ (.tail _ (.head _))))))))), List.forall_mem_cons.mpr ⟨.tail _ (.tail _ (.tail _ (.tail _ (.tail _ (.tail _ (.tail _ (.tail _ (.tail _ (.tail _ (.head _)))))))))), List.forall_mem_cons.mpr ⟨.tail _ (.tail _ (.tail _ (.tail _ (.tail _ (.tail _ (.tail _ (.tail _ (.tail _ (.tail _ (.tail _ (.head _))))))))))), fun q hq => .tail _ (.tail _ (.tail _ (.tail _ (.tail _ (.tail _ (.tail _ (.tail _ (.tail _ (.tail _ (.tail _ (.tail _ (hq))))))))))))⟩⟩⟩⟩⟩⟩⟩⟩⟩⟩⟩⟩)
        intro h8 tk8 F8 N8
        k_steps
        dsimp only [PostS]
        refine EndS.intro (os2, ol2, sp2, t2, some (.ref b), some (.int (([] : List Int).getLast?.getD 0) t9)) F8 N8 (.tail _ (.tail _ (.tail _ (.tail _ (.tail _ (.tail _ (.tail _ (.tail _ (.tail _ (.head _)))))))))) ?_ ?_ ⟨hn1, hn2, hos2, hol2⟩ ?_ ?_
        · exact List.forall_mem_cons.mpr ⟨.head _, List.forall_mem_cons.mpr ⟨.tail _ (.head _), List.forall_mem_cons.mpr ⟨.tail _ (.tail _ (.head _)), List.forall_mem_cons.mpr ⟨.tail _ (.tail _ (.tail _ (.head _))), List.forall_mem_cons.mpr ⟨.tail _ (.tail _ (.tail _ (.tail _ (.head _)))), List.forall_mem_cons.mpr ⟨.tail _ (.tail _ (.tail _ (.tail _ (.tail _ (.head _))))), List.forall_mem_cons.mpr ⟨.tail _ (.tail _ (.tail _ (.tail _ (.tail _ (.tail _ (.head _)))))), List.forall_mem_cons.mpr ⟨.tail _ (.tail _ (.tail _ (.tail _ (.tail _ (.tail _ (.tail _ (.tail _ (.tail _ (.tail _ (.head _)))))))))), List.forall_mem_cons.mpr ⟨.tail _ (.tail _ (.tail _ (.tail _ (.tail _ (.tail _ (.tail _ (.tail _ (.tail _ (.tail _ (.tail _ (.head _))))))))))), fun q hq => .tail _ (.tail _ (.tail _ (.tail _ (.tail _ (.tail _ (.tail _ (.tail _ (.tail _ (.tail _ (.tail _ (.tail _ (hRT q hq))))))))))))⟩⟩⟩⟩⟩⟩⟩⟩⟩
        · exact List.forall_mem_cons.mpr ⟨i0, List.forall_mem_cons.mpr ⟨i1, List.forall_mem_cons.mpr ⟨i2, List.forall_mem_cons.mpr ⟨i3, List.forall_mem_cons.mpr ⟨i4, List.forall_mem_cons.mpr ⟨i5, List.forall_mem_cons.mpr ⟨i6, List.forall_mem_cons.mpr ⟨i7, List.forall_mem_cons.mpr ⟨i8, fun q hq => hI q (.tail _ (.tail _ (.tail _ (.tail _ (.tail _ (.tail _ (.tail _ (.tail _ (.tail _ (hq))))))))))⟩⟩⟩⟩⟩⟩⟩⟩⟩
        · intro p hp
          rcases List.mem_cons.mp hp with rfl | hp
          · rfl
          · rw [List.mem_singleton.mp hp]; rfl
        · walk_at "MY_SAME"
    · rw [List.concat_eq_append] at e
      subst e
      rcases List.eq_nil_or_concat xu with e | ⟨xu0, vx, e⟩
      · subst e
        have := hxu.length
        simp at this
      rw [List.concat_eq_append] at e
      subst e
      obtain ⟨_, x2, tx, e2, rfl, _⟩ := ints_unsnoc hxu
      obtain rfl : x = x2 := (List.append_inj' e2 rfl).2 |> fun q => (List.cons.inj q).1
      rw [show (!decide (us0 ++ [x] = [])) = true by simp]
      have hgl : (us0 ++ [x]).getLast?.getD 0 = x := by simp
      k_steps
      unfold Stop
      rename Fr _ _ _ _ => F5
      rename News _ _ _ _ => N5
      obtain ⟨l9, e9⟩ := news_a0 N5
      subst e9
      obtain ⟨os2, e9⟩ := news_o0 (news_tl (news_tl (news_tl (news_tl (news_tl (news_tl (news_tl N5)))))))
      subst e9
      obtain ⟨ol2, e9⟩ := news_o0 (news_tl (news_tl (news_tl (news_tl (news_tl (news_tl (news_tl (news_tl N5))))))))
      subst e9
      have hos2 : os2.data = .cell (some (.ref b)) := by assumption
      obtain ⟨t9, hol2⟩ : ∃ t9, ol2.data = .cell (some (.int ((us0 ++ [x] : List Int).getLast?.getD 0) t9)) := ⟨_, by rw [hgl]; assumption⟩
      have hPT : PairsL ((I, oI) :: (pen, penO cl sp2 t2 pw tw n) :: (cl, listOf (List.toArray cs) c0) :: TT) ws ps := hPL2.mono fun q hq => .tail _ (.tail _ (.tail _ hq))
      refine lap_a (kv := kv) (dv := dv) (box := box) (ulv := ulv) (fd := fd) (md := md) (ul := ul) (b := b) (cv := cv) (cu := cu) (ws := ws) (ps := ps) (ou := ou) (os := os2) (ol := ol2) (TT := (I, oI) :: (pen, penO cl sp2 t2 pw tw n) :: (cl, listOf (List.toArray cs) c0) :: TT) (by rfl) K0 (fr_re (ps := [(Str.ofString "view", .ref view)]) ?_ F5) X ?_ T GL hxv hxu hlen hasc hpos hPT hp3 hou hos2 hol2 ?_
      · intro p hp; rw [List.mem_singleton.mp hp]; rfl
      · exact news_sub N5 (List.forall_mem_cons.mpr ⟨.tail _ (.tail _ (.head _)), List.forall_mem_cons.mpr ⟨.tail _ (.tail _ (.tail _ (.head _))), List.forall_mem_cons.mpr ⟨.tail _ (.tail _ (.tail _ (.tail _ (.head _)))), List.forall_mem_cons.mpr ⟨.tail _ (.tail _ (.tail _ (.tail _ (.tail _ (.head _))))), List.forall_mem_cons.mpr ⟨.tail _ (.tail _ (.tail _ (.tail _ (.tail _ (.tail _ (.head _)))))), List.forall_mem_cons.mpr ⟨.tail _ (.tail _ (.tail _ (.tail _ (.tail _ (.tail _ (.tail _ (.head _))))))), List.forall_mem_cons.mpr ⟨.tail _ (.tail _ (.tail _ (.tail _ (.tail _ (.tail _ (.tail _ (.tail _ (.head _)))))))), List.forall_mem_cons.mpr ⟨.tail _ (.tail _ (.tail _ (.tail _ (.tail _ (.tail _ (.tail _ (.tail _ (.tail _ (.tail _ (.tail _ (.head _))))))))))), List.forall_mem_cons.mpr ⟨.tail _ (.head _), List.forall_mem_cons.mpr ⟨.tail _ (.tail _ (.tail _ (.tail _ (.tail _ (.tail _ (.tail _ (.tail _ (.tail _ (.head _))))))))), List.forall_mem_cons.mpr ⟨.tail _ (.tail _ (.tail _ (.tail _ (.tail _ (.tail _ (.tail _ (.tail _ (.tail _ (.tail _ (.head _)))))))))), fun q hq => .tail _ (.tail _ (.tail _ (.tail _ (.tail _ (.tail _ (.tail _ (.tail _ (.tail _ (.tail _ (.tail _ (.tail _ (hq))))))))))))⟩⟩⟩⟩⟩⟩⟩⟩⟩⟩⟩)
      intro h6 tk6 F6 N6
      clear F5 N5
      k_steps
      unfold Stop
      refine lap_b (by rfl) K0 F6 X N6 T GL hxv hxu hlen hasc hpos hPT hp3 hou hos2 hol2 ?_
      intro h7 tk7 F7 N7
      clear F6 N6
      k_steps
      unfold Stop
      refine Assign_ListComp_two F7 (by rfl) (by with_unfolding_all rfl) (by with_unfolding_all rfl) (by decide) (by rfl) (by decide) (by rfl) (by rfl) (by decide) (by decide) (by rfl) (by rfl) ?_
      k_steps
      obtain ⟨fs, hf1, hf2, hf3⟩ := pairs_lists (R := fun b o => (b, o) ∈ TT) hPL2.length fun i v e => hPL2.get e
      have hfl := hf3.length
      rw [endsL_len] at hfl
      have hf4 := filt_all fs.flatten
      refine ⟨b, ws, fs, fun _ => true, _, rfl, rfl, F7, N7, .inr (.tail _ (.tail _ (.tail _ (.tail _ (.tail _ (.tail _ (.tail _ (.head _)))))))), fun i v e => by obtain ⟨b, l, e1, e2, e3⟩ := hf1 i v e; exact ⟨b, l, e1, e2, .inr (.tail _ (.tail _ (.tail _ (.tail _ (.tail _ (.tail _ (.tail _ (.tail _ (.tail _ (.tail _ (.tail _ (e3))))))))))))⟩, hf2, by omega, ?_, ?_⟩
      · intro v h3 tk3 C D oC m2 ys own E3 hv hNs hx F3 N3
        simp only [List.forIn_nil]
        exact wpAny_pure (TestEnd.intro F3 N3 (fun _ h => h) rfl)
      · intro gg D h4 tk4 F4 N4 o4
        rw [hf4] at N4
        k_steps
        unfold Stop
        refine lap_d (kv := kv) (dv := dv) (box := box) (ulv := ulv) (fd := fd) (md := md) (ul := ul) (b := b) (cv := cv) (cu := cu) (ws := ws) (ps := ps) (ou := ou) (os := os2) (ol := ol2) (TT := (I, oI) :: (pen, penO cl sp2 t2 pw tw n) :: (cl, listOf (List.toArray cs) c0) :: TT) (en := D) (ce := fs.flatten.length) (by rfl) K0 (fr_re (ps := [(Str.ofString "view", .ref view), (Str.ofString "ends", .ref D)]) ?_ F4) X ?_ T GL hxv hxu hlen hasc hpos hPT hp3 hp1 hf3 hou hos2 hol2 ?_
        · intro p hp
          rcases List.mem_cons.mp hp with rfl | hp
          · rfl
          · rw [List.mem_singleton.mp hp]; rfl
        · exact news_sub N4 (List.forall_mem_cons.mpr ⟨.tail _ (.head _), List.forall_mem_cons.mpr ⟨.tail _ (.tail _ (.head _)), List.forall_mem_cons.mpr ⟨.tail _ (.tail _ (.tail _ (.head _))), List.forall_mem_cons.mpr ⟨.tail _ (.tail _ (.tail _ (.tail _ (.head _)))), List.forall_mem_cons.mpr ⟨.tail _ (.tail _ (.tail _ (.tail _ (.tail _ (.head _))))), List.forall_mem_cons.mpr ⟨.tail _ (.tail _ (.tail _ (.tail _ (.tail _ (.tail _ (.head _)))))), List.forall_mem_cons.mpr ⟨.tail _ (.tail _ (.tail _ (.tail _ (.tail _ (.tail _ (.tail _ (.head _))))))), List.forall_mem_cons.mpr ⟨.tail _ (.tail _ (.tail _ (.tail _ (.tail _ (.tail _ (.tail _ (.tail _ (.head _)))))))), List.forall_mem_cons.mpr ⟨.head _, List.forall_mem_cons.mpr ⟨.tail _ (.tail _ (.tail _ (.tail _ (.tail _ (.tail _ (.tail _ (.tail _ (.tail _ (.head _))))))))), List.forall_mem_cons.mpr ⟨.tail _ (.tail _ (.tail _ (.tail _ (.tail _ (.tail _ (.tail _ (.tail _ (.tail _ (.tail _ (.head _)))))))))), List.forall_mem_cons.mpr ⟨.tail _ (.tail _ (.tail _ (.tail _ (.tail _ (.tail _ (.tail _ (.tail _ (.tail _ (.tail _ (.tail _ (.head _))))))))))), fun q hq => .tail _ (.tail _ (.tail _ (.tail _ (.tail _ (.tail _ (.tail _ (.tail _ (.tail _ (.tail _ (.tail _ (.tail _ (hq))))))))))))⟩⟩⟩⟩⟩⟩⟩⟩⟩⟩⟩⟩)
        intro h8 tk8 F8 N8
        k_steps
        dsimp only [PostS]
        refine EndS.intro (os2, ol2, sp2, t2, some (.ref b), some (.int ((us0 ++ [x] : List Int).getLast?.getD 0) t9)) F8 N8 (.tail _ (.tail _ (.tail _ (.tail _ (.tail _ (.tail _ (.tail _ (.tail _ (.tail _ (.head _)))))))))) ?_ ?_ ⟨hn1, hn2, hos2, hol2⟩ ?_ ?_
        · exact List.forall_mem_cons.mpr ⟨.head _, List.forall_mem_cons.mpr ⟨.tail _ (.head _), List.forall_mem_cons.mpr ⟨.tail _ (.tail _ (.head _)), List.forall_mem_cons.mpr ⟨.tail _ (.tail _ (.tail _ (.head _))), List.forall_mem_cons.mpr ⟨.tail _ (.tail _ (.tail _ (.tail _ (.head _)))), List.forall_mem_cons.mpr ⟨.tail _ (.tail _ (.tail _ (.tail _ (.tail _ (.head _))))), List.forall_mem_cons.mpr ⟨.tail _ (.tail _ (.tail _ (.tail _ (.tail _ (.tail _ (.head _)))))), List.forall_mem_cons.mpr ⟨.tail _ (.tail _ (.tail _ (.tail _ (.tail _ (.tail _ (.tail _ (.tail _ (.tail _ (.tail _ (.head _)))))))))), List.forall_mem_cons.mpr ⟨.tail _ (.tail _ (.tail _ (.tail _ (.tail _ (.tail _ (.tail _ (.tail _ (.tail _ (.tail _ (.tail _ (.head _))))))))))), fun q hq => .tail _ (.tail _ (.tail _ (.tail _ (.tail _ (.tail _ (.tail _ (.tail _ (.tail _ (.tail _ (.tail _ (.tail _ (hRT q hq))))))))))))⟩⟩⟩⟩⟩⟩⟩⟩⟩
        · exact List.forall_mem_cons.mpr ⟨i0, List.forall_mem_cons.mpr ⟨i1, List.forall_mem_cons.mpr ⟨i2, List.forall_mem_cons.mpr ⟨i3, List.forall_mem_cons.mpr ⟨i4, List.forall_mem_cons.mpr ⟨i5, List.forall_mem_cons.mpr ⟨i6, List.forall_mem_cons.mpr ⟨i7, List.forall_mem_cons.mpr ⟨i8, fun q hq => hI q (.tail _ (.tail _ (.tail _ (.tail _ (.tail _ (.tail _ (.tail _ (.tail _ (.tail _ (hq))))))))))⟩⟩⟩⟩⟩⟩⟩⟩⟩
        · intro p hp
          rcases List.mem_cons.mp hp with rfl | hp
          · rfl
          · rw [List.mem_singleton.mp hp]; rfl
        · walk_at "MY_SAME"
end
section

theorem ints_kf {xs : List Value} {ns : List Int} (h : IntsAre xs ns) : kf_ints xs = true := by
  induction h with
  | nil => rfl
  | cons n t _ ih => exact ih
theorem ints_kf_at {k : Int} : ∀ {xs : List Value} {ns : List Int}, IntsAre xs ns → k ∈ ns → kf_at k xs = some (ns.idxOf k)
  | _, _, .cons n t r, h => by
    rw [List.idxOf_cons]
    show cond (n == k) (some 0) _ = _
    cases e : n == k with
    | true => simp
    | false =>
      have hk : k ∈ _ := (List.mem_cons.mp h).resolve_left (fun q => by rw [q] at e; simp at e)
      rw [ints_kf_at r hk]
      simp
theorem num_eq {us : List Int} {u r : Int} (hasc : us.Pairwise (· < ·)) (h : (∃ k : Nat, us[k]? = some u ∧ r = (k : Int) + 1) ∨ (u ∉ us ∧ r = 0)) : r = if us.any (· == u) = true then ((us.idxOf u : Nat) : Int) + 1 else 0 := by
  rcases h with ⟨k, hk, rfl⟩ | ⟨h1, rfl⟩
  · have hm : u ∈ us := List.mem_of_getElem? hk
    rw [if_pos (List.any_eq_true.mpr ⟨u, hm, by simp⟩)]
    have hi : us[us.idxOf u]? = some u := by
      have hl := List.idxOf_lt_length_iff.mpr hm
      rw [List.getElem?_eq_getElem hl, List.getElem_idxOf hl]
    have : us.idxOf u = k := by
      rcases Nat.lt_trichotomy (us.idxOf u) k with q | q | q
      · have := asc_lt hasc hi hk q; omega
      · exact q
      · have := asc_lt hasc hk hi q; omega
    rw [this]
  · rw [if_neg]
    intro q
    obtain ⟨x, hx, e⟩ := List.any_eq_true.mp q
    have : x = u := by simpa using e
    exact h1 (this ▸ hx)
theorem loop_num {w : World} {mean : ExcName → Option Value} {mg mb : Str → Option Value} {g : Heap} {fa ca L' : Addr} {m₀ : Str → Option Value} {st : Stmt} {sc : Scope} {s : Shared} {Q : Flow → Shared → Prop}
    {kv : Nat → Tok} {view dv box ulv fd md ul : Addr} {cv cu : Nat} {xv xu : List Value} {us : List Int} {ou : Obj} {TT : List (Addr × Obj)}
    (hlaw : lawAt 8 = some (st, sc)) (K0 : Below callerA g [] g) (F : Fr g L' s.heap (kstB m₀ [(Str.ofString "view", .ref view)])) (X : (hd.heap_1 w.params).In g)
    (N : News g L' s.heap ((view, instObj 87 dv) :: (dv, viewO w kv box ulv fd md) :: (ulv, listOf (List.toArray xv) cv) :: (ul, listOf (List.toArray xu) cu) :: (L' + 1, ou) :: TT))
    (T : Top viewQ (looseW viewQ [Str.ofString "PostError"]) mean mg mb g) (GL : GlobAt mg mb g)
    (hxv : IntsAre xv us) (hxu : IntsAre xu us) (hlen : us.length ≤ 90) (hasc : us.Pairwise (· < ·))
    (hou : ou.data = .cell (some (.ref ul)))
    (hQ : ∀ (m₁ : Str → Option Value) (h' : Heap) (tk' : Nat), Fr g L' h' (kstB m₁ [(Str.ofString "view", .ref view)]) →
      News g L' h' ((view, instObj 87 dv) :: (dv, viewO w kv box ulv fd md) :: (ulv, listOf (List.toArray xv) cv) :: (ul, listOf (List.toArray xu) cu) :: (L' + 1, ou) :: TT) →
      Q .next { s with heap := h', toks := tk' }) :
    wpAny (model Challenge.rw_no0370_01.row.prog w) (callerA.deeper (envOfC (Str.ofString "law") sc L' fa (.ref ca))) (exec st (envOfC (Str.ofString "law") sc L' fa (.ref ca))) Q (fun _ _ => False) s := by
  obtain ⟨hb, hs⟩ := Prod.mk.inj (Option.some.inj ((show lawAt 8 = some (_, _) from rfl).symm.trans hlaw))
  subst hb hs
  clear hlaw
  revert X
  k_fill
  intro X
  refine For_turns F ?_ (by intro x; rfl) (by passes_own)
  k_steps
  rename IsRange _ _ _ _ _ _ _ _ => hRg
  rename Fr _ _ _ _ => F2
  rename News _ _ _ _ => N2
  refine' iterS_range (σ := Unit) [Str.ofString "number", Str.ofString "uid"] (fun _ _ => [(Str.ofString "view", .ref view)])
    (fun _ c => (view, instObj 87 dv) :: (dv, viewO w kv box ulv fd md) :: (ulv, listOf (List.toArray xv) cv) :: (ul, listOf (List.toArray xu) cu) :: (L' + 1, ou) :: TT) (fun i c => True) () (n := 9)
    rfl F2 N2 ?g1 ?g2 ?g3 hRg (by decide +kernel) (by decide +kernel) (by intro it v; rfl) ?g4 ?g5
  case g1 => intro p hp; exact hp
  case g2 => trivial
  case g3 => intro p hp; rw [List.mem_singleton.mp hp]; rfl
  case g5 =>
    rintro ⟨⟩ u h tk - F' N'
    exact hQ _ h tk F' N'
  case g4 =>
    clear F2 N2 hRg
    rintro i tl ⟨⟩ u h tk I oI hi - hI F' N'
    dsimp only at hI F' N' ⊢
    have hxl := hxu.length
    have hlen9 : us.length ≤ 100 := by omega
    k_steps
    · rename 1 ≤ (i : Int) => a1
      rename (i : Int) ≤ _ => a2
      unfold Stop
      rename Fr _ _ _ _ => F3
      rename News _ _ _ _ => N3
      refine Con.use (uid_at_con _ _ _ _ kv view dv box ulv fd md xv us cv (i : Int) tl) (by k_asm) (by k_asm) (by k_asm) (by k_asm) (by k_asm) rfl (by ktr_room) (by ktr_units)
        ⟨⟨by walk_at "MY_OBJ", by walk_at "MY_OBJ", by walk_at "MY_OBJ"⟩, hxv, hlen9⟩ ?_
      intro v h9 tk9 K9 F9 N9 hP9
      obtain ⟨tv, rfl⟩ := hP9
      clear F3 N3
      rw [if_pos ⟨a1, by rw [← hxl]; exact a2⟩]
      k_steps
      (try any_goals contradiction)
      unfold Stop
      rename Fr _ _ _ _ => F3
      rename News _ _ _ _ => N3
      refine Con.use (number_of_con _ _ _ _ kv view dv box ulv fd md xv us cv (i : Int) tl) (by k_asm) (by k_asm) (by k_asm) (by k_asm) (by k_asm) rfl (by ktr_room) (by ktr_units)
        ⟨⟨by walk_at "MY_OBJ", by walk_at "MY_OBJ", by walk_at "MY_OBJ"⟩, hxv, hlen9, hasc⟩ ?_
      intro v h9 tk9 K9 F9 N9 hP9
      obtain ⟨r, tr, rfl, hr⟩ := hP9
      have hr2 := num_eq hasc hr
      clear F3 N3
      cases hin : us.any (· == (i : Int)) with
      | true =>
        rw [hin, if_pos rfl] at hr2
        have hmem : (i : Int) ∈ us := by
          obtain ⟨x, hx, e⟩ := List.any_eq_true.mp hin
          have : x = (i : Int) := by simpa using e
          exact this ▸ hx
        k_steps
        unfold Stop
        rename News _ _ _ _ => N4
        refine in_list_ints (vs := xu) (ns := us) (PySem.IsL.isList (N4 _ (.tail _ (.tail _ (.tail _ (.tail _ (.head _)))))).1) hxu ?_
        rw [hin]
        k_steps
        unfold Stop
        rename News _ _ _ _ => N4
        refine kf_index N4 (.tail _ (.tail _ (.tail _ (.tail _ (.head _))))) (ints_kf hxu) (ints_kf_at hxu hmem) rfl (by rw [sizeLine_eq]; simp only [List.toList_toArray]; omega) ?_
        k_steps
        (try any_goals exact absurd hr2 (by assumption))
        dsimp only [PostS]
        rename Fr _ _ _ _ => F8
        rename News _ _ _ _ => N8
        refine EndS.intro () F8 N8 (.head _) (fun p hp => .tail _ hp) hI trivial ?_ ?_
        · intro p hp; rw [List.mem_singleton.mp hp]; rfl
        · walk_at "MY_SAME"
      | false =>
        rw [hin, if_neg (by simp)] at hr2
        k_steps
        unfold Stop
        rename News _ _ _ _ => N4
        refine in_list_ints (vs := xu) (ns := us) (PySem.IsL.isList (N4 _ (.tail _ (.tail _ (.tail _ (.tail _ (.head _)))))).1) hxu ?_
        rw [hin]
        k_steps
        (try any_goals exact absurd hr2 (by assumption))
        dsimp only [PostS]
        rename Fr _ _ _ _ => F8
        rename News _ _ _ _ => N8
        refine EndS.intro () F8 N8 (.head _) (fun p hp => .tail _ hp) hI trivial ?_ ?_
        · intro p hp; rw [List.mem_singleton.mp hp]; rfl
        · walk_at "MY_SAME"
    · rename 1 ≤ (i : Int) => a1
      rename ¬ (i : Int) ≤ _ => a2
      unfold Stop
      rename Fr _ _ _ _ => F3
      rename News _ _ _ _ => N3
      refine Con.use (uid_at_con _ _ _ _ kv view dv box ulv fd md xv us cv (i : Int) tl) (by k_asm) (by k_asm) (by k_asm) (by k_asm) (by k_asm) rfl (by ktr_room) (by ktr_units)
        ⟨⟨by walk_at "MY_OBJ", by walk_at "MY_OBJ", by walk_at "MY_OBJ"⟩, hxv, hlen9⟩ ?_
      intro v h9 tk9 K9 F9 N9 hP9
      obtain ⟨tv, rfl⟩ := hP9
      clear F3 N3
      rw [if_neg (fun q => a2 (by rw [hxl]; exact q.2))]
      k_steps
      (try any_goals contradiction)
      unfold Stop
      rename Fr _ _ _ _ => F3
      rename News _ _ _ _ => N3
      refine Con.use (number_of_con _ _ _ _ kv view dv box ulv fd md xv us cv (i : Int) tl) (by k_asm) (by k_asm) (by k_asm) (by k_asm) (by k_asm) rfl (by ktr_room) (by ktr_units)
        ⟨⟨by walk_at "MY_OBJ", by walk_at "MY_OBJ", by walk_at "MY_OBJ"⟩, hxv, hlen9, hasc⟩ ?_
      intro v h9 tk9 K9 F9 N9 hP9
      obtain ⟨r, tr, rfl, hr⟩ := hP9
      have hr2 := num_eq hasc hr
      clear F3 N3
      cases hin : us.any (· == (i : Int)) with
      | true =>
        rw [hin, if_pos rfl] at hr2
        have hmem : (i : Int) ∈ us := by
          obtain ⟨x, hx, e⟩ := List.any_eq_true.mp hin
          have : x = (i : Int) := by simpa using e
          exact this ▸ hx
        k_steps
        unfold Stop
        rename News _ _ _ _ => N4
        refine in_list_ints (vs := xu) (ns := us) (PySem.IsL.isList (N4 _ (.tail _ (.tail _ (.tail _ (.tail _ (.head _)))))).1) hxu ?_
        rw [hin]
        k_steps
        unfold Stop
        rename News _ _ _ _ => N4
        refine kf_index N4 (.tail _ (.tail _ (.tail _ (.tail _ (.head _))))) (ints_kf hxu) (ints_kf_at hxu hmem) rfl (by rw [sizeLine_eq]; simp only [List.toList_toArray]; omega) ?_
        k_steps
        (try any_goals exact absurd hr2 (by assumption))
        dsimp only [PostS]
        rename Fr _ _ _ _ => F8
        rename News _ _ _ _ => N8
        refine EndS.intro () F8 N8 (.head _) (fun p hp => .tail _ hp) hI trivial ?_ ?_
        · intro p hp; rw [List.mem_singleton.mp hp]; rfl
        · walk_at "MY_SAME"
      | false =>
        rw [hin, if_neg (by simp)] at hr2
        k_steps
        unfold Stop
        rename News _ _ _ _ => N4
        refine in_list_ints (vs := xu) (ns := us) (PySem.IsL.isList (N4 _ (.tail _ (.tail _ (.tail _ (.tail _ (.head _)))))).1) hxu ?_
        rw [hin]
        k_steps
        (try any_goals exact absurd hr2 (by assumption))
        dsimp only [PostS]
        rename Fr _ _ _ _ => F8
        rename News _ _ _ _ => N8
        refine EndS.intro () F8 N8 (.head _) (fun p hp => .tail _ hp) hI trivial ?_ ?_
        · intro p hp; rw [List.mem_singleton.mp hp]; rfl
        · walk_at "MY_SAME"
    · rename ¬ 1 ≤ (i : Int) => a1
      unfold Stop
      rename Fr _ _ _ _ => F3
      rename News _ _ _ _ => N3
      refine Con.use (uid_at_con _ _ _ _ kv view dv box ulv fd md xv us cv (i : Int) tl) (by k_asm) (by k_asm) (by k_asm) (by k_asm) (by k_asm) rfl (by ktr_room) (by ktr_units)
        ⟨⟨by walk_at "MY_OBJ", by walk_at "MY_OBJ", by walk_at "MY_OBJ"⟩, hxv, hlen9⟩ ?_
      intro v h9 tk9 K9 F9 N9 hP9
      obtain ⟨tv, rfl⟩ := hP9
      clear F3 N3
      rw [if_neg (fun q => a1 q.1)]
      k_steps
      dsimp only [PostS]
      rename Fr _ _ _ _ => F8
      rename News _ _ _ _ => N8
      refine EndS.intro () F8 N8 (.head _) (fun p hp => .tail _ hp) hI trivial ?_ ?_
      · intro p hp; rw [List.mem_singleton.mp hp]; rfl
      · walk_at "MY_SAME"
end
section

theorem ints_v {xs : List Value} {ns : List Int} (_ : IntsAre xs ns) : ∃ y, y = xs := ⟨xs, rfl⟩
theorem ConI.use1 {w : World} {mean : ExcName → Option Value} {mg mb : Str → Option Value} {d : Nat} {f : Value} {args : List Value} {x : Addr} {o : Obj} {Pre : Heap → Prop} {Post : Heap → Heap → Value → Prop}
    (C : ConI w mean mg mb d f args [(x, o)] Pre Post)
    {dp un : Nat} {gd : Option (List Code)} {cn : Str} {cs : Scope} {a : Addr} {ccd : Value} {cl : List (Str × Addr)} {outer : List Env} {A₀ : Around} {base h₀ : Heap} {L : Addr} {m : Str → Option Value} {s : Shared} {R : Result → Shared → Prop} {news : List (Addr × Obj)} {g : Obj → List (Addr × Obj)}
    (B : Below A₀ base outer h₀) (F : Fr h₀ L s.heap m) (X : (hd.heap_1 w.params).In h₀) (N : News h₀ L s.heap news)
    (T : Top viewQ (looseW viewQ [Str.ofString "PostError"]) mean mg mb h₀) (hk : cs.kind = .function) (hd : dp + d < recursionLimit) (hu : un + 8 * d < cLine) (U : UpdF x o news g) (hpre : Pre s.heap)
    (k : ∀ v h' tk', Kp [x] s.heap h' → Fr h₀ L h' m → (∀ o', h'.get? x = some o' → News h₀ L h' (g o')) → Post s.heap h' v → R (.ok (.ret v)) { s with heap := h', toks := tk' }) :
    codeAny (model Challenge.rw_no0370_01.row.prog w) (ktrTop dp un gd cn cs L a ccd cl outer) (.call f ⟨args, []⟩) R s := by
  obtain ⟨pre, post, rfl, hg, h1, h2⟩ := U.split
  have hx := N (x, o) (List.mem_append_right _ (.head _))
  refine C dp un gd cn cs a ccd cl outer A₀ base h₀ L m s R B F X (fun p hp => by rw [List.mem_singleton.mp hp]; exact hx) T hk hd hu hpre fun v h' tk' hK hP =>
    k v h' tk' hK (kp_fr (wr := [x]) F (by simpa using ⟨hx.2.2, hx.2.1⟩) hK) (fun o' ho' => ?_) hP
  rw [hg]
  intro p hp
  rcases List.mem_append.mp hp with hp | hp
  · exact ⟨hK _ _ (by simpa using h1 p hp) (N p (List.mem_append_left _ hp)).1, (N p (List.mem_append_left _ hp)).2⟩
  · rcases List.mem_cons.mp hp with rfl | hp
    · exact ⟨ho', hx.2⟩
    · exact ⟨hK _ _ (by simpa using h2 p hp) (N p (List.mem_append_right _ (.tail _ hp))).1, (N p (List.mem_append_right _ (.tail _ hp))).2⟩
def lawTail : Option (List Stmt × Scope) := match lawFn with
  | some (b, sc) => some (b.drop 4, sc)
  | _ => none
theorem law_rest {w : World} {mean : ExcName → Option Value} {mg mb : Str → Option Value} {g : Heap} {fa ca L' : Addr} {m₀ : Str → Option Value} {st : List Stmt} {sc : Scope} {s : Shared} {Q : Flow → Shared → Prop}
    {k : Nat → Tok} {tn tv t2 t3 t4 t tw : Tok} {box d pen cl ll gl u0 : Addr} {nu tp sp pw : Int} {n c0 c cg : Nat} {cs vs gs : List Value} {ns us : List Int} {ou os ol : Obj} {T0 : List (Addr × Obj)}
    (hlaw : lawTail = some (st, sc)) (K0 : Below callerA g [] g) (F : Fr g L' s.heap (kstB m₀ [(Str.ofString "pen", .ref pen), (Str.ofString "box", .ref box)])) (X : (hd.heap_1 w.params).In g)
    (N : News g L' s.heap ((box, instObj 235 d) :: (d, boxO w k tn tv nu t2 tp t3 t4 ll gl) :: (ll, listOf (List.toArray vs) c) :: (gl, listOf (List.toArray gs) cg) :: (pen, penO cl sp t pw tw n) :: (cl, listOf cs.toArray c0) :: (T0 ++ [(L' + 1 + 1 + 1, ol), (L' + 1 + 1, os), (L' + 1, ou)])))
    (T : Top viewQ (looseW viewQ [Str.ofString "PostError"]) mean mg mb g) (GL : GlobAt mg mb g) (hcs : IntsAre cs ns) (hns : ns.length ≤ 100) (hpw : 0 ≤ pw ∧ pw ≤ 1000) (hsp : 0 ≤ sp ∧ sp ≤ 50)
    (hou : ou.data = .cell (some (.ref u0))) (hos : os.data = .cell none) (hol : ol.data = .cell none)
    (hasc : us.Pairwise (· < ·)) (hbd : ∀ u ∈ us, 1 ≤ u ∧ u < nu) (hul : us.length ≤ 12) (hgl : gs.length ≤ 20 * 12) (hT : OwnOff (T0 ++ [(L' + 1 + 1 + 1, ol), (L' + 1 + 1, os), (L' + 1, ou)]) [box, d, ll, gl, pen, cl]) (hT1 : OwnOff T0 ([(L' + 1 + 1 + 1, ol), (L' + 1 + 1, os), (L' + 1, ou)].map (·.1))) (hL : Lets w (fun a o => (a, o) ∈ T0) vs us)
    (e : (@Ne Nat box d) ∧ (@Ne Nat box pen) ∧ (@Ne Nat box cl) ∧ (@Ne Nat d pen) ∧ (@Ne Nat d cl) ∧ (@Ne Nat pen cl))
    (e' : (@Ne Nat ll gl) ∧ (@Ne Nat ll box) ∧ (@Ne Nat ll d) ∧ (@Ne Nat ll pen) ∧ (@Ne Nat ll cl) ∧ (@Ne Nat gl box) ∧ (@Ne Nat gl d) ∧ (@Ne Nat gl pen) ∧ (@Ne Nat gl cl))
    (hQ : ∀ (h' : Heap) (tk' : Nat) (m' : Str → Option Value), Fr g L' h' m' → Q (.ret (.bool true)) { s with heap := h', toks := tk' }) :
    wpAny (model Challenge.rw_no0370_01.row.prog w) (callerA.deeper (envOfC (Str.ofString "law") sc L' fa (.ref ca))) (execs st (envOfC (Str.ofString "law") sc L' fa (.ref ca))) Q (fun _ _ => False) s := by
  obtain ⟨hb, hs⟩ := Prod.mk.inj (Option.some.inj ((show lawTail = some (_, _) from rfl).symm.trans hlaw))
  subst hb hs
  clear hlaw
  revert X
  k_fill
  intro X
  obtain ⟨box_d, box_pen, box_cl, d_pen, d_cl, pen_cl⟩ := e
  obtain ⟨ll_gl, ll_box, ll_d, ll_pen, ll_cl, gl_box, gl_d, gl_pen, gl_cl⟩ := e'
  have c3_c2 : @Ne Nat (L' + 1 + 1 + 1) (L' + 1 + 1) := Nat.succ_ne_self _
  have c2_c1 : @Ne Nat (L' + 1 + 1) (L' + 1) := Nat.succ_ne_self _
  have c3_c1 : @Ne Nat (L' + 1 + 1 + 1) (L' + 1) := by omega
  have c3_box : @Ne Nat (L' + 1 + 1 + 1) box := hT _ (List.mem_append_right _ (.head _)) _ (.head _)
  have c3_d : @Ne Nat (L' + 1 + 1 + 1) d := hT _ (List.mem_append_right _ (.head _)) _ (.tail _ (.head _))
  have c3_ll : @Ne Nat (L' + 1 + 1 + 1) ll := hT _ (List.mem_append_right _ (.head _)) _ (.tail _ (.tail _ (.head _)))
  have c3_gl : @Ne Nat (L' + 1 + 1 + 1) gl := hT _ (List.mem_append_right _ (.head _)) _ (.tail _ (.tail _ (.tail _ (.head _))))
  have c3_pen : @Ne Nat (L' + 1 + 1 + 1) pen := hT _ (List.mem_append_right _ (.head _)) _ (.tail _ (.tail _ (.tail _ (.tail _ (.head _)))))
  have c3_cl : @Ne Nat (L' + 1 + 1 + 1) cl := hT _ (List.mem_append_right _ (.head _)) _ (.tail _ (.tail _ (.tail _ (.tail _ (.tail _ (.head _))))))
  have c2_box : @Ne Nat (L' + 1 + 1) box := hT _ (List.mem_append_right _ (.tail _ (.head _))) _ (.head _)
  have c2_d : @Ne Nat (L' + 1 + 1) d := hT _ (List.mem_append_right _ (.tail _ (.head _))) _ (.tail _ (.head _))
  have c2_ll : @Ne Nat (L' + 1 + 1) ll := hT _ (List.mem_append_right _ (.tail _ (.head _))) _ (.tail _ (.tail _ (.head _)))
  have c2_gl : @Ne Nat (L' + 1 + 1) gl := hT _ (List.mem_append_right _ (.tail _ (.head _))) _ (.tail _ (.tail _ (.tail _ (.head _))))
  have c2_pen : @Ne Nat (L' + 1 + 1) pen := hT _ (List.mem_append_right _ (.tail _ (.head _))) _ (.tail _ (.tail _ (.tail _ (.tail _ (.head _)))))
  have c2_cl : @Ne Nat (L' + 1 + 1) cl := hT _ (List.mem_append_right _ (.tail _ (.head _))) _ (.tail _ (.tail _ (.tail _ (.tail _ (.tail _ (.head _))))))
  have c1_box : @Ne Nat (L' + 1) box := hT _ (List.mem_append_right _ (.tail _ (.tail _ (.head _)))) _ (.head _)
  have c1_d : @Ne Nat (L' + 1) d := hT _ (List.mem_append_right _ (.tail _ (.tail _ (.head _)))) _ (.tail _ (.head _))
  have c1_ll : @Ne Nat (L' + 1) ll := hT _ (List.mem_append_right _ (.tail _ (.tail _ (.head _)))) _ (.tail _ (.tail _ (.head _)))
  have c1_gl : @Ne Nat (L' + 1) gl := hT _ (List.mem_append_right _ (.tail _ (.tail _ (.head _)))) _ (.tail _ (.tail _ (.tail _ (.head _))))
  have c1_pen : @Ne Nat (L' + 1) pen := hT _ (List.mem_append_right _ (.tail _ (.tail _ (.head _)))) _ (.tail _ (.tail _ (.tail _ (.tail _ (.head _)))))
  have c1_cl : @Ne Nat (L' + 1) cl := hT _ (List.mem_append_right _ (.tail _ (.tail _ (.head _)))) _ (.tail _ (.tail _ (.tail _ (.tail _ (.tail _ (.head _))))))
  have hTo : OwnOff T0 [box, d, ll, gl, pen, cl, L' + 1 + 1 + 1, L' + 1 + 1, L' + 1] := by
    intro q hq b hb
    have t1 := hT q (List.mem_append_left _ hq)
    have t2 := hT1 q hq
    simp only [List.mem_cons, List.not_mem_nil, or_false] at hb
    rcases hb with rfl | rfl | rfl | rfl | rfl | rfl | rfl | rfl | rfl
    · exact t1 _ (.head _)
    · exact t1 _ (.tail _ (.head _))
    · exact t1 _ (.tail _ (.tail _ (.head _)))
    · exact t1 _ (.tail _ (.tail _ (.tail _ (.head _))))
    · exact t1 _ (.tail _ (.tail _ (.tail _ (.tail _ (.head _)))))
    · exact t1 _ (.tail _ (.tail _ (.tail _ (.tail _ (.tail _ (.head _))))))
    · exact t2 _ (.head _)
    · exact t2 _ (.tail _ (.head _))
    · exact t2 _ (.tail _ (.tail _ (.head _)))
  replace N : News g L' s.heap ((box, instObj 235 d) :: (d, boxO w k tn tv nu t2 tp t3 t4 ll gl) :: (ll, listOf (List.toArray vs) c) :: (gl, listOf (List.toArray gs) cg) :: (pen, penO cl sp t pw tw n) :: (cl, listOf cs.toArray c0) :: (L' + 1 + 1 + 1, ol) :: (L' + 1 + 1, os) :: (L' + 1, ou) :: T0) := news_sub N (List.forall_mem_cons.mpr ⟨.head _, List.forall_mem_cons.mpr ⟨.tail _ (.head _), List.forall_mem_cons.mpr ⟨.tail _ (.tail _ (.head _)), List.forall_mem_cons.mpr ⟨.tail _ (.tail _ (.tail _ (.head _))), List.forall_mem_cons.mpr ⟨.tail _ (.tail _ (.tail _ (.tail _ (.head _)))), List.forall_mem_cons.mpr ⟨.tail _ (.tail _ (.tail _ (.tail _ (.tail _ (.head _))))), List.forall_mem_cons.mpr ⟨.tail _ (.tail _ (.tail _ (.tail _ (.tail _ (.tail _ (List.mem_append_right _ (.head _))))))), List.forall_mem_cons.mpr ⟨.tail _ (.tail _ (.tail _ (.tail _ (.tail _ (.tail _ (List.mem_append_right _ (.tail _ (.head _)))))))), List.forall_mem_cons.mpr ⟨.tail _ (.tail _ (.tail _ (.tail _ (.tail _ (.tail _ (List.mem_append_right _ (.tail _ (.tail _ (.head _))))))))), fun q hq => .tail _ (.tail _ (.tail _ (.tail _ (.tail _ (.tail _ (List.mem_append_left _ hq))))))⟩⟩⟩⟩⟩⟩⟩⟩⟩)
  clear hT hT1
  k_steps
  unfold Stop
  rename Fr _ _ _ _ => F3
  refine Con.use (box_uids_con _ _ _ _ k box d tn tv nu t2 tp t3 t4 ll gl vs c us) (by k_asm) (by k_asm) (by k_asm) N (by k_asm) rfl (by ktr_room) (by ktr_units)
    ⟨⟨(N _ (.head _)).1, (N _ (.tail _ (.head _))).1, (N _ (.tail _ (.tail _ (.head _)))).1, lets_news N hL (fun q hq => .tail _ (.tail _ (.tail _ (.tail _ (.tail _ (.tail _ (.tail _ (.tail _ (.tail _ (hq))))))))))⟩, Nat.le_trans hul (by decide)⟩ ?_
  intro v h9 tk9 K9 F9 N9 hP9
  obtain ⟨ul, xu, cu, rfl, hu9, hu9', hxu⟩ := hP9
  have au := kp_apart N hu9
  have box_ul := neN (au _ (.head _))
  have d_ul := neN (au _ (.tail _ (.head _)))
  have ll_ul := neN (au _ (.tail _ (.tail _ (.head _))))
  have gl_ul := neN (au _ (.tail _ (.tail _ (.tail _ (.head _)))))
  have pen_ul := neN (au _ (.tail _ (.tail _ (.tail _ (.tail _ (.head _))))))
  have cl_ul := neN (au _ (.tail _ (.tail _ (.tail _ (.tail _ (.tail _ (.head _)))))))
  have c3_ul := neN (au _ (.tail _ (.tail _ (.tail _ (.tail _ (.tail _ (.tail _ (.head _))))))))
  have c2_ul := neN (au _ (.tail _ (.tail _ (.tail _ (.tail _ (.tail _ (.tail _ (.tail _ (.head _)))))))))
  have c1_ul := neN (au _ (.tail _ (.tail _ (.tail _ (.tail _ (.tail _ (.tail _ (.tail _ (.tail _ (.head _))))))))))
  dsimp only at box_ul d_ul ll_ul gl_ul pen_ul cl_ul c3_ul c2_ul c1_ul
  have uT : ∀ q ∈ T0, q.1 ≠ ul := fun q hq => au q (.tail _ (.tail _ (.tail _ (.tail _ (.tail _ (.tail _ (.tail _ (.tail _ (.tail _ (hq))))))))))
  have N9 := kp_add F3 N9 hu9 hu9'
  clear N F3 au K9
  k_steps
  unfold Stop
  rename Fr _ _ _ _ => F4
  rename News _ _ _ _ => N4
  clear hou
  obtain ⟨ou2, eo⟩ := news_o0 (news_tl (news_tl (news_tl (news_tl (news_tl (news_tl (news_tl (news_tl (news_tl N4)))))))))
  subst eo
  have hou : ou2.data = .cell (some (.ref ul)) := by assumption
  refine' call_cls (K := hd.heap_1 w.params) F4 X N4 ?m1 ?i1 ?f1 ?w1
  case m1 => k_is
  case i1 => k_is
  case f1 => k_is
  intro view dv h5 F5 N5 la lb
  refine' ConI.use1 (init_con _ _ _ _ k box d tn tv nu t2 tp t3 t4 ll gl vs c us view dv) ?vB F5 X N5 T ?vk ?vd ?vu ?vU ?vp ?vk2
  case vB => k_asm
  case vk => exact rfl
  case vd => exact Nat.le_of_ble_eq_true rfl
  case vu => exact Nat.le_of_ble_eq_true rfl
  case vU => exact UpdF.tail (Nat.ne_of_gt lb) (UpdF.head fun p hp => Nat.ne_of_lt (la p hp))
  case vp => exact ⟨(N5 _ (.head _)).1, ⟨(N5 _ (.tail _ (.tail _ (.tail _ (.head _))))).1, (N5 _ (.tail _ (.tail _ (.tail _ (.tail _ (.head _)))))).1, (N5 _ (.tail _ (.tail _ (.tail _ (.tail _ (.tail _ (.head _))))))).1, lets_news N5 hL (fun q hq => .tail _ (.tail _ (.tail _ (.tail _ (.tail _ (.tail _ (.tail _ (.tail _ (.tail _ (.tail _ (.tail _ (.tail _ (hq)))))))))))))⟩, Nat.le_trans hul (by decide)⟩
  intro v h9 tk9 K9 F9 N9 hP9
  obtain ⟨rfl, kv, ulv, fd, md, xv, cv, fo, mo, k1, k2, hdv, hfr, hxv, hfo, hmo, hk1, hk2, ulv_fd, ulv_md, fd_md⟩ := hP9
  have N9 := N9 _ hdv
  have ap := hfr.apart N5
  have N9 := hfr.toNews F5 N9
  simp only [List.cons_append, List.nil_append] at N9
  have view_dv : @Ne Nat view dv := Nat.ne_of_gt lb
  have ap1 := (List.forall_mem_cons.mp ap).1
  have ap2 := (List.forall_mem_cons.mp (List.forall_mem_cons.mp ap).2).1
  have ap3 := (List.forall_mem_cons.mp (List.forall_mem_cons.mp (List.forall_mem_cons.mp ap).2).2).1
  replace ulv_fd := neN ulv_fd
  replace ulv_md := neN ulv_md
  replace fd_md := neN fd_md
  have ul_dv := neN (Nat.ne_of_lt (la _ (.head _)))
  have ul_view := neN (Nat.ne_of_lt (Nat.lt_trans (la _ (.head _)) lb))
  have box_dv := neN (Nat.ne_of_lt (la _ (.tail _ (.head _))))
  have box_view := neN (Nat.ne_of_lt (Nat.lt_trans (la _ (.tail _ (.head _))) lb))
  have d_dv := neN (Nat.ne_of_lt (la _ (.tail _ (.tail _ (.head _)))))
  have d_view := neN (Nat.ne_of_lt (Nat.lt_trans (la _ (.tail _ (.tail _ (.head _)))) lb))
  have ll_dv := neN (Nat.ne_of_lt (la _ (.tail _ (.tail _ (.tail _ (.head _))))))
  have ll_view := neN (Nat.ne_of_lt (Nat.lt_trans (la _ (.tail _ (.tail _ (.tail _ (.head _))))) lb))
  have gl_dv := neN (Nat.ne_of_lt (la _ (.tail _ (.tail _ (.tail _ (.tail _ (.head _)))))))
  have gl_view := neN (Nat.ne_of_lt (Nat.lt_trans (la _ (.tail _ (.tail _ (.tail _ (.tail _ (.head _)))))) lb))
  have pen_dv := neN (Nat.ne_of_lt (la _ (.tail _ (.tail _ (.tail _ (.tail _ (.tail _ (.head _))))))))
  have pen_view := neN (Nat.ne_of_lt (Nat.lt_trans (la _ (.tail _ (.tail _ (.tail _ (.tail _ (.tail _ (.head _))))))) lb))
  have cl_dv := neN (Nat.ne_of_lt (la _ (.tail _ (.tail _ (.tail _ (.tail _ (.tail _ (.tail _ (.head _)))))))))
  have cl_view := neN (Nat.ne_of_lt (Nat.lt_trans (la _ (.tail _ (.tail _ (.tail _ (.tail _ (.tail _ (.tail _ (.head _)))))))) lb))
  have c3_dv := neN (Nat.ne_of_lt (la _ (.tail _ (.tail _ (.tail _ (.tail _ (.tail _ (.tail _ (.tail _ (.head _))))))))))
  have c3_view := neN (Nat.ne_of_lt (Nat.lt_trans (la _ (.tail _ (.tail _ (.tail _ (.tail _ (.tail _ (.tail _ (.tail _ (.head _))))))))) lb))
  have c2_dv := neN (Nat.ne_of_lt (la _ (.tail _ (.tail _ (.tail _ (.tail _ (.tail _ (.tail _ (.tail _ (.tail _ (.head _)))))))))))
  have c2_view := neN (Nat.ne_of_lt (Nat.lt_trans (la _ (.tail _ (.tail _ (.tail _ (.tail _ (.tail _ (.tail _ (.tail _ (.tail _ (.head _)))))))))) lb))
  have c1_dv := neN (Nat.ne_of_lt (la _ (.tail _ (.tail _ (.tail _ (.tail _ (.tail _ (.tail _ (.tail _ (.tail _ (.tail _ (.head _))))))))))))
  have c1_view := neN (Nat.ne_of_lt (Nat.lt_trans (la _ (.tail _ (.tail _ (.tail _ (.tail _ (.tail _ (.tail _ (.tail _ (.tail _ (.tail _ (.head _))))))))))) lb))
  have ulv_view := neN (ap1 _ (.head _))
  have ulv_dv := neN (ap1 _ (.tail _ (.head _)))
  have ulv_ul := neN (ap1 _ (.tail _ (.tail _ (.head _))))
  have ulv_box := neN (ap1 _ (.tail _ (.tail _ (.tail _ (.head _)))))
  have ulv_d := neN (ap1 _ (.tail _ (.tail _ (.tail _ (.tail _ (.head _))))))
  have ulv_ll := neN (ap1 _ (.tail _ (.tail _ (.tail _ (.tail _ (.tail _ (.head _)))))))
  have ulv_gl := neN (ap1 _ (.tail _ (.tail _ (.tail _ (.tail _ (.tail _ (.tail _ (.head _))))))))
  have ulv_pen := neN (ap1 _ (.tail _ (.tail _ (.tail _ (.tail _ (.tail _ (.tail _ (.tail _ (.head _)))))))))
  have ulv_cl := neN (ap1 _ (.tail _ (.tail _ (.tail _ (.tail _ (.tail _ (.tail _ (.tail _ (.tail _ (.head _))))))))))
  have ulv_c3 := neN (ap1 _ (.tail _ (.tail _ (.tail _ (.tail _ (.tail _ (.tail _ (.tail _ (.tail _ (.tail _ (.head _)))))))))))
  have ulv_c2 := neN (ap1 _ (.tail _ (.tail _ (.tail _ (.tail _ (.tail _ (.tail _ (.tail _ (.tail _ (.tail _ (.tail _ (.head _))))))))))))
  have ulv_c1 := neN (ap1 _ (.tail _ (.tail _ (.tail _ (.tail _ (.tail _ (.tail _ (.tail _ (.tail _ (.tail _ (.tail _ (.tail _ (.head _)))))))))))))
  have fd_view := neN (ap2 _ (.head _))
  have fd_dv := neN (ap2 _ (.tail _ (.head _)))
  have fd_ul := neN (ap2 _ (.tail _ (.tail _ (.head _))))
  have fd_box := neN (ap2 _ (.tail _ (.tail _ (.tail _ (.head _)))))
  have fd_d := neN (ap2 _ (.tail _ (.tail _ (.tail _ (.tail _ (.head _))))))
  have fd_ll := neN (ap2 _ (.tail _ (.tail _ (.tail _ (.tail _ (.tail _ (.head _)))))))
  have fd_gl := neN (ap2 _ (.tail _ (.tail _ (.tail _ (.tail _ (.tail _ (.tail _ (.head _))))))))
  have fd_pen := neN (ap2 _ (.tail _ (.tail _ (.tail _ (.tail _ (.tail _ (.tail _ (.tail _ (.head _)))))))))
  have fd_cl := neN (ap2 _ (.tail _ (.tail _ (.tail _ (.tail _ (.tail _ (.tail _ (.tail _ (.tail _ (.head _))))))))))
  have fd_c3 := neN (ap2 _ (.tail _ (.tail _ (.tail _ (.tail _ (.tail _ (.tail _ (.tail _ (.tail _ (.tail _ (.head _)))))))))))
  have fd_c2 := neN (ap2 _ (.tail _ (.tail _ (.tail _ (.tail _ (.tail _ (.tail _ (.tail _ (.tail _ (.tail _ (.tail _ (.head _))))))))))))
  have fd_c1 := neN (ap2 _ (.tail _ (.tail _ (.tail _ (.tail _ (.tail _ (.tail _ (.tail _ (.tail _ (.tail _ (.tail _ (.tail _ (.head _)))))))))))))
  have md_view := neN (ap3 _ (.head _))
  have md_dv := neN (ap3 _ (.tail _ (.head _)))
  have md_ul := neN (ap3 _ (.tail _ (.tail _ (.head _))))
  have md_box := neN (ap3 _ (.tail _ (.tail _ (.tail _ (.head _)))))
  have md_d := neN (ap3 _ (.tail _ (.tail _ (.tail _ (.tail _ (.head _))))))
  have md_ll := neN (ap3 _ (.tail _ (.tail _ (.tail _ (.tail _ (.tail _ (.head _)))))))
  have md_gl := neN (ap3 _ (.tail _ (.tail _ (.tail _ (.tail _ (.tail _ (.tail _ (.head _))))))))
  have md_pen := neN (ap3 _ (.tail _ (.tail _ (.tail _ (.tail _ (.tail _ (.tail _ (.tail _ (.head _)))))))))
  have md_cl := neN (ap3 _ (.tail _ (.tail _ (.tail _ (.tail _ (.tail _ (.tail _ (.tail _ (.tail _ (.head _))))))))))
  have md_c3 := neN (ap3 _ (.tail _ (.tail _ (.tail _ (.tail _ (.tail _ (.tail _ (.tail _ (.tail _ (.tail _ (.head _)))))))))))
  have md_c2 := neN (ap3 _ (.tail _ (.tail _ (.tail _ (.tail _ (.tail _ (.tail _ (.tail _ (.tail _ (.tail _ (.tail _ (.head _))))))))))))
  have md_c1 := neN (ap3 _ (.tail _ (.tail _ (.tail _ (.tail _ (.tail _ (.tail _ (.tail _ (.tail _ (.tail _ (.tail _ (.tail _ (.head _)))))))))))))
  dsimp only at ul_dv ul_view box_dv box_view d_dv d_view ll_dv ll_view gl_dv gl_view pen_dv pen_view cl_dv cl_view c3_dv c3_view c2_dv c2_view c1_dv c1_view ulv_view ulv_dv ulv_ul ulv_box ulv_d ulv_ll ulv_gl ulv_pen ulv_cl ulv_c3 ulv_c2 ulv_c1 fd_view fd_dv fd_ul fd_box fd_d fd_ll fd_gl fd_pen fd_cl fd_c3 fd_c2 fd_c1 md_view md_dv md_ul md_box md_d md_ll md_gl md_pen md_cl md_c3 md_c2 md_c1
  have vT : ∀ q ∈ T0, q.1 ≠ view := fun q hq => Nat.ne_of_lt (Nat.lt_trans (la q (.tail _ (.tail _ (.tail _ (.tail _ (.tail _ (.tail _ (.tail _ (.tail _ (.tail _ (.tail _ (hq)))))))))))) lb)
  have dT : ∀ q ∈ T0, q.1 ≠ dv := fun q hq => Nat.ne_of_lt (la q (.tail _ (.tail _ (.tail _ (.tail _ (.tail _ (.tail _ (.tail _ (.tail _ (.tail _ (.tail _ (hq))))))))))))
  clear la lb ap ap1 ap2 ap3 hfr K9 N5 F5 N4 F4
  refine ⟨rfl, ?_⟩
  (try dsimp only)
  k_steps
  unfold Stop
  rename News g L' _ _ => N4
  refine' draw_useU ?dB ?dF ?dX ?dN ?dT ?dhk ?dhd ?dhu ?dU ?dcl hcs hns ⟨⟨hsp.1, Int.le_trans hsp.2 (by decide)⟩, hpw, by decide, by decide⟩ ?dk
  case dB => k_asm
  case dF => k_asm
  case dX => k_asm
  case dN => k_asm
  case dT => k_asm
  case dhk => exact rfl
  case dhd => ktr_room
  case dhu => ktr_units
  case dU => k_updF
  case dcl => walk_at "MY_OBJ"
  intro r tr t5 h6 tk6 hr0 hr1 K6 F6 N6
  (try dsimp only at N6)
  clear N4 K6
  k_steps
  (try unfold Stop)
  rename News g L' _ _ => N4
  obtain ⟨sl, e⟩ := news_a0 N4
  subst e
  rename IntsAre _ (List.take r.toNat us) => hI5
  rename (List.take r.toNat us).length ≤ _ => hL5
  obtain ⟨wsl, e⟩ := ints_v hI5
  subst e
  refine' Con.use1 (exp_con _ _ _ _ k box d tn tv nu t2 tp t3 t4 ll gl sl vs gs wsl c cg 0 us (List.take r.toNat us)) ?eB ?eF ?eX ?eN ?eT ?ehk ?ehd ?ehu ?eU ?ehp ?ek
  case eB => k_asm
  case eF => k_asm
  case eX => k_asm
  case eN => k_asm
  case eT => k_asm
  case ehk => exact rfl
  case ehd => ktr_room
  case ehu => ktr_units
  case eU => k_updF
  case ehp => exact ⟨(N4 _ (.tail _ (.tail _ (.tail _ (.tail _ (.tail _ (.tail _ (.tail _ (.head _))))))))).1, (N4 _ (.tail _ (.tail _ (.tail _ (.tail _ (.tail _ (.tail _ (.tail _ (.tail _ (.tail _ (.head _))))))))))).1, lets_news N4 hL (fun q hq => .tail _ (.tail _ (.tail _ (.tail _ (.tail _ (.tail _ (.tail _ (.tail _ (.tail _ (.tail _ (.tail _ (.tail _ (.tail _ (.tail _ (.tail _ (.tail _ (hq))))))))))))))))), Nat.le_trans hul (by decide), (N4 _ (.tail _ (.tail _ (.tail _ (.tail _ (.tail _ (.tail _ (.tail _ (.tail _ (.tail _ (.tail _ (.head _)))))))))))).1, Nat.le_trans hgl (by decide), (N4 _ (.head _)).1, hI5, Nat.le_trans hL5 (Nat.le_trans hul (by decide))⟩
  intro v h7 tk7 K7 F7 N7 hP7
  obtain ⟨nu9, t29, tp9, t39, ll9, gl9, hd7⟩ : ∃ nu9 t29 tp9 t39 ll9 gl9, h7.get? d = some (boxO w k tn tv nu9 t29 tp9 t39 t4 ll9 gl9) := by
    rcases hP7 with hP | ⟨t3n, l1n, g1n, c1n, cg1n, vs1, us1, gs1, hd9, hrest⟩
    · exact ⟨_, _, _, _, _, _, hP⟩
    · exact ⟨_, _, _, _, _, _, hd9⟩
  have N7 := N7 _ hd7
  (try dsimp only at N7)
  clear N4 K7 hP7
  k_steps
  (try unfold Stop)
  have hpos : ∀ u ∈ us, 1 ≤ u := fun u hu => (hbd u hu).1
  have hul9 : us.length ≤ 90 := Nat.le_trans hul (by decide)
  have hnd : ([view, dv, ulv, ul, L' + 1, L' + 1 + 1, L' + 1 + 1 + 1, pen, cl] : List Addr).Nodup := by
    simp only [List.nodup_cons, List.mem_cons, List.not_mem_nil, or_false, not_or, not_false_eq_true, List.nodup_nil, and_true]
    repeat' (first | apply And.intro | k_ne)
  have hR2 : OwnOff ([(box, instObj 235 d), (d, boxO w k tn tv nu9 t29 tp9 t39 t4 ll9 gl9), (fd, fo), (md, mo)]) [L' + 1 + 1, L' + 1 + 1 + 1, pen] := by
    intro q hq b hb
    simp only [List.mem_cons, List.not_mem_nil, or_false] at hq hb
    rcases hq with rfl | rfl | rfl | rfl <;> rcases hb with rfl | rfl | rfl <;> k_ne
  refine loop_lap (kv := kv) (dv := dv) (box := box) (ulv := ulv) (fd := fd) (md := md) (ul := ul) (pen := pen) (cl := cl) (cv := cv) (cu := cu) (n := n) (c0 := c0) (ou := ou2) (os := os) (ol := ol) (sp := sp + 1) (t := t5) (tw := tw) (R2 := [(box, instObj 235 d), (d, boxO w k tn tv nu9 t29 tp9 t39 t4 ll9 gl9), (fd, fo), (md, mo)]) (by rfl) K0 (fr_re (ps := [(Str.ofString "pen", .ref pen), (Str.ofString "view", .ref view)]) ?_ F7) X (news_sub N7 ?_) T GL hxv hxu hul9 hasc hpos hcs hns ⟨Int.le_trans hsp.1 (Int.le_add_one (Int.le_refl _)), Int.le_trans (Int.add_le_add_right hsp.2 1) (by decide)⟩ hpw hou hos hol hnd hR2 ?_
  · intro p hp
    rcases List.mem_cons.mp hp with rfl | hp
    · rfl
    · rw [List.mem_singleton.mp hp]; rfl
  · exact List.forall_mem_cons.mpr ⟨.tail _ (.tail _ (.tail _ (.tail _ (.head _)))), List.forall_mem_cons.mpr ⟨.tail _ (.tail _ (.tail _ (.tail _ (.tail _ (.head _))))), List.forall_mem_cons.mpr ⟨.tail _ (.head _), List.forall_mem_cons.mpr ⟨.tail _ (.tail _ (.tail _ (.tail _ (.tail _ (.tail _ (.head _)))))), List.forall_mem_cons.mpr ⟨.tail _ (.tail _ (.tail _ (.tail _ (.tail _ (.tail _ (.tail _ (.tail _ (.tail _ (.tail _ (.tail _ (.tail _ (.tail _ (.tail _ (.tail _ (.head _))))))))))))))), List.forall_mem_cons.mpr ⟨.tail _ (.tail _ (.tail _ (.tail _ (.tail _ (.tail _ (.tail _ (.tail _ (.tail _ (.tail _ (.tail _ (.tail _ (.tail _ (.tail _ (.head _)))))))))))))), List.forall_mem_cons.mpr ⟨.tail _ (.tail _ (.tail _ (.tail _ (.tail _ (.tail _ (.tail _ (.tail _ (.tail _ (.tail _ (.tail _ (.tail _ (.tail _ (.head _))))))))))))), List.forall_mem_cons.mpr ⟨.tail _ (.tail _ (.tail _ (.tail _ (.tail _ (.tail _ (.tail _ (.tail _ (.tail _ (.tail _ (.tail _ (.head _))))))))))), List.forall_mem_cons.mpr ⟨.tail _ (.tail _ (.tail _ (.tail _ (.tail _ (.tail _ (.tail _ (.tail _ (.tail _ (.tail _ (.tail _ (.tail _ (.head _)))))))))))), List.forall_mem_cons.mpr ⟨.tail _ (.tail _ (.tail _ (.tail _ (.tail _ (.tail _ (.tail _ (.head _))))))), List.forall_mem_cons.mpr ⟨.tail _ (.tail _ (.tail _ (.tail _ (.tail _ (.tail _ (.tail _ (.tail _ (.head _)))))))), List.forall_mem_cons.mpr ⟨.tail _ (.tail _ (.head _)), List.forall_mem_cons.mpr ⟨.tail _ (.tail _ (.tail _ (.head _))), fun q hq => nomatch hq⟩⟩⟩⟩⟩⟩⟩⟩⟩⟩⟩⟩⟩
  clear F7 N7 hos hol
  intro os8 ol8 sp8 t8 m8 h8 tk8 F8 N8
  k_steps
  (try unfold Stop)
  refine loop_num (kv := kv) (dv := dv) (box := box) (ulv := ulv) (fd := fd) (md := md) (ul := ul) (cv := cv) (cu := cu) (ou := ou2) (TT := [(box, instObj 235 d), (d, boxO w k tn tv nu9 t29 tp9 t39 t4 ll9 gl9), (fd, fo), (md, mo)]) (by rfl) K0 (fr_re (ps := [(Str.ofString "view", .ref view)]) ?_ F8) X (news_sub N8 ?_) T GL hxv hxu hul9 hasc hou ?_
  · intro p hp; rw [List.mem_singleton.mp hp]; rfl
  · exact List.forall_mem_cons.mpr ⟨.head _, List.forall_mem_cons.mpr ⟨.tail _ (.head _), List.forall_mem_cons.mpr ⟨.tail _ (.tail _ (.head _)), List.forall_mem_cons.mpr ⟨.tail _ (.tail _ (.tail _ (.head _))), List.forall_mem_cons.mpr ⟨.tail _ (.tail _ (.tail _ (.tail _ (.head _)))), List.forall_mem_cons.mpr ⟨.tail _ (.tail _ (.tail _ (.tail _ (.tail _ (.tail _ (.tail _ (.tail _ (.tail _ (.head _))))))))), List.forall_mem_cons.mpr ⟨.tail _ (.tail _ (.tail _ (.tail _ (.tail _ (.tail _ (.tail _ (.tail _ (.tail _ (.tail _ (.head _)))))))))), List.forall_mem_cons.mpr ⟨.tail _ (.tail _ (.tail _ (.tail _ (.tail _ (.tail _ (.tail _ (.tail _ (.tail _ (.tail _ (.tail _ (.head _))))))))))), List.forall_mem_cons.mpr ⟨.tail _ (.tail _ (.tail _ (.tail _ (.tail _ (.tail _ (.tail _ (.tail _ (.tail _ (.tail _ (.tail _ (.tail _ (.head _)))))))))))), fun q hq => nomatch hq⟩⟩⟩⟩⟩⟩⟩⟩⟩
  clear F8 N8
  intro m9 h9 tk9 F9 N9
  k_steps
  (try unfold Stop)
  refine ListComp_tup F9 (by with_unfolding_all rfl) (by decide) (by rfl) (by decide) (by rfl) (by rfl) ?_
  k_steps
  (try unfold Stop)
  refine Con.use (told_con _ _ _ _ kv view dv box ulv fd md xv us cv) (by k_asm) (by k_asm) (by k_asm) N9 (by k_asm) rfl (by ktr_room) (by ktr_units)
    ⟨⟨(N9 _ (.head _)).1, (N9 _ (.tail _ (.head _))).1, (N9 _ (.tail _ (.tail _ (.head _)))).1⟩, hxv, hul9, ⟨fo, k1, (N9 _ (.tail _ (.tail _ (.tail _ (.tail _ (.tail _ (.tail _ (.tail _ (.head _))))))))).1, hfo, hk1⟩, ⟨mo, k2, (N9 _ (.tail _ (.tail _ (.tail _ (.tail _ (.tail _ (.tail _ (.tail _ (.tail _ (.head _)))))))))).1, hmo, hk2⟩⟩ ?_
  intro v h10 tk10 K10 F10 N10 hP10
  obtain ⟨b9, ws9, T9, rfl, hfr9, hwl9, hrow⟩ := hP10
  have N10 := hfr9.toNews F9 N10
  simp only [List.cons_append] at N10
  clear F9 N9 K10 hfr9
  refine ⟨b9, List.toArray ws9, _, rfl, F10, N10, .inr (.head _), by rw [List.size_toArray, sizeLine_eq, hwl9]; omega, fun gg => ?_⟩
  refine crest (fun i ys nw => IntsAre ys (us.take i) ∧ nw = _) ?_ ?_ ⟨.nil, rfl⟩
  · rintro j v2 I2 oI2 C oC D m2 ys nw h3 tk3 E' hj hv2 ⟨hys, rfl⟩ hNs hx F3 N3 off ne
    rw [List.size_toArray, hwl9] at hj
    obtain ⟨a9, ta, xa, ya, rfl, hmem⟩ := hrow j v2 (by simpa using hv2)
    replace N3 := news_dup N3 (.tail _ (.tail _ (.tail _ (.tail _ (List.mem_append_left _ hmem)))))
    clear F10 N10
    k_steps
    unfold Stop
    rename Fr _ _ _ _ => F4
    rename News _ _ _ _ => N4
    refine LCg.CompEnd.intro F4 N4 _ (fun _ h => .tail _ h) off (.inr (.head _)) ⟨?_, rfl⟩
    rw [List.take_add_one, getD_some (l := us) hj]
    exact ints_app hys (.cons _ _ .nil)
  rintro ys nw ⟨hys, rfl⟩
  intro D h4 tk4 F4 N4 o4
  rw [List.size_toArray, hwl9, List.take_length] at hys
  replace N4 : News g L' h4 [(D, LCg.lst ys), (ul, listOf (List.toArray xu) cu), (L' + 1, ou2)] := news_sub N4 (List.forall_mem_cons.mpr ⟨.head _, List.forall_mem_cons.mpr ⟨.tail _ (.tail _ (List.mem_append_right _ (.tail _ (.tail _ (.tail _ (.head _)))))), List.forall_mem_singleton.mpr (.tail _ (.tail _ (List.mem_append_right _ (.tail _ (.tail _ (.tail _ (.tail _ (.head _))))))))⟩⟩)
  clear F10 N10
  k_steps
  unfold Stop
  refine ke_eq_ints (xs := ys) (ys := xu) (PySem.IsL.isList (N4 _ (.head _)).1) (PySem.IsL.isList (N4 _ (.tail _ (.head _))).1) hys hxu (by ktr_units) ?_
  rw [decide_eq_true rfl]
  k_steps
  exact hQ _ _ _ F4
end
section

theorem news_h {h₀ h : Heap} {L : Addr} {l : List (Addr × Obj)} (_ : News h₀ L h l) : ∃ x, x = h := ⟨h, rfl⟩
theorem law_body {w : World} {mean : ExcName → Option Value} {mg mb : Str → Option Value} {g : Heap} {fa ca L' sa : Addr} {m₀ : Str → Option Value} {xs : List Value} {ns : List Int} {o1 o2 o3 : Obj} {b : List Stmt} {sc : Scope} {s : Shared} {Q : Flow → Shared → Prop}
    (hlaw : lawFn = some (b, sc)) (K0 : Below callerA g [] g) (F : Fr g L' s.heap (kstB m₀ [(Str.ofString "script", .ref sa)])) (X : (hd.heap_1 w.params).In g) (N : News g L' s.heap [(L' + 1 + 1 + 1, o1), (L' + 1 + 1, o2), (L' + 1, o3)])
    (T : Top viewQ (looseW viewQ [Str.ofString "PostError"]) mean mg mb g) (GL : GlobAt mg mb g) (hxs : IntsAre xs ns) (hsa : g.IsList sa xs.toArray) (hlen : ns.length ≤ 63)
    (h1 : o1.data = .cell none) (h2 : o2.data = .cell none) (h3 : o3.data = .cell none)
    (hQ : ∀ (h' : Heap) (tk' : Nat) (m' : Str → Option Value), Fr g L' h' m' → Q (.ret (.bool true)) { s with heap := h', toks := tk' }) :
    wpAny (model Challenge.rw_no0370_01.row.prog w) (callerA.deeper (envOfC (Str.ofString "law") sc L' fa (.ref ca))) (execs b (envOfC (Str.ofString "law") sc L' fa (.ref ca))) Q (fun _ _ => False) s := by
  obtain ⟨hb, hs⟩ := Prod.mk.inj (Option.some.inj ((show lawFn = some (_, _) from rfl).symm.trans hlaw))
  subst hb hs
  clear hlaw
  revert X
  k_fill
  intro X
  k_steps
  unfold Stop
  refine LCg.Assign_ListComp_U F (by rfl) (by with_unfolding_all rfl) (by with_unfolding_all rfl) (by decide) (by rfl) (by decide) (by rfl) (by rfl) (by rfl) ?_
  k_steps
  unfold Stop
  rename Fr _ _ _ _ => F2
  rename News _ _ _ _ => N2
  rename IntsAre _ (List.take 60 ns) => hI2
  rename (List.take 60 ns).length ≤ _ => hL2
  have hwl := hI2.length
  refine LCg.CompSrc.ledger (by rfl) F2 N2 (.head _) (by rw [List.size_toArray, sizeLine_eq]; omega) fun g' => ?_
  refine crest (fun i ys nw => IntsAre ys (((List.take 60 ns).take i).map fun k => k.fmod 1000003) ∧ nw = _) ?_ ?_ ⟨.nil, rfl⟩
  · rintro j v2 I2 oI2 C oC D m2 ys nw h3 tk3 E' hj hv2 ⟨hys, rfl⟩ hNs hx F3 N3 off ne
    obtain ⟨n2, t2, rfl, hn2⟩ := ints_get hI2 (by simpa using hv2)
    clear F2 N2
    k_steps
    unfold Stop
    refine LCg.CompEnd.intro F3 N3 _ (fun _ h => h) off (.inr ⟨_, .head _, rfl, _, rfl⟩) ⟨?_, rfl⟩
    rw [List.take_add_one, hn2, List.map_append]
    exact ints_app hys (.cons _ _ .nil)
  rintro cs nw ⟨hcs, rfl⟩
  intro cl h4 tk4 F4 N4 o4
  simp only [LCg.Off1, and_true] at o4
  obtain ⟨o41, o42, o43, o44⟩ := o4
  rw [List.size_toArray, hwl, List.take_length] at hcs
  clear F2 N2
  have hcl := hcs.length
  have hnl : ((List.take 60 ns).map fun k => k.fmod 1000003).length ≤ 100 := by rw [List.length_map]; omega
  generalize ((List.take 60 ns).map fun k => k.fmod 1000003) = ms at hcs hcl hnl
  k_steps
  unfold Stop
  rename Fr g L' _ _ => F5
  rename News g L' _ _ => N5
  rename Obj.data _ = Data.cell (some _) => hu0
  obtain ⟨u0, e⟩ := news_a0 (news_tl (N5))
  subst e
  obtain ⟨gl, e⟩ := news_a0 (news_tl (news_tl (N5)))
  subst e
  obtain ⟨ll, e⟩ := news_a0 (news_tl (news_tl (news_tl (N5))))
  subst e
  obtain ⟨box, e⟩ := news_a0 (news_tl (news_tl (news_tl (news_tl (N5)))))
  subst e
  obtain ⟨d, e⟩ := news_a0 (news_tl (news_tl (news_tl (news_tl (news_tl (N5))))))
  subst e
  obtain ⟨pen, e⟩ := news_a0 (news_tl (news_tl (news_tl (news_tl (news_tl (news_tl (N5)))))))
  subst e
  obtain ⟨o4, e⟩ := news_o0 (news_tl (news_tl (news_tl (news_tl (news_tl (news_tl (news_tl (news_tl (news_tl (news_tl (news_tl (N5))))))))))))
  subst e
  obtain ⟨h5, e⟩ := news_h N5
  subst e
  obtain ⟨kk, tn, tv, t2, t3, t4, tp, tw, N6⟩ : ∃ kk tn tv t2 t3 t4 tp tw, News g L' h5 ((box, instObj 235 d) :: (d, boxO w kk tn tv 1 t2 1 t3 t4 ll gl) :: (ll, listOf (List.toArray []) 0) :: (gl, listOf (List.toArray []) 0) :: (pen, penO cl 0 tp (ms.sum.fmod 997) tw 0) :: (cl, listOf cs.toArray cs.length) :: [(L' + 1 + 1 + 1, o1), (L' + 1 + 1, o2), (L' + 1, o4)]) :=
    ⟨toks7 _ _ _ _ _ _ _, _, _, _, _, _, _, _, news_sub N5 (List.forall_mem_cons.mpr ⟨.tail _ (.tail _ (.tail _ (.tail _ (.head _)))), List.forall_mem_cons.mpr ⟨.tail _ (.tail _ (.tail _ (.tail _ (.tail _ (.head _))))), List.forall_mem_cons.mpr ⟨.tail _ (.tail _ (.tail _ (.head _))), List.forall_mem_cons.mpr ⟨.tail _ (.tail _ (.head _)), List.forall_mem_cons.mpr ⟨.tail _ (.tail _ (.tail _ (.tail _ (.tail _ (.tail _ (.head _)))))), List.forall_mem_cons.mpr ⟨.tail _ (.tail _ (.tail _ (.tail _ (.tail _ (.tail _ (.tail _ (.head _))))))), List.forall_mem_cons.mpr ⟨.tail _ (.tail _ (.tail _ (.tail _ (.tail _ (.tail _ (.tail _ (.tail _ (.tail _ (.head _))))))))), List.forall_mem_cons.mpr ⟨.tail _ (.tail _ (.tail _ (.tail _ (.tail _ (.tail _ (.tail _ (.tail _ (.tail _ (.tail _ (.head _)))))))))), List.forall_mem_cons.mpr ⟨.tail _ (.tail _ (.tail _ (.tail _ (.tail _ (.tail _ (.tail _ (.tail _ (.tail _ (.tail _ (.tail _ (.head _))))))))))), fun q hq => nomatch hq⟩⟩⟩⟩⟩⟩⟩⟩⟩)⟩
  have box_d : @Ne Nat box d := by k_ne
  have box_ll : @Ne Nat box ll := by k_ne
  have box_gl : @Ne Nat box gl := by k_ne
  have box_pen : @Ne Nat box pen := by k_ne
  have box_cl : @Ne Nat box cl := by k_ne
  have d_ll : @Ne Nat d ll := by k_ne
  have d_gl : @Ne Nat d gl := by k_ne
  have d_pen : @Ne Nat d pen := by k_ne
  have d_cl : @Ne Nat d cl := by k_ne
  have gl_ll0 : @Ne Nat ll gl := by k_ne
  have ll_pen : @Ne Nat ll pen := by k_ne
  have ll_cl : @Ne Nat ll cl := by k_ne
  have gl_pen : @Ne Nat gl pen := by k_ne
  have gl_cl : @Ne Nat gl cl := by k_ne
  have pen_cl : @Ne Nat pen cl := by k_ne
  have c3_box : @Ne Nat (L' + 1 + 1 + 1) box := by k_ne
  have c3_d : @Ne Nat (L' + 1 + 1 + 1) d := by k_ne
  have c3_ll : @Ne Nat (L' + 1 + 1 + 1) ll := by k_ne
  have c3_gl : @Ne Nat (L' + 1 + 1 + 1) gl := by k_ne
  have c3_pen : @Ne Nat (L' + 1 + 1 + 1) pen := by k_ne
  have c3_cl : @Ne Nat (L' + 1 + 1 + 1) cl := by k_ne
  have c3_u0 : @Ne Nat (L' + 1 + 1 + 1) u0 := by k_ne
  have c2_box : @Ne Nat (L' + 1 + 1) box := by k_ne
  have c2_d : @Ne Nat (L' + 1 + 1) d := by k_ne
  have c2_ll : @Ne Nat (L' + 1 + 1) ll := by k_ne
  have c2_gl : @Ne Nat (L' + 1 + 1) gl := by k_ne
  have c2_pen : @Ne Nat (L' + 1 + 1) pen := by k_ne
  have c2_cl : @Ne Nat (L' + 1 + 1) cl := by k_ne
  have c2_u0 : @Ne Nat (L' + 1 + 1) u0 := by k_ne
  have c1_box : @Ne Nat (L' + 1) box := by k_ne
  have c1_d : @Ne Nat (L' + 1) d := by k_ne
  have c1_ll : @Ne Nat (L' + 1) ll := by k_ne
  have c1_gl : @Ne Nat (L' + 1) gl := by k_ne
  have c1_pen : @Ne Nat (L' + 1) pen := by k_ne
  have c1_cl : @Ne Nat (L' + 1) cl := by k_ne
  have c1_u0 : @Ne Nat (L' + 1) u0 := by k_ne
  have u0_box : @Ne Nat u0 box := by k_ne
  have u0_d : @Ne Nat u0 d := by k_ne
  have u0_ll : @Ne Nat u0 ll := by k_ne
  have u0_gl : @Ne Nat u0 gl := by k_ne
  have u0_pen : @Ne Nat u0 pen := by k_ne
  have u0_cl : @Ne Nat u0 cl := by k_ne
  have hpw : 0 ≤ ms.sum.fmod 997 ∧ ms.sum.fmod 997 ≤ 1000 := ⟨Int.fmod_nonneg_of_pos _ (by decide), Int.le_of_lt (Int.lt_trans (Int.fmod_lt_of_pos _ (by decide)) (by decide))⟩
  have hf0 : BFa w box d pen cl [(L' + 1 + 1 + 1, o1), (L' + 1 + 1, o2), (L' + 1, o4)] 0 ⟨1, t2, 1, t3, ll, gl, [], 0, [], [], 0, [(L' + 1 + 1 + 1, o1), (L' + 1 + 1, o2), (L' + 1, o4)]⟩ := by
    refine ⟨List.Pairwise.nil, (fun u hu => nomatch hu), Int.le_refl _, Nat.le_refl _, Nat.le_refl _, ?_, ⟨[], rfl, (fun q hq => nomatch hq), Lets.nil⟩, gl_ll0, Ne.symm box_ll, Ne.symm d_ll, ll_pen, ll_cl, Ne.symm box_gl, Ne.symm d_gl, gl_pen, gl_cl⟩
    exact List.forall_mem_cons.mpr ⟨List.forall_mem_cons.mpr ⟨c3_box, List.forall_mem_cons.mpr ⟨c3_d, List.forall_mem_cons.mpr ⟨c3_ll, List.forall_mem_cons.mpr ⟨c3_gl, List.forall_mem_cons.mpr ⟨c3_pen, List.forall_mem_singleton.mpr c3_cl⟩⟩⟩⟩⟩,
      List.forall_mem_cons.mpr ⟨List.forall_mem_cons.mpr ⟨c2_box, List.forall_mem_cons.mpr ⟨c2_d, List.forall_mem_cons.mpr ⟨c2_ll, List.forall_mem_cons.mpr ⟨c2_gl, List.forall_mem_cons.mpr ⟨c2_pen, List.forall_mem_singleton.mpr c2_cl⟩⟩⟩⟩⟩,
      List.forall_mem_singleton.mpr (List.forall_mem_cons.mpr ⟨c1_box, List.forall_mem_cons.mpr ⟨c1_d, List.forall_mem_cons.mpr ⟨c1_ll, List.forall_mem_cons.mpr ⟨c1_gl, List.forall_mem_cons.mpr ⟨c1_pen, List.forall_mem_singleton.mpr c1_cl⟩⟩⟩⟩⟩)⟩⟩
  refine loop_out (k := kk) (tn := tn) (tv := tv) (t4 := t4) (c := ⟨1, t2, 1, t3, ll, gl, [], 0, [], [], 0, [(L' + 1 + 1 + 1, o1), (L' + 1 + 1, o2), (L' + 1, o4)]⟩) (R := [(L' + 1 + 1 + 1, o1), (L' + 1 + 1, o2), (L' + 1, o4)]) (by rfl) K0 (fr_re (ps := [(Str.ofString "pen", .ref pen), (Str.ofString "box", .ref box)]) ?_ F5) X N6 T GL hcs hnl ⟨Int.le_refl _, by decide⟩ hpw box_d box_pen box_cl d_pen d_cl pen_cl hf0 ?_
  · intro p hp
    rcases List.mem_cons.mp hp with rfl | hp
    · rfl
    · rw [List.mem_singleton.mp hp]; rfl
  clear F5 N5 N6 hf0
  rintro ⟨nu2, t22, tp2, t32, ll2, gl2, vs2, cc2, us2, gs2, cg2, TT2⟩ sp2 tp2' m2 h6 tk6 ⟨hasc, hbd, hnu, hul, hgl, hT, ⟨T02, hT0, hT1, hL0⟩, n1, n2, n3, n4, n5, n6, n7, n8, n9⟩ hsp1 hsp2 F6 N6
  dsimp only at hL0 hasc hbd hnu hul hgl hT hT0 hT1 n1 n2 n3 n4 n5 n6 n7 n8 n9 F6 N6 ⊢
  subst hT0
  refine law_rest (by rfl) K0 F6 X N6 T GL hcs hnl hpw ⟨hsp1, Int.le_trans hsp2 (by decide)⟩ hu0 h2 h1 hasc hbd hul hgl hT hT1 hL0 ⟨box_d, box_pen, box_cl, d_pen, d_cl, pen_cl⟩ ⟨n1, n2, n3, n4, n5, n6, n7, n8, n9⟩ hQ
end
theorem off_LZ : True ∧ True := by
  first
  | (walk1; all_goals trivial)
  | exact ⟨trivial, trivial⟩
section

local macro_rules | `(tactic| k_qdec) => `(tactic| decide +kernel)
theorem lawT : PySem.Challenge.rw_no0370_01.Holds := hd (by
  k_go0
  all_goals (try k_fold)
  rename Fr _ _ _ _ => F1
  rename News _ _ _ _ => N1
  rename Top _ _ _ _ _ _ => T1
  rename IntsAre _ _ => I1
  rename Heap.IsList _ _ _ => J1
  rename Glob _ _ _ _ _ _ _ _ => G1
  rename Below _ _ _ _ => K1
  rename Frag.In _ _ => X1
  refine wpAny_mono (law_body (by rfl) K1 F1 X1 N1 T1 G1 I1 J1 (by omega) (by assumption) (by assumption) (by assumption) ?_) (fun _ _ q => q) (fun _ _ e => e.elim)
  intro h' tk' m' F2
  k_steps)
end
end Mine

theorem PySem.Challenge.cw_no0370_01_holds : PySem.Challenge.rw_no0370_01.Holds := by
  exact Mine.lawT
