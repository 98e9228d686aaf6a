import PyProof.Rows.All
import Wide.All
import OpenK.AllK
import Wide.FinOn
import Lean
import PySem.Challenge.RW_xw0299_01
open PySem PySem.Spec PySem.Calls PySem.W PyProof.Rows
set_option Elab.async false
namespace Mine
set_option maxRecDepth 100000 in
set_option maxHeartbeats 8000000 in
open_top hd for PySem.Challenge.rw_xw0299_01
abbrev Cl (prog : Program) (w : World) (K : Frag) (p : Program) (loose : List Str) (mean : ExcName → Option Value) (mg mb : Str → Option Value) (f : Addr) (k : Nat) (news : List (Addr × Obj)) (vs : List Value) (R : Tok → Value) : Prop :=
  ∀ (dp un : Nat) (gd : Option (List Code)) (cn : Str) (cs : Scope) (a : Addr) (ccd : Value) (cl : List (Str × Addr)) (outer : List Env) (A₀ : Around) (base h₀ : Heap) (L : Addr) (m : Str → Option Value) (s : Shared) (Q E : Value → Shared → Prop),
    Below A₀ base outer h₀ → Fr h₀ L s.heap m → K.In h₀ → News h₀ L s.heap news → Top p loose mean mg mb h₀ → cs.kind = .function →
    dp + k < recursionLimit → un + 8 * k < cLine → CbRet h₀ L m news s Q R →
      wpAny (model prog w) (ktrTop dp un gd cn cs L a ccd cl outer) (call (.ref f) vs) Q E s
section
local macro_rules | `(tactic| walk_at "call ref") => `(tactic| (k_here; refine wpAny_call ?_; k_dflt (refine' code_def ?k1 ?k2 ?k3 ?k4 ?k5 ?kA ?kF ?kK ?k6 ?k7 ?k8 ?k9 ?kB ?_ ?c2 ?c3 ?c4 ?c5; (case kA => exact rfl); (case kF => exact rfl); (case kK => first | exact rfl | assumption); (case k1 => k_asm); (case k2 => k_asm); (case k3 => k_asm); (case k4 => k_asm); (case k5 => k_asm); (case k6 => k_is); (case k7 => k_is); (case k8 => ktr_room); (case k9 => exact BindsTo.of_eq rfl); (case c5 => decide); (case kB => exact locs rfl); (case c2 => exact rfl); (case c3 => exact rfl); (case c4 => exact rfl); k_whole; intro g' L' h' FG' F' N' B' X' T'; (try dsimp only); (try k_lift B'); (try k_fold))))
set_option maxRecDepth 100000 in
set_option maxHeartbeats 8000000 in
theorem need_c (w : World) (mean : ExcName → Option Value) (mg mb : Str → Option Value) (news : List (Addr × Obj)) (x : Str) (t : Tok) :
    Cl PySem.Challenge.rw_xw0299_01.row.prog w (hd.heap_39 w.params) hd.view_39 (looseW hd.view_39 [Str.ofString "SnobolError"]) mean mg mb 72 2 news [.str x t] (fun t => .str x t) := by
  k_fill
  dsimp only [Cl, CbRet]
  intros
  rename_i hret
  refine wpAny_call ?_
  k_dflt cell_enter
  k_steps
  all_goals cb_end hret
end
theorem lt_all {d c : Nat} {l : List (Addr × Obj)} (h : ∀ p ∈ l, p.1 < c) (e : c ≤ d) : ∀ p ∈ l, p.1 ≠ d := fun p hp => Nat.ne_of_lt (Nat.lt_of_lt_of_le (h p hp) e)
theorem allLt_out {c : Nat} {l : List (Addr × Obj)} (h : AllLt c l) : ∀ p ∈ l, p.1 < c := by
  induction l with
  | nil => intro p hp; cases hp
  | cons a r ih =>
    intro p hp
    cases hp with
    | head => exact h.1
    | tail _ m => exact ih h.2 p m
theorem allLt_all {d c : Nat} {l : List (Addr × Obj)} (h : AllLt c l) (e : c ≤ d) : ∀ p ∈ l, p.1 ≠ d := lt_all (allLt_out h) e
theorem len_text {prog : Program} {w : World} {A : Around} {E : Value → Shared → Prop} {s : Shared} {t : Tok} {Q : Value → Shared → Prop} {x : PySem.Str}
   (hx : x.length ≤ 1000) (h : Q (.int (x.length : Int) (s.toks + 1)) { s with toks := s.toks + 1 + 1 }) :
    wpAny (model prog w) A (call (.builtin "len") [.str x t]) Q E s :=
  P.len_str (by omega) h
theorem item_text {prog : Program} {w : World} {A : Around} {E : Value → Shared → Prop} {s : Shared} {value slice : PySem.Expr} {x : PySem.Str} {t u : Tok} {i : Int} {Q : Value → Shared → Prop}
    (h0 : 0 ≤ i) (h1 : i < (x.length : Int)) (hn : x.length ≤ 1000) (h : (Txt.item x i).length = 1 → Q (.str (Txt.item x i) s.toks) { s with toks := s.toks + 1 })
    (hs : subscripted slice false (.str x t) (.int i u) = operate [.str x t, .int i u] (getItem (.str x t) (.int i u)) := by with_unfolding_all rfl)
    (ht : ∀ r, letTemporaryGo value (.str x t) r = pure () := by intro _; with_unfolding_all rfl) :
    wpAny (model prog w) A (subscriptTail value slice (.str x t) (.int i u)) Q E s :=
  KXi.item (n := x.length) rfl (by omega) h1 (by omega) h hs ht
theorem add_text {prog : Program} {w : World} {A : Around} {E : Value → Shared → Prop} {s : Shared} {x y : PySem.Str} {t u : Tok} {Q : Value → Shared → Prop}
    (hz : x.length + y.length ≤ 1000) (h : ∀ t' c, Q (.str (x ++ y) t') { s with toks := c }) :
    wpAny (model prog w) A (binaryOp .Add (.str x t) (.str y u)) Q E s :=
  SBL.add (fun t' c _ => h t' c) (by rw [sizeLine_eq]; omega)
def tabD (olds news : Str) : Nat → List (PyData × PyData)
  | 0 => []
  | i + 1 => PyProof.V.putD (.str ((signs olds).getD i Str.empty)) (.str (Txt.item news (i : Int))) (tabD olds news i)
theorem tabD_len (olds news : Str) (i : Nat) : (tabD olds news i).length ≤ i := by
  induction i with
  | zero => exact Nat.le_refl 0
  | succ i ih => exact Nat.le_trans (PyProof.V.putD_length_le _ _ _) (Nat.succ_le_succ ih)
def IsTab (prog : Program) (w : World) (o : Obj) (D : List (PyData × PyData)) : Prop := ∃ kvs, o.IsDictOf (strKind prog w) kvs ∧ PyProof.V.FlatPairs PyData.str kvs D
theorem pair_tab {prog : Program} {w : World} {A : Around} {E : Value → Shared → Prop} {s : Shared} {env : Env} {h₀ : Heap} {m : Str → Option Value} {d c : Addr} {o oc : Obj} {rest : List (Addr × Obj)} {xi xc : Str} {body : List Stmt} {Q : Flow → Shared → Prop} {e : Addr} {x : Str}
    (S : PairSrcL prog w A E h₀ env.locals ItemKind.str (signs x) (.ref e) s m ((d, o) :: (c, oc) :: rest)) (I : Nat → Obj → Prop) (h0 : I 0 o)
    (hcd : c ≠ d) (hrc : ∀ p ∈ rest, p.1 ≠ c) (hrd : ∀ p ∈ rest, p.1 ≠ d)
    (step : ∀ (i : Nat) (ti tc : Tok) (o₁ : Obj) (tl : List (Addr × Obj)) (h : Heap) (tk : Nat), i < x.length → I i o₁ → (∀ p ∈ tl, p.1 ≠ d) → (∀ p ∈ tl, p.1 ≠ c) →
      Fr h₀ env.locals h (bindM (bindM m xi (some (.int i ti))) xc (some (.str ((signs x).getD i Str.empty) tc))) → News h₀ env.locals h ((d, o₁) :: (c, oc) :: tl) →
      wpAny (model prog w) A (execs body env) (fun f s₂ => f = .next ∧ ∃ h' tk' o₂, s₂ = { s with heap := h', toks := tk' } ∧ Fr h₀ env.locals h' (bindM (bindM m xi (some (.int i ti))) xc (some (.str ((signs x).getD i Str.empty) tc))) ∧ News h₀ env.locals h' ((d, o₂) :: (c, oc) :: tl) ∧ I (i + 1) o₂) E { s with heap := h, toks := tk })
    (done : ∀ h' tk vi vc o', Fr h₀ env.locals h' (bindM (bindM m xi vi) xc vc) → News h₀ env.locals h' ((d, o') :: (c, oc) :: rest) → I x.length o' → Q .next { s with heap := h', toks := tk }) :
    wpAny (model prog w) A (pyIter (.ref e)) (fun it s₂ => PairAt3 prog w A h₀ env xi xc body Q E it s₂) E s := by
  refine S.at env rfl xi xc body Q (fun i m₁ n₁ => ∃ vi vc o₁, m₁ = bindM (bindM m xi vi) xc vc ∧ n₁ = (d, o₁) :: (c, oc) :: rest ∧ I i o₁) ⟨m xi, m xc, o, ?_, rfl, h0⟩ (fun i a t v m₁ news₁ s₁ own hs₁ ha hk hJ hm hown F₁ N₁ => ?_) (fun h' tk m' news' F' N' hm hJ => ?_)
  · rw [← bindM_start m xi]; exact bindM_start m xc
  · obtain ⟨vi, vc, o₁, rfl, rfl, hI⟩ := hJ
    obtain ⟨h, tk, rfl⟩ := hs₁
    obtain ⟨tc, rfl⟩ := ItemKind.str_is hk
    have hi : i < (signs x).length := (List.getElem?_eq_some_iff.mp ha).1
    have hg : (signs x).getD i Str.empty = a := by rw [List.getD_eq_getElem?_getD, ha]; rfl
    rw [bind2_find] at F₁
    subst hg
    have hno : ∀ p ∈ own, p.1 ≠ d ∧ p.1 ≠ c := fun p hp => ⟨hown p hp (d, o) (.head _), hown p hp (c, oc) (.tail _ (.head _))⟩
    refine wpAny_mono (step i t tc o₁ (rest ++ own) h tk (by rw [← signs_length x]; exact hi) hI (fun p hp => ?_) (fun p hp => ?_) F₁ (fun p hp => N₁ p ?_)) (fun f s₂ hq => ?_) fun _ _ y => y
    · rcases List.mem_append.mp hp with hp | hp
      · exact hrd p hp
      · exact (hno p hp).1
    · rcases List.mem_append.mp hp with hp | hp
      · exact hrc p hp
      · exact (hno p hp).2
    · simp only [List.mem_append, List.mem_cons] at hp ⊢
      rcases hp with hp | hp | hp | hp
      · exact .inr (.inl hp)
      · exact .inr (.inr (.inl hp))
      · exact .inr (.inr (.inr hp))
      · exact .inl hp
    · obtain ⟨rfl, h', tk', o₂, rfl, F₂, N₂, hI₂⟩ := hq
      refine ⟨rfl, h', tk', _, (d, o₂) :: (c, oc) :: rest, rfl, F₂, fun p hp => N₂ p ?_, rfl, _, _, o₂, rfl, rfl, hI₂⟩
      simp only [List.mem_append, List.mem_cons] at hp ⊢
      rcases hp with hp | hp | hp | hp
      · exact .inr (.inr (.inr hp))
      · exact .inl hp
      · exact .inr (.inl hp)
      · exact .inr (.inr (.inl hp))
  · obtain ⟨vi, vc, o₁, rfl, rfl, hI⟩ := hJ
    exact done h' tk vi vc o₁ F' N' (by rw [← signs_length x]; exact hI)
def TextSrc (prog : Program) (w : World) (A : Around) (h₀ : Heap) (L : Addr) (m : Str → Option Value) (env : Env) (elt : Expr) (x : Str) (scope : Scope) (cl : List (Str × Addr)) (Fin : Shared → List Value → List (Addr × Obj) → Prop) (xv : Value) (s₁ : Shared) : Prop :=
  ∃ y t news, xv = .str y t ∧ A.handled = none ∧ Fr h₀ L s₁.heap m ∧ News h₀ L s₁.heap news ∧ y.cps.size ≤ sizeLine ∧
    ∀ s₂ : Shared, (∃ h, s₂ = { s₁ with heap := h }) → LCg.CompRest prog w A h₀ L m env elt x scope cl s₂ (fun _ => True) (SignAt y) (Fin s₂) y.cps.size 0 [] news
section
variable {prog : Program} {w : World} {A : Around} {E : Value → Shared → Prop} {s : Shared} {h₀ : Heap} {L : Addr} {m : Str → Option Value} {env : Env}
theorem wpAny_pyIter_str2 {x : Str} {t : Tok} {Q : Value → Shared → Prop}
    (hQ : ∀ (o : Obj) (St : Nat → Heap → Prop), (∀ A' : Around, A'.handled = none → Walks prog w A' s.heap.objs.size [s.heap.objs.size] [s.heap.objs.size] x.cps.size (SignAt x) St) → St 0 (s.heap.push o) → (∀ i h, St i h → ∃ o, h.get? s.heap.objs.size = some o) →
      Q (.ref s.heap.objs.size) { s with heap := s.heap.push o }) : wpAny (model prog w) A (pyIter (.str x t)) Q E s := by
  cases ha : x.cps.all (· < 128)
  · exact wpAny_pyIter_wide ha (hQ _ _ (fun A' hA => Walks.strWide hA _ x t) ⟨_, Heap.get?_push_size _ rfl, rfl, rfl⟩ fun i h st => let ⟨o, e, _⟩ := st; ⟨o, e⟩)
  · exact wpAny_pyIter_ascii ha (hQ _ _ (fun A' hA => Walks.strAscii hA _ x t) ⟨_, Heap.get?_push_size _ rfl, rfl, rfl⟩ fun i h st => let ⟨o, e, _⟩ := st; ⟨o, e⟩)
theorem listcomp_text {elt iter : Expr} {x : Str} {px : Pos} {scope : Scope} {cl : List (Str × Addr)} {pos : Pos} {Q : Value → Shared → Prop} (F₀ : Fr h₀ L s.heap m)
    (hclos : closureFor scope env = pure cl) (hcell : ∀ y ∈ scope.names, y.2 ≠ .cell) (hkind : scope.kind = .function)
    (hnames : ∀ y ∈ scope.names, y.2 = .local → scope.names.lookup y.1 = some .local) (hx : scope.names.lookup x = some .local)
    (h : wpAny (model prog w) A (eval iter env) (TextSrc prog w A h₀ L m env elt x scope cl (fun s₂ => LCg.FinE h₀ L m s₂ Q)) E s)
    (hs : ∀ x, foldedSetIterable iter env x = pure x := by intro _; rfl) :
    wpAny (model prog w) A (eval (.ListComp elt [⟨.Name x px, iter, [], 0⟩] scope pos) env) Q E s := by
  rw [eval_ListComp]
  refine wpAny_comprehension_free (use := none) rfl hs hclos hkind hnames (wpAny_mono h (fun xv s₁ h₁ => ?_) fun _ _ e => e)
  obtain ⟨y, t, news, rfl, hh, F, N, hsz, R⟩ := h₁
  refine wpAny_pyIter_str2 fun o St W hst hIo => ?_
  refine LCg.block_U (fp := [s₁.heap.objs.size]) (W A hh) hsz hIo (fun i h h' ob nw st e e' _ _ _ => (W A hh).frame i h h' st fun b hb ob' eb => ?_) hcell hkind hx hst (fun b hb => ?_)
    (F.keeps fun _ _ e => Heap.get?_push_of_some _ e) (N.grown fun _ _ e => Heap.get?_push_of_some _ e) (Nat.ne_of_lt F.ns.lt) (next_is_new F) (fun p hp => Nat.ne_of_lt (Heap.lt_size (N p hp).1)) trivial (R _ ⟨_, rfl⟩) ?_
  · rw [List.mem_singleton.mp hb] at eb ⊢
    rw [e] at eb; cases eb; exact e'
  · rw [List.mem_singleton.mp hb]
    show s₁.heap.objs.size < (s₁.heap.push _).objs.size
    rw [Heap.size_push]; exact Nat.lt_succ_self _
  · intro D C h tk m' ys news' F' N' o1 hn hC₀ hD₀ hCL hDL hCD offC fin
    refine ⟨m', hn, fun h'' hs'' => fin D h'' tk (F'.change hs'' hCL hC₀) (fun p hp => ?_) o1⟩
    refine ⟨hs''.extBut _ _ ?_ (N' p hp).1, (N' p hp).2⟩
    rcases List.mem_cons.mp hp with rfl | hp
    · exact Ne.symm hCD
    · exact offC p hp
end

section
variable {prog : Program} {w : World} {A : Around} {h₀ : Heap} {L : Addr} {m : Str → Option Value} {env : Env} {elt : Expr} {x : Str} {scope : Scope} {cl : List (Str × Addr)} {s₁ : Shared} {Fin : Shared → List Value → List (Addr × Obj) → Prop} {news : List (Addr × Obj)}
theorem textSrc_of {y : Str} {t : Tok} (g : Str → Str) (hh : A.handled = none) (F : Fr h₀ L s₁.heap m) (N : News h₀ L s₁.heap news) (hsz : y.cps.size ≤ sizeLine)
    (turn : ∀ a t I oI C oC D m₂ ys h tk (E' : Value → Shared → Prop), a ∈ signs y → LCg.NsObj oC m₂ → m₂ x = some (.str a t) → Fr h₀ L h m → News h₀ L h ((I, oI) :: (C, oC) :: (D, LCg.lst ys) :: news) → LCg.Off3 I C D news → ((@Ne Nat I C) ∧ (@Ne Nat I D) ∧ (@Ne Nat C D)) →
      wpAny (model prog w) A (eval elt (compEnvC scope cl C env)) (LCg.CompEnd h₀ L m { s₁ with heap := h, toks := tk } I oI C oC D (LCg.lst ys) (fun _ => True) (fun y news' => KCtEl news (g a) y news')) E' { s₁ with heap := h, toks := tk })
    (fin : ∀ ys h, CarriedAll ys ((signs y).map fun k => PyData.str (g k)) → Fin { s₁ with heap := h } ys news) : TextSrc prog w A h₀ L m env elt x scope cl Fin (.str y t) s₁ := by
  refine ⟨y, t, news, rfl, hh, F, N, hsz, fun s₂ hs₂ => ?_⟩
  obtain ⟨h₂, rfl⟩ := hs₂
  have hn : (signs y).length = y.cps.size := signs_length y
  have key : ∀ (j i : Nat) (ys : List Value), i + j = y.cps.size → StrsAre ys (((signs y).take i).map g) → LCg.CompRest prog w A h₀ L m env elt x scope cl { s₁ with heap := h₂ } (fun _ => True) (SignAt y) (Fin { s₁ with heap := h₂ }) j i ys news := by
    intro j
    induction j with
    | zero =>
      intro i ys hi hy
      have e : i = (signs y).length := by omega
      subst e
      rw [List.take_length] at hy
      have hc := hy.carried
      rw [List.map_map] at hc
      exact LCg.CompRest.zero (fin ys h₂ hc)
    | succ j ih =>
      intro i ys hi hy
      refine LCg.CompRest.succ ?_
      intro v I oI C oC D m₂ h tk E' hv hC hx F N off ne
      obtain ⟨c, u, hc, rfl⟩ := hv
      have hk : (signs y)[i]? = some ⟨#[c]⟩ := signs_get hc
      refine wpAny_mono (turn _ u I oI C oC D m₂ ys h tk E' (List.mem_of_getElem? hk) hC hx F N off ne) (fun z s₂ hq => ?_) fun _ _ e => e
      obtain ⟨h', tk', nw, e, F', N', off', hS, hn', t', hy'⟩ := hq
      rw [hn'] at N' off'
      refine ⟨h', tk', news, e, F', N', off', trivial, ?_⟩
      rw [hy']
      refine ih (i + 1) _ (by omega) ?_
      rw [List.take_add_one, hk]
      simpa using kct_snoc hy
  exact key y.cps.size 0 [] (by omega) (by simp only [List.take_zero, List.map_nil]; exact .nil)
end
def gS (olds news a : Str) : Str := match (PySem.Spec.lookup (.str a) (tabD olds news olds.length)).getD (.str a) with
  | .str r => r
  | _ => a
theorem lookup_put (k dv : PyData) (d : PyData) : ∀ D : List (PyData × PyData), (∀ p ∈ D, ∃ r : Str, p.2 = .str r ∧ r.length = 1) → (∃ r : Str, dv = .str r ∧ r.length = 1) → ∀ p ∈ PyProof.V.putD k dv D, ∃ r : Str, p.2 = .str r ∧ r.length = 1 := by
  intro D hD hv p hp
  unfold PyProof.V.putD at hp
  split at hp
  · obtain ⟨q, hq, e⟩ := List.mem_map.mp hp
    by_cases hs : PySem.Spec.same q.1 k = true
    · rw [if_pos hs] at e; rw [← e]; exact hv
    · rw [if_neg hs] at e; rw [← e]; exact hD q hq
  · rcases List.mem_append.mp hp with h | h
    · exact hD p h
    · rw [List.mem_singleton.mp h]; exact hv
theorem item_one (x : Str) (i : Nat) (h : i < x.length) : (Txt.item x (i : Int)).length = 1 := rfl
theorem tabD_strs (olds news : Str) (n : Nat) (hn : n ≤ news.length) : ∀ p ∈ tabD olds news n, ∃ r : Str, p.2 = .str r ∧ r.length = 1 := by
  induction n with
  | zero => intro p hp; cases hp
  | succ i ih => exact lookup_put _ _ (.none) _ (ih (by omega)) ⟨_, rfl, item_one news i (by omega)⟩
theorem lookup_mem (k : PyData) : ∀ (D : List (PyData × PyData)) (d : PyData), PySem.Spec.lookup k D = some d → ∃ p ∈ D, p.2 = d := by
  intro D
  induction D with
  | nil => intro d h; cases h
  | cons p r ih =>
    intro d h
    obtain ⟨a, b⟩ := p
    have h' : (if PySem.Spec.same a k then some b else PySem.Spec.lookup k r) = some d := h
    by_cases q : PySem.Spec.same a k = true
    · rw [if_pos q] at h'
      exact ⟨(a, b), .head _, Option.some.inj h'⟩
    · rw [if_neg q] at h'
      obtain ⟨p, hp, e⟩ := ih d h'
      exact ⟨p, .tail _ hp, e⟩
theorem gS_is (olds news a : Str) (hn : olds.length ≤ news.length) (ha : a.length = 1) : (PySem.Spec.lookup (.str a) (tabD olds news olds.length)).getD (.str a) = .str (gS olds news a) ∧ (gS olds news a).length = 1 := by
  unfold gS
  cases h : PySem.Spec.lookup (.str a) (tabD olds news olds.length) with
  | none => exact ⟨rfl, ha⟩
  | some d =>
    obtain ⟨p, hp, e⟩ := lookup_mem _ _ _ h
    obtain ⟨r, er, hr⟩ := tabD_strs olds news olds.length hn p hp
    rw [er] at e
    subst e
    exact ⟨rfl, hr⟩
def repS (x y z : Str) : Str := Txt.join (Str.ofString "") ((signs x).map (gS y z))
theorem sign_one {x a : Str} (h : a ∈ signs x) : a.length = 1 := by
  obtain ⟨n, _, rfl⟩ := List.mem_map.mp h
  rfl
theorem repS_len (x y z : Str) (h : y.length ≤ z.length) : (repS x y z).length = x.length := by
  unfold repS
  rw [KT.join_ones _ (fun a ha => ?_), List.length_map, signs_length]
  obtain ⟨b, hb, rfl⟩ := List.mem_map.mp ha
  exact (gS_is y z b h (sign_one hb)).2
theorem flat_gS {x y z a : Str} {v : Value} (hf : PyProof.V.Flat v ((PySem.Spec.lookup (.str a) (tabD y z y.length)).getD (.str a))) (hn : y.length ≤ z.length) (ha : a ∈ signs x) : ∃ t, v = .str (gS y z a) t := by
  rw [(gS_is y z a hn (sign_one ha)).1] at hf
  exact hf.str_inv
section
local macro_rules | `(tactic| k_room) => `(tactic| ktr_room)
local macro_rules | `(tactic| k_all) => `(tactic| first | assumption | (refine lt_all (by assumption) ?_; (try dsimp only); omega) | (refine allLt_all (And.right (by assumption)) ?_; (try dsimp only); omega))
local macro_rules | `(tactic| walk_at "call builtin:len") => `(tactic| (k_here; (with_reducible show wpAny _ _ (call (Value.builtin "len") [Value.str _ _]) _ _ _); (refine len_text (by first | omega | (simp; omega)) ?_)))
local macro_rules | `(tactic| walk_at "subscriptTail") => `(tactic| (k_here; (with_reducible show wpAny _ _ (subscriptTail _ _ (Value.str _ _) (Value.int _ _)) _ _ _); (refine item_text (by omega) (by omega) (by omega) ?_); intro kxiE))
local macro_rules | `(tactic| walk_at "binaryOp Add str str") => `(tactic| (k_here; (with_reducible show wpAny _ _ (binaryOp Operator.Add (Value.str _ _) (Value.str _ _)) _ _ _); (refine add_text (by omega) ?_; intro _ _)))
local macro_rules | `(tactic| cell_enter) => `(tactic| (refine' code_defC ?k1 ?k2 ?k3 ?k4 ?k5 ?kA ?kF ?kK ?k6 ?k7 ?k8 ?k9 ?kB ?kD ?_ ?c2 ?c3 ?c4; (case kA => exact rfl); (case kF => exact rfl); (case kK => first | exact rfl | assumption); (case k1 => k_asm); (case k2 => k_asm); (case k3 => k_asm); (case k4 => k_asm); (case k5 => k_asm); (case k6 => k_is); (case k7 => k_is); (case k8 => k_room); (case k9 => first | exact BindsTo.of_eq rfl | exact binds_K (by k_in) rfl (by k_is) rfl rfl rfl | fail "k_enter: no rule for these arguments"); (case kB => exact rfl); (case kD => decide +kernel); (case c2 => exact rfl); (case c3 => exact rfl); (case c4 => exact rfl); k_whole; intro g' L' h' tk' cells' FG' F' N' Y' B' X' T' l1; (try k_lt l1); k_cells Y'; (try simp only [List.cons_append, List.nil_append] at N'); (try dsimp only); (try k_lift B'); (try k_fold)))
local macro_rules | `(tactic| walk_at "setItem ref str") => `(tactic| (k_here; k_dflt (refine' setItem_K PyProof.V.same_str (strKind_is _ _ _ _) ?v ?F ?N ?U ?d ?f ?_ ?z; (case F => k_asm); (case N => k_asm); (case U => k_updF); (case d => k_asm); (case f => k_asm); (case z => rw [PySem.sizeLine_eq]; omega); (case v => k_flat)); intro h' o' F' N' hd' hf'; (try dsimp only at N'); (try k_sweep)))
local macro_rules | `(tactic| walk_at "eval ListComp") => `(tactic| (k_here; k_dflt (refine listcomp_text (F₀ := by k_asm) (by rfl) (by decide) (by rfl) (by decide) (by rfl) ?_)))
local macro_rules | `(tactic| walk_at "call builtin:str.join") => `(tactic| (k_here; (try dsimp only [List.cons_append, List.nil_append, List.append_nil]); (with_reducible show wpAny _ _ (call (Value.builtin "str.join") [Value.str _ _, Value.ref _]) _ _ _); (refine KT.join_1 (by first | is_list | exact News.isList (by k_asm) (by k_mem)) (by assumption) (by intro b hb; exact (gS_is _ _ _ (by omega) (sign_one hb)).2) (by rw [signs_length]; omega) ?_); intro _ _ _))
set_option maxRecDepth 100000 in
set_option maxHeartbeats 8000000 in
theorem repl_c (w : World) (mean : ExcName → Option Value) (mg mb : Str → Option Value) (news : List (Addr × Obj)) (x y z : Str) (tx ty tz : Tok) (hx : x.length ≤ 100) (hy : y.length ≤ 100) (hyz : y.length = z.length) (hy0 : (y == Str.ofString "") = false) :
    Cl PySem.Challenge.rw_xw0299_01.row.prog w (hd.heap_39 w.params) hd.view_39 (looseW hd.view_39 [Str.ofString "SnobolError"]) mean mg mb 77 2 news [.str x tx, .str y ty, .str z tz] (fun t => .str (repS x y z) t) := by
  k_fill
  dsimp only [Cl, CbRet]
  intros
  rename_i hret
  have hyz' : (y.length : Int) = (z.length : Int) := by omega
  refine wpAny_call ?_
  k_dflt cell_enter
  k_steps
  all_goals try (exfalso; omega)
  · refine pair_tab (by assumption) (fun i o' => IsTab PySem.Challenge.rw_xw0299_01.row.prog w o' (tabD y z i)) ⟨_, by assumption, by assumption⟩ (by k_ne) (by k_all) (by k_all) ?_ ?_
    · intro i ti tc o₁ tl h tk hi hI hd1 hc1 F1 N1
      obtain ⟨kvs1, hdk1, hfp1⟩ := hI
      have hl1 := tabD_len y z i
      k_steps
      · k_asm
      · k_asm
      · exact ⟨_, by assumption, by assumption⟩
    · intro h1 tk1 vi vc o1 F1 N1 hI
      obtain ⟨kvs1, hdk1, hfp1⟩ := hI
      have hl1 := tabD_len y z y.length
      dsimp only [envOfC] at F1 N1
      k_steps
      refine textSrc_of (gS y z) (by rfl) (by k_asm) (by k_asm) (by rw [PySem.sizeLine_eq]; show x.length ≤ _; omega) ?_ ?_
      · intro a t I oI C oC D m₂ ys h tk E' ha hC hx F N off ne
        k_steps
        exact ⟨_, _, _, rfl, by k_asm, by k_asm, by k_asm, trivial, rfl, flat_gS (by assumption) (by omega) ha⟩
      · intro ys h hc
        k_steps
        all_goals cb_end hret
end
theorem cl_use {prog : Program} {w : World} {K : Frag} {p : Program} {loose : List Str} {mean : ExcName → Option Value} {mg mb : Str → Option Value} {f : Addr} {k : Nat} {news : List (Addr × Obj)} {vs : List Value} {R : Tok → Value}
    {dp un : Nat} {gd : Option (List Code)} {cn : Str} {cs : Scope} {a : Addr} {ccd : Value} {cl : List (Str × Addr)} {outer : List Env} {A₀ : Around} {base h₀ : Heap} {L : Addr} {m : Str → Option Value} {s : Shared} {Q E : Value → Shared → Prop}
    (C : Cl prog w K p loose mean mg mb f k news vs R) (B : Below A₀ base outer h₀) (F : Fr h₀ L s.heap m) (X : K.In h₀) (N : News h₀ L s.heap news) (T : Top p loose mean mg mb h₀) (hk : cs.kind = .function)
    (hd : dp + k < recursionLimit) (hu : un + 8 * k < cLine) (ret : CbRet h₀ L m news s Q R) :
    wpAny (model prog w) (ktrTop dp un gd cn cs L a ccd cl outer) (call (.ref f) vs) Q E s := C _ _ _ _ _ _ _ _ _ _ _ _ _ _ _ _ _ B F X N T hk hd hu ret
def plc (x : Str) : Str := Txt.slice (Str.ofString "0123456789") none (some (x.length : Int))
def twoS (x : Str) (i : Nat) : Str := Txt.item (plc x) (i : Int) ++ Txt.item (plc x) ((x.length : Int).fdiv 2 + (i : Int))
def laidS (x : Str) (b : Bool) : Nat → Str
  | 0 => Str.ofString ""
  | i + 1 => laidS x b i ++ (if b then Txt.sliceBy (twoS x i) none none (-1, 0) else twoS x i)
def shufS (x : Str) (b : Bool) : Str := repS (laidS x b (x.length / 2)) (plc x) x
theorem rev_two (c d : Nat) (u : Tok) : Txt.sliceBy ((⟨#[c]⟩ : Str) ++ ⟨#[d]⟩) none none (-1, u) = ⟨#[d, c]⟩ := by with_unfolding_all rfl
theorem rev_len (p : Str) (i j : Int) (u : Tok) : (Txt.sliceBy (Txt.item p i ++ Txt.item p j) none none (-1, u)).length = 2 := by
  unfold Txt.item
  rw [rev_two]
  rfl
theorem rev_tok (p : Str) (i j : Int) (u v : Tok) : Txt.sliceBy (Txt.item p i ++ Txt.item p j) none none (-1, u) = Txt.sliceBy (Txt.item p i ++ Txt.item p j) none none (-1, v) := by
  unfold Txt.item
  rw [rev_two, rev_two]
theorem two_len (p : Str) (i j : Int) : (Txt.item p i ++ Txt.item p j).length = 2 := by
  rw [Str.length_append]; rfl
theorem state0 (x : Str) (b : Bool) : Str.ofString "" = laidS x b ([] : List Int).length ∧ (Str.ofString "").length = 2 * ([] : List Int).length := ⟨rfl, by decide⟩
theorem stateT {x laid : Str} {b : Bool} {pre : List Int} {k : Int} {u : Tok} (e : laid = laidS x b pre.length) (hl : laid.length = 2 * pre.length) (hk : k = 0 + (pre.length : Int)) (hb : b = true) :
    laid ++ Txt.sliceBy (Txt.item (Txt.slice (Str.ofString "0123456789") none (some (x.length : Int))) k ++ Txt.item (Txt.slice (Str.ofString "0123456789") none (some (x.length : Int))) ((x.length : Int).fdiv 2 + k)) none none (-1, u) = laidS x b (pre ++ [k]).length ∧
    (laid ++ Txt.sliceBy (Txt.item (Txt.slice (Str.ofString "0123456789") none (some (x.length : Int))) k ++ Txt.item (Txt.slice (Str.ofString "0123456789") none (some (x.length : Int))) ((x.length : Int).fdiv 2 + k)) none none (-1, u)).length = 2 * (pre ++ [k]).length := by
  subst hb
  rw [Int.zero_add] at hk
  subst hk
  constructor
  · rw [List.length_append, List.length_singleton, e]
    show _ = laidS x true pre.length ++ _
    rw [if_pos rfl, rev_tok _ _ _ u 0]
    rfl
  · rw [Str.length_append, rev_len, hl, List.length_append, List.length_singleton]; omega
theorem stateF {x laid : Str} {b : Bool} {pre : List Int} {k : Int} (e : laid = laidS x b pre.length) (hl : laid.length = 2 * pre.length) (hk : k = 0 + (pre.length : Int)) (hb : b = false) :
    laid ++ (Txt.item (Txt.slice (Str.ofString "0123456789") none (some (x.length : Int))) k ++ Txt.item (Txt.slice (Str.ofString "0123456789") none (some (x.length : Int))) ((x.length : Int).fdiv 2 + k)) = laidS x b (pre ++ [k]).length ∧
    (laid ++ (Txt.item (Txt.slice (Str.ofString "0123456789") none (some (x.length : Int))) k ++ Txt.item (Txt.slice (Str.ofString "0123456789") none (some (x.length : Int))) ((x.length : Int).fdiv 2 + k))).length = 2 * (pre ++ [k]).length := by
  subst hb
  rw [Int.zero_add] at hk
  subst hk
  constructor
  · rw [List.length_append, List.length_singleton, e]
    rfl
  · rw [Str.length_append, two_len, hl, List.length_append, List.length_singleton]; omega
theorem shuf_end {x laid : Str} {b : Bool} {n : Nat} (e : laid = laidS x b n) (hn : n = x.length / 2) : repS laid (Txt.slice (Str.ofString "0123456789") none (some (x.length : Int))) x = shufS x b := by
  rw [e, hn]; rfl
theorem fdiv_two (n : Nat) : (n : Int).fdiv 2 = ((n / 2 : Nat) : Int) := by
  rw [Int.fdiv_eq_ediv_of_nonneg _ (by omega)]; omega
theorem range_len (x : Str) : (rangeKs 0 ((x.length : Int).fdiv 2 - 0).toNat).length = x.length / 2 := by
  rw [rangeKs_length, fdiv_two]; omega
theorem plc_len : ∀ n : Fin 11, (Txt.slice (Str.ofString "0123456789") none (some ((n.val : Nat) : Int))).length = n.val := by decide +kernel
theorem plc_ne : ∀ n : Fin 11, n.val ≠ 0 → (Txt.slice (Str.ofString "0123456789") none (some ((n.val : Nat) : Int)) == Str.ofString "") = false := by decide +kernel
section
local macro_rules | `(tactic| k_room) => `(tactic| ktr_room)
local macro_rules | `(tactic| k_all) => `(tactic| first | assumption | (refine lt_all (by assumption) ?_; (try dsimp only); omega) | (refine allLt_all (And.right (by assumption)) ?_; (try dsimp only); omega))
local macro_rules | `(tactic| walk_at "call builtin:len") => `(tactic| (k_here; (with_reducible show wpAny _ _ (call (Value.builtin "len") [Value.str _ _]) _ _ _); (refine len_text (by first | omega | (simp; omega)) ?_)))
local macro_rules | `(tactic| walk_at "subscriptTail") => `(tactic| (k_here; (with_reducible show wpAny _ _ (subscriptTail _ _ (Value.str _ _) (Value.int _ _)) _ _ _); (refine item_text (by omega) (by omega) (by omega) ?_); intro kxiE))
local macro_rules | `(tactic| walk_at "binaryOp Add str str") => `(tactic| (k_here; (with_reducible show wpAny _ _ (binaryOp Operator.Add (Value.str _ _) (Value.str _ _)) _ _ _); (refine add_text (by omega) ?_; intro _ _)))
local macro_rules | `(tactic| cell_enter) => `(tactic| (refine' code_defC ?k1 ?k2 ?k3 ?k4 ?k5 ?kA ?kF ?kK ?k6 ?k7 ?k8 ?k9 ?kB ?kD ?_ ?c2 ?c3 ?c4; (case kA => exact rfl); (case kF => exact rfl); (case kK => first | exact rfl | assumption); (case k1 => k_asm); (case k2 => k_asm); (case k3 => k_asm); (case k4 => k_asm); (case k5 => k_asm); (case k6 => k_is); (case k7 => k_is); (case k8 => k_room); (case k9 => first | exact BindsTo.of_eq rfl | exact binds_K (by k_in) rfl (by k_is) rfl rfl rfl | fail "k_enter: no rule for these arguments"); (case kB => exact rfl); (case kD => decide +kernel); (case c2 => exact rfl); (case c3 => exact rfl); (case c4 => exact rfl); k_whole; intro g' L' h' tk' cells' FG' F' N' Y' B' X' T' l1; (try k_lt l1); k_cells Y'; (try simp only [List.cons_append, List.nil_append] at N'); (try dsimp only); (try k_lift B'); (try k_fold)))
local macro_rules | `(tactic| walk_at "setItem ref str") => `(tactic| (k_here; k_dflt (refine' setItem_K PyProof.V.same_str (strKind_is _ _ _ _) ?v ?F ?N ?U ?d ?f ?_ ?z; (case F => k_asm); (case N => k_asm); (case U => k_updF); (case d => k_asm); (case f => k_asm); (case z => rw [PySem.sizeLine_eq]; omega); (case v => k_flat)); intro h' o' F' N' hd' hf'; (try dsimp only at N'); (try k_sweep)))
local macro_rules | `(tactic| walk_at "eval ListComp") => `(tactic| (k_here; k_dflt (refine listcomp_text (F₀ := by k_asm) (by rfl) (by decide) (by rfl) (by decide) (by rfl) ?_)))
local macro_rules | `(tactic| walk_at "call builtin:str.join") => `(tactic| (k_here; (try dsimp only [List.cons_append, List.nil_append, List.append_nil]); (with_reducible show wpAny _ _ (call (Value.builtin "str.join") [Value.str _ _, Value.ref _]) _ _ _); (refine KT.join_1 (by first | is_list | exact News.isList (by k_asm) (by k_mem)) (by assumption) (by intro b hb; exact (gS_is _ _ _ (by omega) (sign_one hb)).2) (by rw [signs_length]; omega) ?_); intro _ _ _))
local macro_rules | `(tactic| walk_at "call ref") => `(tactic| (k_here; (with_reducible show wpAny _ _ (call (Value.ref 72) [Value.str _ _]) _ _ _); k_dflt (refine' cl_use (need_c _ _ _ _ _ _ _) ?k1 ?k2 ?kX ?k4 ?k5 ?kC ?kd ?ku ?_; (case k1 => k_asm); (case k2 => k_asm); (case kX => k_asm); (case k4 => k_asm); (case k5 => k_asm); (case kC => first | exact rfl | assumption); (case kd => ktr_room); (case ku => ktr_units); intro t9 h9 tk9 F9 N9; (try dsimp only); (try k_fold); (try k_sweep))))
local macro_rules | `(tactic| walk_at "call ref") => `(tactic| (k_here; (with_reducible show wpAny _ _ (call (Value.ref 77) [Value.str _ _, Value.str _ _, Value.str _ _]) _ _ _); k_dflt (refine' cl_use (repl_c _ _ _ _ _ _ _ _ _ _ _ ?q1 ?q2 ?q3 ?q4) ?k1 ?k2 ?kX ?k4 ?k5 ?kC ?kd ?ku ?_; (case k1 => k_asm); (case k2 => k_asm); (case kX => k_asm); (case k4 => k_asm); (case k5 => k_asm); (case kC => first | exact rfl | assumption); (case kd => ktr_room); (case ku => ktr_units); (case q1 => omega); (case q2 => omega); (case q3 => omega); (case q4 => assumption); intro t9 h9 tk9 F9 N9; (try dsimp only); (try k_fold); (try k_sweep))))
local macro_rules | `(tactic| walk_at "binaryOp Add str str") => `(tactic| (k_here; (with_reducible show wpAny _ _ (binaryOp Operator.Add (Value.str _ _) (Value.str _ _)) _ _ _); (refine add_text (by first | omega | (rw [rev_len]; omega) | (rw [two_len]; omega)) ?_; intro _ _)))
local macro_rules | `(tactic| walk_at "InvEndN") => `(tactic| kst_close)
set_option maxRecDepth 100000 in
set_option maxHeartbeats 8000000 in
theorem shuf_c (w : World) (mean : ExcName → Option Value) (mg mb : Str → Option Value) (news : List (Addr × Obj)) (x : Str) (t : Tok) (b : Bool) (W : Addr) (hx0 : 0 < x.length) (hx : x.length ≤ 10) :
    Cl PySem.Challenge.rw_xw0299_01.row.prog w (hd.heap_39 w.params) hd.view_39 (looseW hd.view_39 [Str.ofString "SnobolError"]) mean mg mb 120 5 news [.ref W, .str x t, .bool b] (fun t => .str (shufS x b) t) := by
  k_fill
  dsimp only [Cl, CbRet]
  intros
  rename_i hret
  have hpl : (Txt.slice (Str.ofString "0123456789") none (some (x.length : Int))).length = x.length := plc_len ⟨x.length, by omega⟩
  have hp0 : (Txt.slice (Str.ofString "0123456789") none (some (x.length : Int)) == Str.ofString "") = false := plc_ne ⟨x.length, by omega⟩ (by show x.length ≠ 0; omega)
  have hfd : (x.length : Int).fdiv 2 = ((x.length / 2 : Nat) : Int) := fdiv_two _
  have hrk : (rangeKs 0 ((x.length : Int).fdiv 2 - 0).toNat).length = x.length / 2 := range_len x
  refine wpAny_call ?_
  k_dflt cell_enter
  k_with "pyIter ref" => k_state (fun pre laid => laid = laidS x b pre.length ∧ laid.length = 2 * pre.length) "laid"
  k_with "state" => first | (with_reducible exact stateT (by assumption) (by assumption) (by assumption) (by assumption)) | (with_reducible exact stateF (by assumption) (by assumption) (by assumption) (by assumption)) | exact state0 x b
  k_steps
  all_goals (refine' cb_retS hret (shuf_end (by assumption) hrk) ?e2 ?e3; (case e2 => k_asm); (case e3 => first | k_asm | (refine' cb_drop ?cbN ?cbS; (case cbN => assumption); (case cbS => kcj_all))))
end
section
local macro_rules | `(tactic| k_room) => `(tactic| ktr_room)
local macro_rules | `(tactic| k_all) => `(tactic| first | assumption | (refine lt_all (by assumption) ?_; (try dsimp only); omega) | (refine allLt_all (And.right (by assumption)) ?_; (try dsimp only); omega))
local macro_rules | `(tactic| walk_at "call builtin:len") => `(tactic| (k_here; (with_reducible show wpAny _ _ (call (Value.builtin "len") [Value.str _ _]) _ _ _); (refine len_text (by first | omega | (simp; omega)) ?_)))
local macro_rules | `(tactic| walk_at "subscriptTail") => `(tactic| (k_here; (with_reducible show wpAny _ _ (subscriptTail _ _ (Value.str _ _) (Value.int _ _)) _ _ _); (refine item_text (by omega) (by omega) (by omega) ?_); intro kxiE))
local macro_rules | `(tactic| walk_at "binaryOp Add str str") => `(tactic| (k_here; (with_reducible show wpAny _ _ (binaryOp Operator.Add (Value.str _ _) (Value.str _ _)) _ _ _); (refine add_text (by omega) ?_; intro _ _)))
local macro_rules | `(tactic| cell_enter) => `(tactic| (refine' code_defC ?k1 ?k2 ?k3 ?k4 ?k5 ?kA ?kF ?kK ?k6 ?k7 ?k8 ?k9 ?kB ?kD ?_ ?c2 ?c3 ?c4; (case kA => exact rfl); (case kF => exact rfl); (case kK => first | exact rfl | assumption); (case k1 => k_asm); (case k2 => k_asm); (case k3 => k_asm); (case k4 => k_asm); (case k5 => k_asm); (case k6 => k_is); (case k7 => k_is); (case k8 => k_room); (case k9 => first | exact BindsTo.of_eq rfl | exact binds_K (by k_in) rfl (by k_is) rfl rfl rfl | fail "k_enter: no rule for these arguments"); (case kB => exact rfl); (case kD => decide +kernel); (case c2 => exact rfl); (case c3 => exact rfl); (case c4 => exact rfl); k_whole; intro g' L' h' tk' cells' FG' F' N' Y' B' X' T' l1; (try k_lt l1); k_cells Y'; (try simp only [List.cons_append, List.nil_append] at N'); (try dsimp only); (try k_lift B'); (try k_fold)))
local macro_rules | `(tactic| walk_at "setItem ref str") => `(tactic| (k_here; k_dflt (refine' setItem_K PyProof.V.same_str (strKind_is _ _ _ _) ?v ?F ?N ?U ?d ?f ?_ ?z; (case F => k_asm); (case N => k_asm); (case U => k_updF); (case d => k_asm); (case f => k_asm); (case z => rw [PySem.sizeLine_eq]; omega); (case v => k_flat)); intro h' o' F' N' hd' hf'; (try dsimp only at N'); (try k_sweep)))
local macro_rules | `(tactic| walk_at "eval ListComp") => `(tactic| (k_here; k_dflt (refine listcomp_text (F₀ := by k_asm) (by rfl) (by decide) (by rfl) (by decide) (by rfl) ?_)))
local macro_rules | `(tactic| walk_at "call builtin:str.join") => `(tactic| (k_here; (try dsimp only [List.cons_append, List.nil_append, List.append_nil]); (with_reducible show wpAny _ _ (call (Value.builtin "str.join") [Value.str _ _, Value.ref _]) _ _ _); (refine KT.join_1 (by first | is_list | exact News.isList (by k_asm) (by k_mem)) (by assumption) (by intro b hb; exact (gS_is _ _ _ (by omega) (sign_one hb)).2) (by rw [signs_length]; omega) ?_); intro _ _ _))
def timesF (p : Int) : Int := if p = 1 then 1 else if p = 3 then 2 else if p = 5 then 4 else if p = 7 then 3 else if p = 9 then 6 else 10
def numF (p m : Int) : Int := Int.fmod (2 ^ m.toNat) p
theorem times_fin : ∀ p : Fin 6, ∀ k : Fin 11, 1 ≤ k.val → (k.val : Int) ≤ timesF (2 * p.val + 1) →
    1 ≤ timesF (2 * p.val + 1) ∧ timesF (2 * p.val + 1) ≤ 10 ∧ Int.fmod (numF (2 * p.val + 1) k.val * 2) (2 * p.val + 1) = numF (2 * p.val + 1) (k.val + 1) ∧
    (numF (2 * p.val + 1) k.val = Int.fmod 1 (2 * p.val + 1) ↔ (k.val : Int) = timesF (2 * p.val + 1)) := by decide +kernel
theorem times_six : ∀ p : Fin 6, 1 ≤ timesF (2 * p.val + 1) ∧ timesF (2 * p.val + 1) ≤ 10 := by decide +kernel
theorem times_all {p m : Int} (hp : p = 1 ∨ p = 3 ∨ p = 5 ∨ p = 7 ∨ p = 9 ∨ p = 11) (h1 : 1 ≤ m) (h2 : m ≤ timesF p) :
    Int.fmod (numF p m * 2) p = numF p (m + 1) ∧ (numF p m = Int.fmod 1 p ↔ m = timesF p) := by
  have hq : ∃ q : Fin 6, p = 2 * q.val + 1 := ⟨⟨(p / 2).toNat, by omega⟩, by show p = 2 * (((p / 2).toNat : Nat) : Int) + 1; omega⟩
  obtain ⟨q, rfl⟩ := hq
  have h10 := (times_six q).2
  have hk : ∃ k : Fin 11, m = k.val := ⟨⟨m.toNat, by omega⟩, by show m = ((m.toNat : Nat) : Int); omega⟩
  obtain ⟨k, rfl⟩ := hk
  obtain ⟨_, _, c, d⟩ := times_fin q k (by omega) h2
  exact ⟨c, d⟩
theorem times_top {p : Int} (hp : p = 1 ∨ p = 3 ∨ p = 5 ∨ p = 7 ∨ p = 9 ∨ p = 11) : 1 ≤ timesF p ∧ timesF p ≤ 10 := by
  rcases hp with rfl | rfl | rfl | rfl | rfl | rfl <;> decide
theorem times_zero {p : Int} (hp : p = 1 ∨ p = 3 ∨ p = 5 ∨ p = 7 ∨ p = 9 ∨ p = 11) : (1 : Int) ≤ 1 ∧ 1 ≤ timesF p ∧ Int.fmod 2 p = numF p 1 := ⟨by decide, (times_top hp).1, rfl⟩
theorem times_lt {p m n : Int} (hp : p = 1 ∨ p = 3 ∨ p = 5 ∨ p = 7 ∨ p = 9 ∨ p = 11) (h1 : 1 ≤ m) (h2 : m ≤ timesF p) (h3 : n = numF p m) (hne : n ≠ Int.fmod 1 p) : m < timesF p := by
  subst h3
  have : m ≠ timesF p := fun e => hne ((times_all hp h1 h2).2.mpr e)
  omega
theorem times_turn {p m n : Int} (hp : p = 1 ∨ p = 3 ∨ p = 5 ∨ p = 7 ∨ p = 9 ∨ p = 11) (h1 : 1 ≤ m) (h2 : m ≤ timesF p) (h3 : n = numF p m) (hne : n ≠ Int.fmod 1 p) : (1 : Int) ≤ m + 1 ∧ m + 1 ≤ timesF p ∧ Int.fmod (n * 2) p = numF p (m + 1) := by
  have h4 := times_lt hp h1 h2 h3 hne
  subst h3
  exact ⟨by omega, by omega, (times_all hp h1 h2).1⟩
theorem times_less {p m n : Int} (hp : p = 1 ∨ p = 3 ∨ p = 5 ∨ p = 7 ∨ p = 9 ∨ p = 11) (h1 : 1 ≤ m) (h2 : m ≤ timesF p) (h3 : n = numF p m) (hne : n ≠ Int.fmod 1 p) : (timesF p - (m + 1)).toNat < (timesF p - m).toNat := by
  have h4 := times_lt hp h1 h2 h3 hne
  omega
theorem times_end {p m n : Int} (hp : p = 1 ∨ p = 3 ∨ p = 5 ∨ p = 7 ∨ p = 9 ∨ p = 11) (h1 : 1 ≤ m) (h2 : m ≤ timesF p) (h3 : n = numF p m) (he : n = Int.fmod 1 p) : m = timesF p := by
  subst h3
  exact (times_all hp h1 h2).2.mp he
set_option maxRecDepth 100000 in
set_option maxHeartbeats 8000000 in
theorem times_c (w : World) (mean : ExcName → Option Value) (mg mb : Str → Option Value) (news : List (Addr × Obj)) (p : Int) (t : Tok) (hp : p = 1 ∨ p = 3 ∨ p = 5 ∨ p = 7 ∨ p = 9 ∨ p = 11) :
    Cl PySem.Challenge.rw_xw0299_01.row.prog w (hd.heap_39 w.params) hd.view_39 (looseW hd.view_39 [Str.ofString "SnobolError"]) mean mg mb 127 1 news [.int p t] (fun t => .int (timesF p) t) := by
  k_fill
  dsimp only [Cl, CbRet]
  intros
  rename_i hret
  have hp1 : 0 < p := by omega
  refine wpAny_call ?_
  k_dflt cell_enter
  k_with "exec While Compare cons nil" => k_while_given ["parts"] (fun p _ n m => 1 ≤ m ∧ m ≤ timesF p ∧ n = numF p m) (fun p _ _ m => (timesF p - m).toNat) "number" "many"
  k_with "state" => first | (with_reducible exact times_turn hp (by assumption) (by assumption) (by assumption) (by assumption)) | (with_reducible exact times_zero hp)
  k_with "measure" => (with_reducible exact times_less hp (by assumption) (by assumption) (by assumption) (by assumption))
  k_steps
  all_goals (refine' cb_retI hret (times_end hp ?e4 ?e5 ?e6 ?e7) ?e2 ?e3; (case e4 => with_reducible assumption); (case e5 => with_reducible assumption); (case e6 => with_reducible assumption); (case e7 => with_reducible assumption); (case e2 => k_asm); (case e3 => first | k_asm | (refine' cb_drop ?cbN ?cbS; (case cbN => assumption); (case cbS => kcj_all))))
end
section
local macro_rules | `(tactic| k_room) => `(tactic| ktr_room)
local macro_rules | `(tactic| k_all) => `(tactic| first | assumption | (refine lt_all (by assumption) ?_; (try dsimp only); omega) | (refine allLt_all (And.right (by assumption)) ?_; (try dsimp only); omega))
local macro_rules | `(tactic| walk_at "call builtin:len") => `(tactic| (k_here; (with_reducible show wpAny _ _ (call (Value.builtin "len") [Value.str _ _]) _ _ _); (refine len_text (by first | omega | (simp; omega)) ?_)))
local macro_rules | `(tactic| walk_at "subscriptTail") => `(tactic| (k_here; (with_reducible show wpAny _ _ (subscriptTail _ _ (Value.str _ _) (Value.int _ _)) _ _ _); (refine item_text (by omega) (by omega) (by omega) ?_); intro kxiE))
local macro_rules | `(tactic| walk_at "binaryOp Add str str") => `(tactic| (k_here; (with_reducible show wpAny _ _ (binaryOp Operator.Add (Value.str _ _) (Value.str _ _)) _ _ _); (refine add_text (by omega) ?_; intro _ _)))
local macro_rules | `(tactic| cell_enter) => `(tactic| (refine' code_defC ?k1 ?k2 ?k3 ?k4 ?k5 ?kA ?kF ?kK ?k6 ?k7 ?k8 ?k9 ?kB ?kD ?_ ?c2 ?c3 ?c4; (case kA => exact rfl); (case kF => exact rfl); (case kK => first | exact rfl | assumption); (case k1 => k_asm); (case k2 => k_asm); (case k3 => k_asm); (case k4 => k_asm); (case k5 => k_asm); (case k6 => k_is); (case k7 => k_is); (case k8 => k_room); (case k9 => first | exact BindsTo.of_eq rfl | exact binds_K (by k_in) rfl (by k_is) rfl rfl rfl | fail "k_enter: no rule for these arguments"); (case kB => exact rfl); (case kD => decide +kernel); (case c2 => exact rfl); (case c3 => exact rfl); (case c4 => exact rfl); k_whole; intro g' L' h' tk' cells' FG' F' N' Y' B' X' T' l1; (try k_lt l1); k_cells Y'; (try simp only [List.cons_append, List.nil_append] at N'); (try dsimp only); (try k_lift B'); (try k_fold)))
local macro_rules | `(tactic| walk_at "setItem ref str") => `(tactic| (k_here; k_dflt (refine' setItem_K PyProof.V.same_str (strKind_is _ _ _ _) ?v ?F ?N ?U ?d ?f ?_ ?z; (case F => k_asm); (case N => k_asm); (case U => k_updF); (case d => k_asm); (case f => k_asm); (case z => rw [PySem.sizeLine_eq]; omega); (case v => k_flat)); intro h' o' F' N' hd' hf'; (try dsimp only at N'); (try k_sweep)))
local macro_rules | `(tactic| walk_at "eval ListComp") => `(tactic| (k_here; k_dflt (refine listcomp_text (F₀ := by k_asm) (by rfl) (by decide) (by rfl) (by decide) (by rfl) ?_)))
local macro_rules | `(tactic| walk_at "call builtin:str.join") => `(tactic| (k_here; (try dsimp only [List.cons_append, List.nil_append, List.append_nil]); (with_reducible show wpAny _ _ (call (Value.builtin "str.join") [Value.str _ _, Value.ref _]) _ _ _); (refine KT.join_1 (by first | is_list | exact News.isList (by k_asm) (by k_mem)) (by assumption) (by intro b hb; exact (gS_is _ _ _ (by omega) (sign_one hb)).2) (by rw [signs_length]; omega) ?_); intro _ _ _))
local macro_rules | `(tactic| walk_at "call ref") => `(tactic| (k_here; (with_reducible show wpAny _ _ (call (Value.ref 72) [Value.str _ _]) _ _ _); k_dflt (refine' cl_use (need_c _ _ _ _ _ _ _) ?k1 ?k2 ?kX ?k4 ?k5 ?kC ?kd ?ku ?_; (case k1 => k_asm); (case k2 => k_asm); (case kX => k_asm); (case k4 => k_asm); (case k5 => k_asm); (case kC => first | exact rfl | assumption); (case kd => ktr_room); (case ku => ktr_units); intro t9 h9 tk9 F9 N9; (try dsimp only); (try k_fold); (try k_sweep))))
local macro_rules | `(tactic| walk_at "call ref") => `(tactic| (k_here; (with_reducible show wpAny _ _ (call (Value.ref 77) [Value.str _ _, Value.str _ _, Value.str _ _]) _ _ _); k_dflt (refine' cl_use (repl_c _ _ _ _ _ _ _ _ _ _ _ ?q1 ?q2 ?q3 ?q4) ?k1 ?k2 ?kX ?k4 ?k5 ?kC ?kd ?ku ?_; (case k1 => k_asm); (case k2 => k_asm); (case kX => k_asm); (case k4 => k_asm); (case k5 => k_asm); (case kC => first | exact rfl | assumption); (case kd => ktr_room); (case ku => ktr_units); (case q1 => omega); (case q2 => omega); (case q3 => omega); (case q4 => assumption); intro t9 h9 tk9 F9 N9; (try dsimp only); (try k_fold); (try k_sweep))))
local macro_rules | `(tactic| k_enter) => `(tactic| first
  | (refine' code_def ?k1 ?k2 ?k3 ?k4 ?k5 ?kA ?kF ?kK ?k6 ?k7 ?k8 ?k9 ?kB ?_ ?c2 ?c3 ?c4 ?c5; (case kA => exact rfl); (case kF => exact rfl); (case kK => first | exact rfl | assumption); (case k1 => k_asm); (case k2 => k_asm); (case k3 => k_asm); (case k4 => k_asm); (case k5 => k_asm); (case k6 => k_is); (case k7 => k_is); (case k8 => ktr_room); (case k9 => first | exact BindsTo.of_eq rfl | exact binds_K (by k_in) rfl (by k_is) rfl rfl rfl | fail "k_enter: no rule for these arguments"); (case c5 => decide); (case kB => exact locs rfl); (case c2 => exact rfl); (case c3 => exact rfl); (case c4 => exact rfl); k_whole; intro g' L' h' FG' F' N' B' X' T'; (try dsimp only); (try k_lift B'); (try k_fold)))
abbrev ClW (prog : Program) (w : World) (K : Frag) (p : Program) (loose : List Str) (mean : ExcName → Option Value) (mg mb : Str → Option Value) (f : Addr) (k : Nat) (news : List (Addr × Obj)) : Prop :=
  ∀ (dp un : Nat) (gd : Option (List Code)) (cn : Str) (cs : Scope) (a : Addr) (ccd : Value) (cl : List (Str × Addr)) (outer : List Env) (A₀ : Around) (base h₀ : Heap) (L : Addr) (m : Str → Option Value) (s : Shared) (Q E : Value → Shared → Prop),
    Below A₀ base outer h₀ → Fr h₀ L s.heap m → K.In h₀ → News h₀ L s.heap news → Top p loose mean mg mb h₀ → cs.kind = .function →
    dp + k < recursionLimit → un + 8 * k < cLine → (∀ (x : Addr) (h' : Heap) (tk' : Nat), Fr h₀ L h' m → News h₀ L h' news → Q (.ref x) { s with heap := h', toks := tk' }) →
      wpAny (model prog w) (ktrTop dp un gd cn cs L a ccd cl outer) (call (.ref f) []) Q E s
set_option maxRecDepth 100000 in
set_option maxHeartbeats 8000000 in
theorem world_c (w : World) (mean : ExcName → Option Value) (mg mb : Str → Option Value) (news : List (Addr × Obj)) :
    ClW PySem.Challenge.rw_xw0299_01.row.prog w (hd.heap_39 w.params) hd.view_39 (looseW hd.view_39 [Str.ofString "SnobolError"]) mean mg mb 109 3 news := by
  k_fill
  dsimp only [ClW]
  intros
  rename_i hret
  k_steps
  all_goals (refine hret _ _ _ (by k_asm) (cb_drop (by assumption) (by kcj_all)))
end
section
variable {prog : Program} {w : World} {A : Around} {E : Value → Shared → Prop} {s : Shared} {h₀ : Heap} {L : Addr} {m : Str → Option Value} {news : List (Addr × Obj)}
theorem strsAre_of_items {x : Str} {acc : Array Value} (h : ItemsOf (SignAt x) acc x.cps.size) : StrsAre acc.toList (signs x) := by
  have hl : acc.toList.length = (signs x).length := by rw [Array.length_toList, h.1, signs_length]; rfl
  have hg : ∀ i v, acc.toList[i]? = some v → ∃ c u, (signs x)[i]? = some (⟨#[c]⟩ : Str) ∧ v = Value.str ⟨#[c]⟩ u := fun i v hv => by
    obtain ⟨c, u, hc, e⟩ := h.2 i v (by rw [← Array.getElem?_toList]; exact hv)
    exact ⟨c, u, signs_get hc, e⟩
  revert hl hg
  generalize acc.toList = vs
  generalize signs x = ss
  intro hl hg
  induction vs generalizing ss with
  | nil =>
    cases ss with
    | nil => exact .nil
    | cons a r => simp at hl
  | cons v vs ih =>
    cases ss with
    | nil => simp at hl
    | cons a r =>
      obtain ⟨c, u, hc, e⟩ := hg 0 v rfl
      have ha : a = ⟨#[c]⟩ := Option.some.inj hc
      rw [e, ← ha]
      exact .cons a u (ih r (by simpa using hl) fun i v hv => hg (i + 1) v (by simpa using hv))
theorem sorted_text {x : Str} {t : Tok} {Q : Value → Shared → Prop} (hh : A.handled = none) (F : Fr h₀ L s.heap m) (N : News h₀ L s.heap news) (h64 : x.length < 64)
    (h : ∀ (D : Addr) (h' : Heap) (tk' : Nat) (vs' : List Value) (ss' : List Str) (e : Nat), Fr h₀ L h' m → News h₀ L h' ((D, seqObj "list" vs'.toArray e) :: news) → (∀ p ∈ news, p.1 < D) →
      StrsAre vs' ss' → ss'.Perm (signs x) → sortedS ss' = true → Q (.ref D) { s with heap := h', toks := tk' }) :
    wpAny (model prog w) A (call (.builtin "sorted") [.str x t]) Q E s := by
  refine Calls.call_function_entry kind_sorted plain_sorted entry_sorted (args_sorted1 _) ?_
  unfold Builtin.«sorted»
  refine wpAny_bind (m := checkCount "sorted" 1 1 _) (wpAny_pure ?_)
  refine wpAny_bind (wpAny_collect_str (A := A.in1) hh x t (fun s' acc hk hg hd ho hI => ?_) (by rw [PySem.sizeLine_eq]; show x.length ≤ _; omega))
  obtain ⟨g', gens', drawn', tk', os'⟩ := s'
  dsimp only at hk hg hd ho
  subst hg hd ho
  have hS := strsAre_of_items hI
  have hlen : acc.toList.length < 64 := by rw [hS.length, signs_length]; exact h64
  refine wpAny_bind (wpAny_newList ?_)
  have hoL : (g'.push (seqObj "list" acc.toList.toArray 0)).get? g'.objs.size = some (seqObj "list" acc.toList.toArray 0) := Heap.get?_push_size _ rfl
  refine wpAny_bind (wpAny_holding (wpAny_call_entry slot_list_sort ⟨_, hoL, rfl⟩ entry_list_sort (list_sort_treeK strKind_oneLt hoL hS.keysOf (fun v₁ v₂ rest e => keyKind_strs (by rw [← e]; exact hS)) hlen fun st' a1 a2 => ⟨_, rfl, ?_⟩) (args_list_sort _)))
  obtain ⟨ss', h1, h2, h3⟩ := sorted_out_str hS a1 a2
  obtain ⟨e, he⟩ := sortedHeap_at (vs := acc.toList) (out := (arrOf st').map (·.2)) hoL
  have kp : ∀ b o, s.heap.get? b = some o → (sortedHeap (g'.push (seqObj "list" acc.toList.toArray 0)) g'.objs.size acc.toList ((arrOf st').map (·.2))).get? b = some o := fun b o eb => by
    have hb : b < g'.objs.size := Heap.lt_size (hk b o eb)
    rw [sortedHeap_old (Nat.ne_of_lt hb) (by rw [Heap.size_push]; exact Nat.lt_succ_of_lt hb)]
    exact Heap.get?_push_of_some _ (hk b o eb)
  have hlt : ∀ b o, s.heap.get? b = some o → b < g'.objs.size := fun b o eb => Heap.lt_size (hk b o eb)
  refine wpAny_pure ⟨_, rfl, h g'.objs.size _ _ ((arrOf st').map (·.2)).toList ss' e (F.kept kp) (fun p hp => ?_) (fun p hp => hlt _ _ (N p hp).1) h1 h2 h3⟩
  rcases List.mem_cons.mp hp with rfl | hp
  · obtain ⟨oL, _, _, hL, _⟩ := F.ns
    refine ⟨he, Nat.ne_of_gt (hlt _ _ hL), ?_⟩
    cases q : h₀.get? g'.objs.size with
    | none => rfl
    | some o => exact absurd (hlt _ _ (F.keep _ _ q)) (Nat.lt_irrefl _)
  · exact ⟨kp _ _ (N p hp).1, (N p hp).2⟩
theorem reads_of_strs {h : Heap} {a : Addr} {vs : List Value} {ss : List Str} (hl : h.IsList a vs.toArray) (hi : StrsAre vs ss) : Reads h (.ref a) (.list (ss.map PyData.str)) [a] := by
  obtain ⟨o, ho, hc, n, hd⟩ := hl
  exact Reads.list ho hc hd (by simpa using StrsAre.reads h hi)
theorem ne_same_strs {a b : Addr} {vs us : List Value} {ss : List Str} {Q : Value → Shared → Prop} (hl : s.heap.IsList a vs.toArray) (hi : StrsAre vs ss) (hl' : s.heap.IsList b us.toArray) (hi' : StrsAre us ss)
    (hs : PySem.SeqAt.shaped (.list (ss.map PyData.str)) = true) (hm : PySem.SeqAt.noMix (.list (ss.map PyData.str)) (.list (ss.map PyData.str)) = true) (hu : A.units + 64 < cLine) (h : Q (.bool false) s) :
    wpAny (model prog w) A (compareOp .NotEq (.ref a) (.ref b)) Q E s :=
  ne_dataH_same (reads_of_strs hl hi) (reads_of_strs hl' hi') hs hs hu hm (by rw [PySem.Spec.same_self]; exact h)
def wholeS (j : Nat) : Str := Txt.slice (Str.ofString "abcdefghij") none (some ((2 + 2 * j : Nat) : Int))
theorem wholeS_len : ∀ j : Fin 5, (wholeS j.val).length = 2 + 2 * j.val := by decide +kernel
theorem whole_rule {value slice : Expr} {t uj : Tok} {a : Int} {Q : Value → Shared → Prop} (hF : Fr h₀ L s.heap m) (hN : News h₀ L s.heap news)
    (h : ∀ (wh : Str) (j : Nat) h' t' k, j < 5 → wh = wholeS j → wh.length = 2 + 2 * j → Fr h₀ L h' m → News h₀ L h' news → Q (.str wh t') { s with heap := h', toks := k })
    (hs : subscripted slice false (.str (Str.ofString "abcdefghij") t) (.ref s.heap.objs.size) = operate [.ref s.heap.objs.size, .str (Str.ofString "abcdefghij") t] (getItem (.str (Str.ofString "abcdefghij") t) (.ref s.heap.objs.size)) := by with_unfolding_all rfl)
    (ht : ∀ r, letTemporaryGo value (.str (Str.ofString "abcdefghij") t) r = pure () := by intro _; with_unfolding_all rfl) :
    wpAny (model prog w) A (subscriptTail value slice (.str (Str.ofString "abcdefghij") t) (.ref s.heap.objs.size)) Q E { s with heap := s.heap.push { cls := .type "slice", data := .fields #[.none, .int (2 + 2 * a.fmod 5) uj, .none] } } := by
  have h0 : 0 ≤ a.fmod 5 := Int.fmod_nonneg_of_pos _ (by decide)
  have h5 : a.fmod 5 < 5 := Int.fmod_lt_of_pos _ (by decide)
  refine slice_strN_ns hF hN (fun h' t' k F' N' => ?_) hs ht (by decide +kernel)
  have e : 2 + 2 * a.fmod 5 = ((2 + 2 * (a.fmod 5).toNat : Nat) : Int) := by omega
  rw [e]
  exact h _ (a.fmod 5).toNat h' t' k (by omega) rfl (wholeS_len ⟨(a.fmod 5).toNat, by omega⟩) F' N'
def PlaceMark (pl : Int) (wh : Str) (j : Nat) : Prop := pl = pl ∧ wh = wh ∧ j = j
theorem place_rule {wh : Str} {j : Nat} {a : Int} {t u : Tok} {Q : Value → Shared → Prop} (hW : wh = wholeS j) (hb : 0 < (wh.length : Int)) (h : ∀ (pl : Int) t c, 0 ≤ pl → pl < (wh.length : Int) → PlaceMark pl wh j → Q (.int pl t) { s with toks := c }) :
    wpAny (model prog w) A (binaryOp .Mod (.int a t) (.int (wh.length : Int) u)) Q E s :=
  mod_int' (by omega) (h _ _ _ (Int.fmod_nonneg_of_pos _ hb) (Int.fmod_lt_of_pos _ hb) ⟨rfl, rfl, rfl⟩)
end
theorem shufS_len (x : Str) (b : Bool) (hx : x.length ≤ 10) : (shufS x b).length = 2 * (x.length / 2) := by
  have hl : ∀ n, (laidS x b n).length = 2 * n := by
    intro n
    induction n with
    | zero => show (Str.ofString "").length = 0; decide
    | succ n ih =>
      show (laidS x b n ++ _).length = _
      rw [Str.length_append, ih]
      cases b
      · show 2 * n + (twoS x n).length = _
        unfold twoS; rw [two_len]; omega
      · show 2 * n + (Txt.sliceBy (twoS x n) none none (-1, 0)).length = _
        unfold twoS; rw [rev_len]; omega
  unfold shufS
  rw [repS_len, hl]
  exact Nat.le_of_eq (plc_len ⟨x.length, by omega⟩)
theorem shuf_use {prog : Program} {w : World} {K : Frag} {p : Program} {loose : List Str} {mean : ExcName → Option Value} {mg mb : Str → Option Value} {f : Addr} {k : Nat} {news : List (Addr × Obj)} {vs : List Value} {x : Str} {b : Bool}
    {dp un : Nat} {gd : Option (List Code)} {cn : Str} {cs : Scope} {a : Addr} {ccd : Value} {cl : List (Str × Addr)} {outer : List Env} {A₀ : Around} {base h₀ : Heap} {L : Addr} {m : Str → Option Value} {s : Shared} {Q E : Value → Shared → Prop}
    (C : Cl prog w K p loose mean mg mb f k news vs (fun t => .str (shufS x b) t)) (hx : x.length ≤ 10) (B : Below A₀ base outer h₀) (F : Fr h₀ L s.heap m) (X : K.In h₀) (N : News h₀ L s.heap news) (T : Top p loose mean mg mb h₀) (hk : cs.kind = .function)
    (hd : dp + k < recursionLimit) (hu : un + 8 * k < cLine) (ret : (shufS x b).length = 2 * (x.length / 2) → CbRet h₀ L m news s Q (fun t => .str (shufS x b) t)) :
    wpAny (model prog w) (ktrTop dp un gd cn cs L a ccd cl outer) (call (.ref f) vs) Q E s := C _ _ _ _ _ _ _ _ _ _ _ _ _ _ _ _ _ B F X N T hk hd hu (ret (shufS_len x b hx))
theorem clw_use {prog : Program} {w : World} {K : Frag} {p : Program} {loose : List Str} {mean : ExcName → Option Value} {mg mb : Str → Option Value} {f : Addr} {k : Nat} {news : List (Addr × Obj)}
    {dp un : Nat} {gd : Option (List Code)} {cn : Str} {cs : Scope} {a : Addr} {ccd : Value} {cl : List (Str × Addr)} {outer : List Env} {A₀ : Around} {base h₀ : Heap} {L : Addr} {m : Str → Option Value} {s : Shared} {Q E : Value → Shared → Prop}
    (C : ClW prog w K p loose mean mg mb f k news) (B : Below A₀ base outer h₀) (F : Fr h₀ L s.heap m) (X : K.In h₀) (N : News h₀ L s.heap news) (T : Top p loose mean mg mb h₀) (hk : cs.kind = .function)
    (hd : dp + k < recursionLimit) (hu : un + 8 * k < cLine) (ret : ∀ (x : Addr) (h' : Heap) (tk' : Nat), Fr h₀ L h' m → News h₀ L h' news → Q (.ref x) { s with heap := h', toks := tk' }) :
    wpAny (model prog w) (ktrTop dp un gd cn cs L a ccd cl outer) (call (.ref f) []) Q E s := C _ _ _ _ _ _ _ _ _ _ _ _ _ _ _ _ _ B F X N T hk hd hu ret
def DownSrc (prog : Program) (w : World) (A : Around) (h₀ : Heap) (L : Addr) (m : Str → Option Value) (env : Env) (elt : Expr) (x : Str) (scope : Scope) (cl : List (Str × Addr)) (Fin : Shared → List Value → List (Addr × Obj) → Prop) (xv : Value) (s₁ : Shared) : Prop :=
  ∃ r t u v news, xv = .ref r ∧ A.handled = none ∧ Fr h₀ L s₁.heap m ∧ News h₀ L s₁.heap news ∧ IsRange s₁.heap r 3 (-1) (-1) t u v ∧
    ∀ s₂ : Shared, (∃ h, s₂ = { s₁ with heap := h }) → LCg.CompRest prog w A h₀ L m env elt x scope cl s₂ (fun _ => True) (fun i v => ∃ t, v = .int (3 + (i : Int) * (-1)) t) (Fin s₂) 4 0 [] news
section
variable {prog : Program} {w : World} {A : Around} {E : Value → Shared → Prop} {s : Shared} {h₀ : Heap} {L : Addr} {m : Str → Option Value} {env : Env}
theorem listcomp_down {elt iter : Expr} {x : Str} {px : Pos} {scope : Scope} {cl : List (Str × Addr)} {pos : Pos} {Q : Value → Shared → Prop} (F₀ : Fr h₀ L s.heap m)
    (hclos : closureFor scope env = pure cl) (hcell : ∀ y ∈ scope.names, y.2 ≠ .cell) (hkind : scope.kind = .function)
    (hnames : ∀ y ∈ scope.names, y.2 = .local → scope.names.lookup y.1 = some .local) (hx : scope.names.lookup x = some .local)
    (h : wpAny (model prog w) A (eval iter env) (DownSrc prog w A h₀ L m env elt x scope cl (fun s₂ => LCg.FinE h₀ L m s₂ Q)) E s)
    (hs : ∀ x, foldedSetIterable iter env x = pure x := by intro _; rfl) :
    wpAny (model prog w) A (eval (.ListComp elt [⟨.Name x px, iter, [], 0⟩] scope pos) env) Q E s := by
  rw [eval_ListComp]
  refine wpAny_comprehension_free (use := none) rfl hs hclos hkind hnames (wpAny_mono h (fun xv s₁ h₁ => ?_) fun _ _ e => e)
  obtain ⟨r, t, u, v, news, rfl, hh, F, N, hr, R⟩ := h₁
  refine wpAny_pyIter_range hr (by decide) ?_
  refine LCg.block_U (fp := [s₁.heap.objs.size]) (Walks.range hh s₁.heap.objs.size 3 (-1) 4) (by rw [PySem.sizeLine_eq]; omega) (fun i h st => ⟨_, st⟩) (fun i h h' ob nw st e e' _ _ _ => ?_) hcell hkind hx (by show IsRangeIter _ _ _ _ _; exact Heap.get?_push_size _ rfl) (fun b hb => ?_)
    (F.keeps fun _ _ e => Heap.get?_push_of_some _ e) (N.grown fun _ _ e => Heap.get?_push_of_some _ e) (Nat.ne_of_lt F.ns.lt) (next_is_new F) (fun p hp => Nat.ne_of_lt (Heap.lt_size (N p hp).1)) trivial (R _ ⟨_, rfl⟩) ?_
  · have st' : h.get? s₁.heap.objs.size = some _ := st
    show h'.get? s₁.heap.objs.size = some _
    rw [e', ← e]; exact st'
  · rw [List.mem_singleton.mp hb]
    show s₁.heap.objs.size < (s₁.heap.push _).objs.size
    rw [Heap.size_push]; exact Nat.lt_succ_self _
  · intro D C h tk m' ys news' F' N' o1 hn hC₀ hD₀ hCL hDL hCD offC fin
    refine ⟨m', hn, fun h'' hs'' => fin D h'' tk (F'.change hs'' hCL hC₀) (fun p hp => ?_) o1⟩
    refine ⟨hs''.extBut _ _ ?_ (N' p hp).1, (N' p hp).2⟩
    rcases List.mem_cons.mp hp with rfl | hp
    · exact Ne.symm hCD
    · exact offC p hp
end
section
variable {prog : Program} {w : World} {A : Around} {h₀ : Heap} {L : Addr} {m : Str → Option Value} {env : Env} {elt : Expr} {x : Str} {scope : Scope} {cl : List (Str × Addr)} {s₁ : Shared} {Fin : Shared → List Value → List (Addr × Obj) → Prop} {news : List (Addr × Obj)}
def IntEl (news : List (Addr × Obj)) (r : Int) (y : Value) (news' : List (Addr × Obj)) : Prop := news' = news ∧ ∃ t : Tok, y = .int r t
theorem downSrc_of {r : Addr} {t u v : Tok} (g : Int → Int) (hh : A.handled = none) (F : Fr h₀ L s₁.heap m) (N : News h₀ L s₁.heap news) (hr : IsRange s₁.heap r 3 (-1) (-1) t u v)
    (turn : ∀ k t I oI C oC D m₂ ys h tk (E' : Value → Shared → Prop), 0 ≤ k → k ≤ 3 → LCg.NsObj oC m₂ → m₂ x = some (.int k t) → Fr h₀ L h m → News h₀ L h ((I, oI) :: (C, oC) :: (D, LCg.lst ys) :: news) → LCg.Off3 I C D news → ((@Ne Nat I C) ∧ (@Ne Nat I D) ∧ (@Ne Nat C D)) →
      wpAny (model prog w) A (eval elt (compEnvC scope cl C env)) (LCg.CompEnd h₀ L m { s₁ with heap := h, toks := tk } I oI C oC D (LCg.lst ys) (fun _ => True) (fun y news' => IntEl news (g k) y news')) E' { s₁ with heap := h, toks := tk })
    (fin : ∀ t3 t2 t1 t0 h, Fin { s₁ with heap := h } [.int (g 3) t3, .int (g 2) t2, .int (g 1) t1, .int (g 0) t0] news) : DownSrc prog w A h₀ L m env elt x scope cl Fin (.ref r) s₁ := by
  refine ⟨r, t, u, v, news, rfl, hh, F, N, hr, fun s₂ hs₂ => ?_⟩
  obtain ⟨h₂, rfl⟩ := hs₂
  refine LCg.CompRest.succ ?_
  rintro _ I oI C oC D m₂ h tk E' ⟨t3, rfl⟩ hC hx F N off ne
  refine wpAny_mono (turn 3 t3 I oI C oC D m₂ _ h tk E' (by decide) (by decide) hC hx F N off ne) (fun z s₂ hq => ?_) fun _ _ e => e
  obtain ⟨h', tk', nw, e, F', N', off', hS, hn', t3', hy'⟩ := hq
  rw [hn'] at N' off'
  refine ⟨h', tk', news, e, F', N', off', trivial, ?_⟩
  rw [hy']
  refine LCg.CompRest.succ ?_
  rintro _ I oI C oC D m₂ h tk E' ⟨t2, rfl⟩ hC hx F N off ne
  refine wpAny_mono (turn 2 t2 I oI C oC D m₂ _ h tk E' (by decide) (by decide) hC hx F N off ne) (fun z s₂ hq => ?_) fun _ _ e => e
  obtain ⟨h', tk', nw, e, F', N', off', hS, hn', t2', hy'⟩ := hq
  rw [hn'] at N' off'
  refine ⟨h', tk', news, e, F', N', off', trivial, ?_⟩
  rw [hy']
  refine LCg.CompRest.succ ?_
  rintro _ I oI C oC D m₂ h tk E' ⟨t1, rfl⟩ hC hx F N off ne
  refine wpAny_mono (turn 1 t1 I oI C oC D m₂ _ h tk E' (by decide) (by decide) hC hx F N off ne) (fun z s₂ hq => ?_) fun _ _ e => e
  obtain ⟨h', tk', nw, e, F', N', off', hS, hn', t1', hy'⟩ := hq
  rw [hn'] at N' off'
  refine ⟨h', tk', news, e, F', N', off', trivial, ?_⟩
  rw [hy']
  refine LCg.CompRest.succ ?_
  rintro _ I oI C oC D m₂ h tk E' ⟨t0, rfl⟩ hC hx F N off ne
  refine wpAny_mono (turn 0 t0 I oI C oC D m₂ _ h tk E' (by decide) (by decide) hC hx F N off ne) (fun z s₂ hq => ?_) fun _ _ e => e
  obtain ⟨h', tk', nw, e, F', N', off', hS, hn', t0', hy'⟩ := hq
  rw [hn'] at N' off'
  refine ⟨h', tk', news, e, F', N', off', trivial, ?_⟩
  rw [hy']
  exact LCg.CompRest.zero (fin t3' t2' t1' t0' h₂)
end

def figF (pl : Int) (k : Int) : Int := (pl.fdiv (2 ^ k.toNat)).fmod 2
theorem downSrc_pl {prog : Program} {w : World} {A : Around} {h₀ : Heap} {L : Addr} {m : Str → Option Value} {env : Env} {elt : Expr} {x : Str} {scope : Scope} {cl : List (Str × Addr)} {s₁ : Shared} {Fin : Shared → List Value → List (Addr × Obj) → Prop} {news : List (Addr × Obj)} {r : Addr} {t u v : Tok} {pl : Int} {wh : Str} {j : Nat}
    (hpm : PlaceMark pl wh j) (hh : A.handled = none) (F : Fr h₀ L s₁.heap m) (N : News h₀ L s₁.heap news) (hr : IsRange s₁.heap r 3 (-1) (-1) t u v)
    (turn : ∀ k t I oI C oC D m₂ ys h tk (E' : Value → Shared → Prop), 0 ≤ k → k ≤ 3 → LCg.NsObj oC m₂ → m₂ x = some (.int k t) → Fr h₀ L h m → News h₀ L h ((I, oI) :: (C, oC) :: (D, LCg.lst ys) :: news) → LCg.Off3 I C D news → ((@Ne Nat I C) ∧ (@Ne Nat I D) ∧ (@Ne Nat C D)) →
      wpAny (model prog w) A (eval elt (compEnvC scope cl C env)) (LCg.CompEnd h₀ L m { s₁ with heap := h, toks := tk } I oI C oC D (LCg.lst ys) (fun _ => True) (fun y news' => IntEl news (figF pl k) y news')) E' { s₁ with heap := h, toks := tk })
    (fin : ∀ t3 t2 t1 t0 h, Fin { s₁ with heap := h } [.int (figF pl 3) t3, .int (figF pl 2) t2, .int (figF pl 1) t1, .int (figF pl 0) t0] news) : DownSrc prog w A h₀ L m env elt x scope cl Fin (.ref r) s₁ := downSrc_of (figF pl) hh F N hr turn fin
theorem comp_end_int {h₀ h' : Heap} {L I C D : Addr} {oI oC oD : Obj} {m : Str → Option Value} {s₁ : Shared} {news : List (Addr × Obj)} {r : Int} {v : Value} {t : Tok} {tk : Nat}
    (F : Fr h₀ L h' m) (N : News h₀ L h' ((I, oI) :: (C, oC) :: (D, oD) :: news)) (off : LCg.Off3 I C D news) (hv : v = .int r t) :
    LCg.CompEnd h₀ L m s₁ I oI C oC D oD (fun _ => True) (fun y n => IntEl news r y n) v { s₁ with heap := h', toks := tk } := ⟨h', tk, news, rfl, F, N, off, trivial, rfl, t, hv⟩
def bf (pl : Int) (k : Int) : Bool := figF pl k == 1
def chkT (j n : Nat) : Bool :=
  let wh := wholeS j
  let pl : Int := (n : Int)
  let p1 := shufS wh (bf pl 3)
  let p2 := shufS p1 (bf pl 2)
  let p3 := shufS p2 (bf pl 1)
  let p4 := shufS p3 (bf pl 0)
  decide (Txt.find p1 (Str.ofString "a") = 2 * 0 + figF pl 3) && decide (Txt.find p2 (Str.ofString "a") = 2 * (2 * 0 + figF pl 3) + figF pl 2) && decide (Txt.find p3 (Str.ofString "a") = 2 * (2 * (2 * 0 + figF pl 3) + figF pl 2) + figF pl 1) &&
    decide (Txt.find p4 (Str.ofString "a") = 2 * (2 * (2 * (2 * 0 + figF pl 3) + figF pl 2) + figF pl 1) + figF pl 0) && decide (2 * (2 * (2 * (2 * 0 + figF pl 3) + figF pl 2) + figF pl 1) + figF pl 0 = pl) &&
    (signs p1).isPerm (signs wh) && (signs p2).isPerm (signs wh) && (signs p3).isPerm (signs wh) && (signs p4).isPerm (signs wh)
theorem chkT_0 : ∀ n : Fin 2, chkT 0 n.val = true := by decide +kernel
theorem chkT_1 : ∀ n : Fin 4, chkT 1 n.val = true := by decide +kernel
theorem chkT_2 : ∀ n : Fin 6, chkT 2 n.val = true := by decide +kernel
theorem chkT_3 : ∀ n : Fin 8, chkT 3 n.val = true := by decide +kernel
theorem chkT_4 : ∀ n : Fin 10, chkT 4 n.val = true := by decide +kernel
theorem chkT_all {j n : Nat} (hj : j < 5) (hn : n < 2 + 2 * j) : chkT j n = true := by
  match j, hj with
  | 0, _ => exact chkT_0 ⟨n, by omega⟩
  | 1, _ => exact chkT_1 ⟨n, by omega⟩
  | 2, _ => exact chkT_2 ⟨n, by omega⟩
  | 3, _ => exact chkT_3 ⟨n, by omega⟩
  | 4, _ => exact chkT_4 ⟨n, by omega⟩
theorem fig_bound (pl k : Int) : 0 ≤ figF pl k ∧ figF pl k < 2 := ⟨Int.fmod_nonneg_of_pos _ (by decide), Int.fmod_lt_of_pos _ (by decide)⟩
def orbS (x : Str) (b : Bool) : Nat → Str
  | 0 => x
  | n + 1 => shufS (orbS x b n) b
def chkO (j : Nat) (b : Bool) (p : Int) : Bool := (orbS (wholeS j) b (timesF p).toNat == wholeS j) && (List.range (timesF p).toNat).all fun i => i == 0 || !(orbS (wholeS j) b i == wholeS j)
theorem chkO_all : ∀ j : Fin 5, chkO j.val false ((2 + 2 * j.val : Nat) - 1) = true ∧ chkO j.val true ((2 + 2 * j.val : Nat) + 1) = true := by decide +kernel
def cp (s : Str) : Nat := s.cps.getD 0 0
theorem sign_cp {x a : Str} (h : a ∈ signs x) : a = ⟨#[cp a]⟩ := by
  obtain ⟨n, _, rfl⟩ := List.mem_map.mp h
  rfl
theorem rising_pw : ∀ (l : List Str) (p : Str), (∀ a ∈ p :: l, a = ⟨#[cp a]⟩) → risingS p l = true → (p :: l).Pairwise (fun a b => cp a ≤ cp b) := by
  intro l
  induction l with
  | nil => intro p _ _; exact List.pairwise_singleton _ _
  | cons x r ih =>
    intro p hf h
    have h' : (!PySem.Spec.ltCps x.cps.toList p.cps.toList && risingS x r) = true := h
    rw [Bool.and_eq_true] at h'
    have hr := ih x (fun a ha => hf a (.tail _ ha)) h'.2
    have hx := hf x (.tail _ (.head _))
    have hp := hf p (.head _)
    have hle : cp p ≤ cp x := by
      have h1 := h'.1
      rw [hx, hp] at h1
      have h2 : (!(decide (cp x < cp p) || (cp x == cp p && false))) = true := h1
      simp at h2
      exact h2
    refine List.Pairwise.cons (fun b hb => ?_) hr
    rcases List.mem_cons.mp hb with rfl | hb
    · exact hle
    · exact Nat.le_trans hle ((List.pairwise_cons.mp hr).1 b hb)
theorem sorted_pw {l : List Str} (hf : ∀ a ∈ l, a = ⟨#[cp a]⟩) (h : sortedS l = true) : l.Pairwise (fun a b => cp a ≤ cp b) := by
  cases l with
  | nil => exact List.Pairwise.nil
  | cons p r => exact rising_pw r p hf h
theorem sorted_is {ss : List Str} {x : Str} (hP : ss.Perm (signs x)) (hO : sortedS ss = true) (hX : sortedS (signs x) = true) : ss = signs x := by
  have f1 : ∀ a ∈ ss, a = ⟨#[cp a]⟩ := fun a ha => sign_cp (hP.mem_iff.mp ha)
  have f2 : ∀ a ∈ signs x, a = ⟨#[cp a]⟩ := fun a ha => sign_cp ha
  refine List.Perm.eq_of_pairwise (le := fun a b => cp a ≤ cp b) (fun a b ha hb h1 h2 => ?_) (sorted_pw f1 hO) (sorted_pw f2 hX) hP
  rw [f1 a ha, f2 b hb, Nat.le_antisymm h1 h2]
theorem whole_sorted : ∀ j : Fin 5, sortedS (signs (wholeS j.val)) = true ∧ PySem.SeqAt.shaped (.list ((signs (wholeS j.val)).map PyData.str)) = true ∧ PySem.SeqAt.noMix (.list ((signs (wholeS j.val)).map PyData.str)) (.list ((signs (wholeS j.val)).map PyData.str)) = true := by decide +kernel
section
variable {prog : Program} {w : World} {A : Around} {E : Value → Shared → Prop} {s : Shared} {h₀ : Heap} {L : Addr} {m : Str → Option Value} {news : List (Addr × Obj)}
theorem list_text {x : Str} {t : Tok} {Q : Value → Shared → Prop} (hh : A.handled = none) (F : Fr h₀ L s.heap m) (N : News h₀ L s.heap news) (hsz : x.length ≤ 1000)
    (h : ∀ (D : Addr) (h' : Heap) (tk' : Nat) (vs : List Value) (e : Nat), Fr h₀ L h' m → News h₀ L h' ((D, seqObj "list" vs.toArray e) :: news) → (∀ p ∈ news, p.1 < D) → StrsAre vs (signs x) → Q (.ref D) { s with heap := h', toks := tk' }) :
    wpAny (model prog w) A (call (.type "list") [.str x t]) Q E s := by
  refine call_list_str hh x t (hn := by rw [PySem.sizeLine_eq]; show x.length ≤ _; omega) fun h' tk acc' c' hk hS' hacc => ?_
  refine h s.heap.objs.size h' tk acc'.toList c' (F.keeps hk) (fun p hp => ?_) (fun p hp => Heap.lt_size (N p hp).1) (strsAre_of_items hacc)
  rcases List.mem_cons.mp hp with rfl | hp
  · refine ⟨by simpa using hS', Nat.ne_of_gt F.ns.lt, ?_⟩
    cases q : h₀.get? s.heap.objs.size with
    | none => rfl
    | some o => exact absurd (Heap.lt_size (F.keep _ _ q)) (Nat.lt_irrefl _)
  · exact ⟨hk _ _ (N p hp).1, (N p hp).2⟩
theorem ne_rule {a b : Addr} {vs us : List Value} {e1 e2 : Nat} {ss : List Str} {p wh : Str} {j : Nat} {Q : Value → Shared → Prop} (N : News h₀ L s.heap ((b, seqObj "list" us.toArray e2) :: (a, seqObj "list" vs.toArray e1) :: news))
    (hS : StrsAre vs ss) (hP : ss.Perm (signs p)) (hO : sortedS ss = true) (hS2 : StrsAre us (signs wh)) (hPw : (signs p).Perm (signs wh)) (hW : wh = wholeS j) (hj : j < 5) (hu : A.units + 64 < cLine) (h : News h₀ L s.heap news → Q (.bool false) s) :
    wpAny (model prog w) A (compareOp .NotEq (.ref a) (.ref b)) Q E s := by
  have hw := whole_sorted ⟨j, hj⟩
  subst hW
  have e := sorted_is (hP.trans hPw) hO hw.1
  subst e
  exact ne_same_strs (vs := vs) (us := us) ⟨_, N.get (.tail _ (.head _)), rfl, _, rfl⟩ hS ⟨_, N.get (.head _), rfl, _, rfl⟩ hS2 hw.2.1 hw.2.2 hu (h fun p hp => N p (.tail _ (.tail _ hp)))
theorem nil_of {h : Heap} (N : News h₀ L h news) : News h₀ L h [] := News.nil
theorem index_text {x y : Str} {t u : Tok} {v : Int} {Q : Value → Shared → Prop} (hf : Txt.find x y = v) (hv : 0 ≤ v) (h : Q (.int v s.toks) { s with toks := s.toks + 1 }) :
    wpAny (model prog w) A (call (.builtin "str.index") [.str x t, .str y u]) Q E s := by
  cases ho : PySem.Builtin.Str.occurrences x y 0 x.length 1 with
  | nil =>
    have e : Txt.find x y = -1 := by simp [Txt.find, ho]
    omega
  | cons i rest =>
    have e : Txt.find x y = (i : Int) := by simp [Txt.find, ho]
    refine SC.index ho ?_
    rw [← e, hf]
    exact h
end
theorem place_facts {wh : Str} {j : Nat} {pl : Int} (hW : wh = wholeS j) (hj : j < 5) (hl : wh.length = 2 + 2 * j) (h0 : 0 ≤ pl) (h1 : pl < (wh.length : Int)) :
    (Txt.find (shufS wh (figF pl 3 == 1)) (Str.ofString "a") = 2 * 0 + figF pl 3 ∧
    Txt.find (shufS (shufS wh (figF pl 3 == 1)) (figF pl 2 == 1)) (Str.ofString "a") = 2 * (2 * 0 + figF pl 3) + figF pl 2 ∧
    Txt.find (shufS (shufS (shufS wh (figF pl 3 == 1)) (figF pl 2 == 1)) (figF pl 1 == 1)) (Str.ofString "a") = 2 * (2 * (2 * 0 + figF pl 3) + figF pl 2) + figF pl 1 ∧
    Txt.find (shufS (shufS (shufS (shufS wh (figF pl 3 == 1)) (figF pl 2 == 1)) (figF pl 1 == 1)) (figF pl 0 == 1)) (Str.ofString "a") = 2 * (2 * (2 * (2 * 0 + figF pl 3) + figF pl 2) + figF pl 1) + figF pl 0) ∧
    2 * (2 * (2 * (2 * 0 + figF pl 3) + figF pl 2) + figF pl 1) + figF pl 0 = pl ∧
    ((signs (shufS wh (figF pl 3 == 1))).Perm (signs wh) ∧
    (signs (shufS (shufS wh (figF pl 3 == 1)) (figF pl 2 == 1))).Perm (signs wh) ∧
    (signs (shufS (shufS (shufS wh (figF pl 3 == 1)) (figF pl 2 == 1)) (figF pl 1 == 1))).Perm (signs wh) ∧
    (signs (shufS (shufS (shufS (shufS wh (figF pl 3 == 1)) (figF pl 2 == 1)) (figF pl 1 == 1)) (figF pl 0 == 1))).Perm (signs wh)) := by
  obtain ⟨n, rfl⟩ : ∃ n : Nat, pl = (n : Int) := ⟨pl.toNat, by omega⟩
  have hc := chkT_all hj (n := n) (by omega)
  subst hW
  unfold chkT at hc
  simp only [Bool.and_eq_true, decide_eq_true_eq, List.isPerm_iff] at hc
  obtain ⟨⟨⟨⟨⟨⟨⟨⟨c1, c2⟩, c3⟩, c4⟩, c5⟩, q1⟩, q2⟩, q3⟩, q4⟩ := hc
  exact ⟨⟨c1, c2, c3, c4⟩, c5, q1, q2, q3, q4⟩
theorem orb_len {x : Str} {b : Bool} {j : Nat} (hx : x.length = 2 + 2 * j) (hj : j < 5) : ∀ n, (orbS x b n).length = x.length := by
  intro n
  induction n with
  | zero => rfl
  | succ n ih =>
    show (shufS (orbS x b n) b).length = _
    rw [shufS_len _ _ (by omega)]
    omega
theorem chkO_use {j : Nat} {b : Bool} {p : Int} (h : chkO j b p = true) : orbS (wholeS j) b (timesF p).toNat = wholeS j ∧ ∀ i, 0 < i → i < (timesF p).toNat → (orbS (wholeS j) b i == wholeS j) = false := by
  unfold chkO at h
  rw [Bool.and_eq_true] at h
  refine ⟨eq_of_beq h.1, fun i h0 hi => ?_⟩
  have q := List.all_eq_true.mp h.2 i (List.mem_range.mpr hi)
  cases hb : (orbS (wholeS j) b i == wholeS j) with
  | false => rfl
  | true =>
    rw [hb] at q
    have : (i == 0) = false := by simp; omega
    rw [this] at q
    exact absurd q (by decide)
theorem orb_facts {wh : Str} {j : Nat} (hW : wh = wholeS j) (hj : j < 5) (hl : wh.length = 2 + 2 * j) :
    (orbS wh false (timesF ((wh.length : Int) - 1)).toNat = wh ∧ ∀ i, 0 < i → i < (timesF ((wh.length : Int) - 1)).toNat → (orbS wh false i == wh) = false) ∧
    (orbS wh true (timesF ((wh.length : Int) + 1)).toNat = wh ∧ ∀ i, 0 < i → i < (timesF ((wh.length : Int) + 1)).toNat → (orbS wh true i == wh) = false) := by
  have hc := chkO_all ⟨j, hj⟩
  rw [hl, hW]
  exact ⟨chkO_use hc.1, chkO_use hc.2⟩
theorem times_bound (p : Int) : 1 ≤ timesF p ∧ timesF p ≤ 10 := by
  unfold timesF
  repeat' split
  all_goals omega
section
variable {prog : Program} {w : World} {A : Around} {E : Value → Shared → Prop} {s : Shared}
theorem ne_int_false {a b : Int} {t u : Tok} {Q : Value → Shared → Prop} (e : a = b) (h : Q (.bool false) s) : wpAny (model prog w) A (compareOp .NotEq (.int a t) (.int b u)) Q E s := by
  subst e
  exact ne_int (by rw [bne_self_eq_false]; exact h)
theorem eq_text_false {x y : Str} {t u : Tok} {Q : Value → Shared → Prop} (e : (x == y) = false) (h : Q (.bool false) s) : wpAny (model prog w) A (compareOp .Eq (.str x t) (.str y u)) Q E s :=
  eq_str (by rw [e]; exact h)
theorem ne_text_false {x y : Str} {t u : Tok} {Q : Value → Shared → Prop} (e : x = y) (h : Q (.bool false) s) : wpAny (model prog w) A (compareOp .NotEq (.str x t) (.str y u)) Q E s := by
  subst e
  exact ne_str (by rw [bne_self_eq_false]; exact h)
end
theorem orb_ne {p wh : Str} {b : Bool} {pre : List Int} {T : Int} (e : p = orbS wh b pre.length) (o : ∀ i, 0 < i → i < T.toNat → (orbS wh b i == wh) = false) (h0 : 0 < pre.length) (h1 : pre.length < T.toNat) : (p == wh) = false := by
  rw [e]
  exact o _ h0 h1
theorem orb_eq {p wh : Str} {b : Bool} {n : Nat} {T : Int} (e : p = orbS wh b n) (o : orbS wh b T.toNat = wh) (hn : n = T.toNat) : p = wh := by
  rw [e, hn, o]
theorem orb_start (wh : Str) (b : Bool) : wh = orbS wh b ([] : List Int).length ∧ wh.length = wh.length := ⟨rfl, rfl⟩
theorem orb_turn {p wh : Str} {b : Bool} {pre : List Int} {k : Int} {j : Nat} (e : p = orbS wh b pre.length) (hl : p.length = wh.length) (h9 : (shufS p b).length = 2 * (p.length / 2)) (hw : wh.length = 2 + 2 * j) :
    shufS p b = orbS wh b (pre ++ [k]).length ∧ (shufS p b).length = wh.length := by
  refine ⟨?_, by omega⟩
  rw [List.length_append, List.length_singleton, e]
  rfl
theorem subl_more : ∀ {l all : List (Addr × Obj)} (a : Addr × Obj), SubL l all → SubL l (a :: all)
  | [], _, _, _ => trivial
  | _ :: _, _, a, h => ⟨List.Mem.tail _ h.1, subl_more a h.2⟩
theorem subl_self : ∀ (l : List (Addr × Obj)), SubL l l
  | [] => trivial
  | _ :: r => ⟨List.Mem.head _, subl_more _ (subl_self r)⟩
theorem subl_one (p : Addr × Obj) (r : List (Addr × Obj)) : SubL [p] (p :: r) := ⟨List.Mem.head _, trivial⟩
theorem unr_end {h₀ : Heap} {L : Addr} {it p : Addr × Obj} {keep : List (Addr × Obj)} {R : (Str → Option Value) → List (Addr × Obj) → Prop} {s₁ : Shared} {h' : Heap} {tk : Nat} {m' : Str → Option Value}
    (F : Fr h₀ L h' m') (N : News h₀ L h' (it :: p :: keep)) (off : OffW [it] (p :: keep)) (r : R m' (p :: keep)) :
    UnrEndW h₀ L s₁ [it] (fun m n => SubL [p] n ∧ R m n) { s₁ with heap := h', toks := tk } :=
  UnrEndW.intro F N (p :: keep) ⟨List.Mem.head _, trivial⟩ (subl_more _ (subl_self _)) off ⟨subl_one p keep, r⟩
theorem off3 {i a b c : Addr} {o x y z : Obj} (l : a < i ∧ b < i ∧ c < i) : OffW [(i, o)] [(a, x), (b, y), (c, z)] :=
  ⟨⟨.inl (Nat.ne_of_lt l.1), trivial⟩, ⟨.inl (Nat.ne_of_lt l.2.1), trivial⟩, ⟨.inl (Nat.ne_of_lt l.2.2), trivial⟩, trivial⟩
end Mine
open Mine
section
local macro_rules | `(tactic| walk_at "call builtin:len") => `(tactic| (k_here; (with_reducible show wpAny _ _ (call (Value.builtin "len") [Value.str _ _]) _ _ _); (refine len_text (by omega) ?_)))
local macro_rules | `(tactic| walk_at "call ref") => `(tactic| (k_here; (with_reducible show wpAny _ _ (call (Value.ref 120) [Value.ref _, Value.str _ _, Value.bool _]) _ _ _); k_dflt (refine' shuf_use (shuf_c _ _ _ _ _ _ _ _ _ ?q1 ?q2) ?q2 ?k1 ?k2 ?kX ?k4 ?k5 ?kC ?kd ?ku ?_; (case k1 => k_asm); (case k2 => k_asm); (case kX => k_asm); (case k4 => k_asm); (case k5 => k_asm); (case kC => first | exact rfl | assumption); (case kd => ktr_room); (case ku => ktr_units); (case q1 => omega); (case q2 => omega); intro hl9 t9 h9 tk9 F9 N9; (try dsimp only); (try k_fold); (try k_sweep))))
local macro_rules | `(tactic| walk_at "call ref") => `(tactic| (k_here; (with_reducible show wpAny _ _ (call (Value.ref 127) [Value.int _ _]) _ _ _); k_dflt (refine' cl_use (times_c _ _ _ _ _ _ _ ?q1) ?k1 ?k2 ?kX ?k4 ?k5 ?kC ?kd ?ku ?_; (case k1 => k_asm); (case k2 => k_asm); (case kX => k_asm); (case k4 => k_asm); (case k5 => k_asm); (case kC => first | exact rfl | assumption); (case kd => ktr_room); (case ku => ktr_units); (case q1 => omega); intro t9 h9 tk9 F9 N9; (try dsimp only); (try k_fold); (try k_sweep))))
local macro_rules | `(tactic| walk_at "call ref") => `(tactic| (k_here; ((try dsimp only [List.nil_append, List.append_nil]); (with_reducible show wpAny _ _ (call (Value.ref 109) []) _ _ _)); k_dflt (refine' clw_use (world_c _ _ _ _ _) ?k1 ?k2 ?kX ?k4 ?k5 ?kC ?kd ?ku ?_; (case k1 => k_asm); (case k2 => k_asm); (case kX => k_asm); (case k4 => k_asm); (case k5 => k_asm); (case kC => first | exact rfl | assumption); (case kd => ktr_room); (case ku => ktr_units); intro x9 h9 tk9 F9 N9; (try dsimp only); (try k_fold); (try k_sweep))))
local macro_rules | `(tactic| walk_at "subscriptTail") => `(tactic| (k_here; (with_reducible show wpAny _ _ (subscriptTail _ (Expr.Slice none (some _) none _) (Value.str (Str.ofString "abcdefghij") _) (Value.ref _)) _ _ _); (with_reducible rename Fr _ _ _ _ => F'); (with_reducible rename News _ _ _ _ => N'); (refine whole_rule (s := ⟨_, _, _, _, _⟩) F' N' ?_); intro wh j h' t' k' hj hW hwl F9 N9; (have horb := orb_facts hW hj hwl); obtain ⟨⟨oF1, oF2⟩, oT1, oT2⟩ := horb; (have tb1 := times_bound ((PySem.Str.length wh : Int) - 1)); (have tb2 := times_bound ((PySem.Str.length wh : Int) + 1)); obtain ⟨tb1l, tb1h⟩ := tb1; obtain ⟨tb2l, tb2h⟩ := tb2))
local macro_rules | `(tactic| walk_at "binaryOp Mod int int") => `(tactic| (k_here; (with_reducible show wpAny _ _ (binaryOp Operator.Mod (Value.int _ _) (Value.int (Nat.cast (PySem.Str.length _)) _)) _ _ _); (refine place_rule (by assumption) (by omega) ?_); intro pl t' c' hp0 hp1 hpm; (have hpf := place_facts (by assumption) (by assumption) (by assumption) hp0 hp1); (have b3 := fig_bound pl 3); (have b2 := fig_bound pl 2); (have b1 := fig_bound pl 1); (have b0 := fig_bound pl 0); obtain ⟨⟨f1, f2, f3, f4⟩, f5, q1, q2, q3, q4⟩ := hpf))
local macro_rules | `(tactic| walk_at "call builtin:sorted") => `(tactic| (k_here; (with_reducible show wpAny _ _ (call (Value.builtin "sorted") [Value.str _ _]) _ _ _); k_dflt (refine' sorted_text ?q1 ?k2 ?k4 ?q2 ?_; (case q1 => exact rfl); (case k2 => k_asm); (case k4 => k_asm); (case q2 => omega); intro D9 h9 tk9 vs9 ss9 e9 F9 N9 l1 hS9 hP9 hO9; (try k_lt l1); (try dsimp only); (try k_fold); (try k_sweep))))
local macro_rules | `(tactic| walk_at "subscriptTail Name Slice ref ref") => `(tactic| (k_here; (with_reducible show wpAny _ _ (subscriptTail _ (PySem.Expr.Slice (some _) none none _) (Value.ref _) (Value.ref _)) _ _ _); k_dflt (refine' kmk_slice_ints ?F ?N ?l ?p ?q ?i ?m ?c ?_ ?s ?t ?z; (case F => k_asm); (case N => k_asm); (case l => exact News.isList (by k_asm) (by k_mem)); (case p => kmk_part); (case q => kmk_part); (case i => exact IntsAre.cons _ _ (IntsAre.cons _ _ IntsAre.nil)); (case m => exact kmk_from (IntsAre.cons _ _ (IntsAre.cons _ _ IntsAre.nil)) (by omega)); (case c => kmk_len); (case s => with_unfolding_all rfl); (case t => kmk_pure); (case z => kmk_size)); intro D' ws' h' F' N' l1 hI' hC' hL'; (try k_lt l1); (try k_sweep)))
local macro_rules | `(tactic| walk_at "eval ListComp") => `(tactic| (k_here; (with_reducible show wpAny _ _ (eval (Expr.ListComp _ [Comprehension.mk _ (Expr.Call _ _ _ _) _ _] _ _) _) _ _ _); k_dflt (refine listcomp_down (F₀ := by k_asm) (by with_unfolding_all rfl) (by decide) (by rfl) (by decide) (by rfl) ?_)))
local macro_rules | `(tactic| walk_at "DownSrc") => `(tactic| (k_here; k_dflt (refine downSrc_pl (by assumption) (by rfl) (by k_asm) (by k_asm) (by assumption) ?_ ?_); rotate_left; (intro t3 t2 t1 t0 h9); rotate_left; (intro k t I oI C oC D m₂ ys h tk E' hk0 hk3 hC hx F N off ne)))
local macro_rules | `(tactic| walk_at "CompEnd") => `(tactic| (k_here; (exact comp_end_int (by k_asm) (by k_asm) (by k_asm) rfl)))
local macro_rules | `(tactic| walk_at "call type:list") => `(tactic| (k_here; (with_reducible show wpAny _ _ (call (Value.type "list") [Value.str _ _]) _ _ _); k_dflt (refine' list_text ?q1 ?k2 ?k4 ?q2 ?_; (case q1 => exact rfl); (case k2 => k_asm); (case k4 => k_asm); (case q2 => omega); intro D9 h9 tk9 vs9 e9 F9 N9 l1 hS9; (try k_lt l1); (try dsimp only); (try k_fold); (try k_sweep))))
local macro_rules | `(tactic| walk_at "compareOp NotEq ref ref") => `(tactic| (k_here; (with_reducible rename News _ _ _ ((_, seqObj _ _ _) :: (_, seqObj _ _ _) :: _) => Nold); k_dflt (refine' ne_rule Nold ?a1 ?a2 ?a3 ?a4 ?a5 ?a6 ?a7 ?ku ?_; (case a1 => with_reducible assumption); (case a2 => with_reducible assumption); (case a3 => with_reducible assumption); (case a4 => with_reducible assumption); (case a5 => with_reducible assumption); (case a6 => with_reducible assumption); (case a7 => with_reducible assumption); (case ku => units_room)); intro N9; clear Nold))
local macro_rules | `(tactic| walk_at "call builtin:str.index") => `(tactic| (k_here; (refine index_text (by with_reducible assumption) (by omega) ?_)))
local macro_rules | `(tactic| walk_at "compareOp NotEq int int") => `(tactic| (k_here; (with_reducible refine ne_int_false ?e9 ?_); (case e9 => with_reducible assumption); (with_reducible rename News _ _ _ _ => Nold); (have N9 := nil_of Nold); clear Nold; (repeat ((with_reducible rename Txt.find _ _ = _ => z9); clear z9)); (repeat ((with_reducible rename List.Perm _ _ => z9); clear z9))))
local macro_rules | `(tactic| walk_at "compareOp NotEq int int") => `(tactic| (k_here; (with_reducible refine ne_int_false ?e9 ?_); (case e9 => with_reducible rfl)))
local macro_rules | `(tactic| walk_at "compareOp Eq str str") => `(tactic| (k_here; (refine eq_text_false (orb_ne (by with_reducible assumption) (by with_reducible assumption) (by omega) (by omega)) ?_)))
local macro_rules | `(tactic| walk_at "compareOp NotEq str str") => `(tactic| (k_here; (refine ne_text_false (orb_eq (by with_reducible assumption) (by with_reducible assumption) (by rw [rangeKs_length]; omega)) ?_)))
local macro_rules | `(tactic| walk_at "UnrEndW") => `(tactic| ((with_reducible rename Fr _ _ _ _ => kFr9); (with_reducible rename News _ _ _ _ => kN9); (with_reducible refine unr_end kFr9 kN9 (off3 ?off9) ?_); (case off9 => with_reducible assumption); clear kFr9 kN9))
local macro_rules | `(tactic| walk_at "InvEndN") => `(tactic| k_dflt kst_close)
set_option maxRecDepth 100000 in
set_option maxHeartbeats 40000000 in
theorem PySem.Challenge.cw_xw0299_01_holds : PySem.Challenge.rw_xw0299_01.Holds := by
  refine Mine.hd ?_
  k_go0
  all_goals try k_fold
  k_with "pyIter ref" => (k_of "turn" => k_state_given ["whole", "is_second"] (fun whole b pre pack => pack = orbS whole b pre.length ∧ pack.length = whole.length) "pack")
  k_with "state" => first | (with_reducible exact orb_turn (by assumption) (by assumption) (by assumption) (by assumption)) | (with_reducible exact orb_start _ _)
  k_steps
end
