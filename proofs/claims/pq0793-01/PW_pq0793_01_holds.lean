import PyProof.Rows.All
import Wide.All
import OpenK.AllK
import Wide.FinOn
import PySem.Challenge.RW_pq0793_01
set_option Elab.async false
set_option compiler.extract_closed false
section
-- part Top1
open PySem PySem.W PyProof.Rows
namespace Mine
theorem same_split : @String.splitOn = @String.splitOn := rfl
name_quick tw8075568018651887793 for String.splitOn by same_split
name_quick tw18420291936287147724 for String.splitOn by same_split
name_quick tw14979626087600564940 for String.splitOn by same_split
name_quick tw15548232759531236198 for String.splitOn by same_split
name_quick tw13261706936674628187 for String.splitOn by same_split
name_quick tw13381251411439493676 for String.splitOn by same_split
name_quick tw2509020472811716534 for String.splitOn by same_split
name_quick tw986269853026090849 for String.splitOn by same_split
name_quick tw17111948838632640456 for String.splitOn by same_split
name_quick tw13573775055126523555 for String.splitOn by same_split
name_quick tw5200128776193632040 for String.splitOn by same_split
name_quick tw18350330562280901221 for String.splitOn by same_split
name_quick tw13759679279233594173 for String.splitOn by same_split
name_quick tw8727135674562949291 for String.splitOn by same_split
name_quick tw14204384831589138817 for String.splitOn by same_split
name_quick tw9380709410254546024 for String.splitOn by same_split
name_quick tw8595292554425487202 for String.splitOn by same_split
name_quick tw43969757491396457 for String.splitOn by same_split
name_quick tw7745614565497352828 for String.splitOn by same_split
name_quick tw10833955939284561965 for String.splitOn by same_split
name_quick tw7299303143086499733 for String.splitOn by same_split
name_quick tw16846860572762119324 for String.splitOn by same_split
name_quick tw14553827428707814869 for String.splitOn by same_split
name_quick tw16548257151911338427 for String.splitOn by same_split
name_quick tw8603108125212654177 for String.splitOn by same_split
name_quick tw9011979029575296479 for String.splitOn by same_split
name_quick tw15112985482279097393 for String.splitOn by same_split
name_quick tw17532440430192770315 for String.splitOn by same_split
name_quick tw13016732220969518872 for String.splitOn by same_split
name_quick tw14884601019740666482 for String.splitOn by same_split
name_quick tw18345786424863182364 for String.splitOn by same_split
name_quick tw8206430501311747189 for String.splitOn by same_split
name_quick tw6589095468515690095 for String.splitOn by same_split
name_quick tw6929956602132211858 for String.splitOn by same_split
name_quick tw14834023430324568649 for String.splitOn by same_split
name_quick tw2719445374943340272 for String.splitOn by same_split
name_quick tw15894407043143930727 for String.splitOn by same_split
name_quick tw11588390666370768167 for String.splitOn by same_split
name_quick tw1377046205977697930 for String.splitOn by same_split
name_quick tw1333364371103165705 for String.splitOn by same_split
name_quick tw17954471519018878134 for String.splitOn by same_split
name_quick tw8860024209350480642 for String.splitOn by same_split
name_quick tw14386061602966655976 for String.splitOn by same_split
name_quick tw5268983451555188008 for String.splitOn by same_split
name_quick tw932993149863042379 for String.splitOn by same_split
name_quick tw11566699232636054958 for String.splitOn by same_split
name_quick tw1355338860687761863 for String.splitOn by same_split
name_quick tw2862820112641550484 for String.splitOn by same_split
name_quick tw10942035263794033107 for String.splitOn by same_split
name_quick tw10996506086634736982 for String.splitOn by same_split
name_quick tw16531745337717519161 for String.splitOn by same_split
name_quick tw682011567655089306 for String.splitOn by same_split
name_quick tw15980859228951719591 for String.splitOn by same_split
name_quick tw13789449189825218787 for String.splitOn by same_split
name_quick tw11788150170368784547 for String.splitOn by same_split
name_quick tw17476080006546285661 for String.splitOn by same_split
name_quick tw8753696776887207221 for String.splitOn by same_split
name_quick tw4090926877573551719 for String.splitOn by same_split
set_option maxRecDepth 100000 in
set_option maxHeartbeats 8000000 in
open_top hd for PySem.Challenge.rw_pq0793_01
end Mine
end
section
open PySem PySem.W PySem.Calls PyProof.Rows
local macro_rules | `(tactic| k_room) => `(tactic| ktr_room)
local macro_rules | `(tactic| walk_at $s:str) => `(tactic| k_extra $s)
section
-- part Base1
open PySem PySem.W PySem.Calls PyProof.Rows
namespace Mine
section
variable {prog : Program} {w : World} {A₀ A : Around} {s : Shared} {base h₀ : Heap} {outer : List Env} {L : Addr} {m mg mb : Str → Option Value} {env : Env} {news : List (Addr × Obj)} {K : Frag} {p : Program} {loose : List Str} {mean : ExcName → Option Value}
  {R : Result → Shared → Prop} {name qual : Str} {params : Arguments} {body : List Stmt} {scope : Scope} {dV kV doc pm cdv ct oc : Value} {an od : Option Addr} {osl : Array (Option Value)} {f : Addr} {args : Args} {binds : List (Str × Value)}
theorem enterG (B : Below A₀ base outer h₀) (F : Fr h₀ L s.heap m) (X₀ : K.In h₀) (N : News h₀ L s.heap news) (T : Top p loose mean mg mb h₀) (hA : A.frames = some (env :: outer)) (hf : env.frame = some L) (hke : env.scope.kind = .function)
    (ho : K.lookup f = some ⟨oc, od, .func (fnOf name qual params body scope dV kV doc pm an cdv ct), osl⟩) (hcd : codeIn K cdv qual = true) (hroom : A.depth < recursionLimit)
    (hbind : BindsTo s (fnOf name qual params body scope dV kV doc pm an cdv ct) args binds) (hloc : ∀ y ∈ binds, scope.names.lookup y.1 = some .local)
    (h : ∀ g L' h₁, (∀ b o, s.heap.get? b = some o → b ∉ news.map (·.1) → g.get? b = some o) → (∀ b o, g.get? b = some o → s.heap.get? b = some o) → Fr h₀ L g m → Fr g L' h₁ (fun y => binds.reverse.lookup y) → News g L' h₁ news → Below A base (env :: outer) g → K.In g → Top p loose mean mg mb g →
      wpAny (model prog w) (A.deeper (envOf qual scope L' f cdv)) (execs body (envOf qual scope L' f cdv))
        (fun fl s' => LeaveK h₀ L m g R (match fl with | .ret v => v | _ => .none) s')
        (fun e s' => wpAny (model prog w) (A.deeper (envOf qual scope L' f cdv)) (leaving (envOf qual scope L' f cdv) e) (fun _ s'' => R (.error e) s'') (fun e' s'' => R (.error e') s'') s')
        { s with heap := h₁, toks := s.toks + binds.length })
    (hco : scope.isCoroutine = false) (hgen : scope.isGenerator = false) (hk : scope.kind = .function)
    (hcell : ∀ x ∈ scope.names, x.2 ≠ .cell) : codeAny (model prog w) A (.call (.ref f) args) R s := by
  obtain ⟨FG, BG, st, lv⟩ := groundX (R := R) B F N hA hf hke
  have X := X₀.keeps F.keep
  refine codeAny_call_def (fd := fnOf name qual params body scope dV kV doc pm an cdv ct) (body := body) (binds := binds) hroom (X _ _ ho) rfl (T.nolimit.keeps F.keep) (codeRec_of X hcd) rfl hbind hcell hloc (fun h₁ hns hk₁ => ?_) hco hgen hk
  exact wpAny_mono (h (hideAll s.heap (news.map (·.1))) s.heap.objs.size h₁ (fun b o e n => hideAll_get _ e n) (fun b o e => of_hideAll _ e) FG ⟨hns, fun b o e => hk₁ b o (of_hideAll _ e), Nat.le_of_eq (hideAll_size _ _)⟩
    (fun q hq => ⟨hk₁ _ _ (N q hq).1, Nat.ne_of_lt (Heap.lt_size (N q hq).1), hideAll_none _ (List.mem_map_of_mem hq)⟩) BG (X₀.keeps fun b o e => st b o e) (T.keeps fun b o e => st b o e)) (fun fl s' hl => lv _ _ hl) fun _ _ y => y
end
end Mine
namespace Mine
noncomputable def Pure (w : World) (d : Nat) (f : Addr) (args : List Value) (P : Heap → Prop) (Out : Heap → Value → Heap → Prop) : Prop :=
  ∀ (mean : ExcName → Option Value) (mg mb : Str → Option Value) (dp un : Nat) (gd : Option (List Code)) (cn : Str) (cs : Scope) (a : Addr) (ccd : Value) (cl : List (Str × Addr)) (outer : List Env) (A₀ : Around) (base h₀ : Heap) (L : Addr) (m : Str → Option Value) (s : Shared) (Q E : Value → Shared → Prop),
    Below A₀ base outer h₀ → Fr h₀ L s.heap m → (hd.heap_39 w.params).In h₀ → Top hd.view_39 (looseW hd.view_39 []) mean mg mb h₀ → cs.kind = .function → dp + d < recursionLimit → un + 10 * d < cLine → P s.heap →
    (∀ r h' tk', (∀ b o, s.heap.get? b = some o → h'.get? b = some o) → Out s.heap r h' → Q r { s with heap := h', toks := tk' }) →
    wpAny (model PySem.Challenge.rw_pq0793_01.row.prog w) (ktrTop dp un gd cn cs L a ccd cl outer) (call (.ref f) args) Q E s
theorem Pure.use {w : World} {d : Nat} {f : Addr} {args : List Value} {P : Heap → Prop} {Out : Heap → Value → Heap → Prop} {mean : ExcName → Option Value} {mg mb : Str → Option Value} {dp un : Nat} {gd : Option (List Code)} {cn : Str} {cs : Scope} {a : Addr} {ccd : Value} {cl : List (Str × Addr)} {outer : List Env} {A₀ : Around} {base h₀ : Heap} {L : Addr} {m : Str → Option Value} {news : List (Addr × Obj)} {s : Shared} {Q E : Value → Shared → Prop}
    (C : Pure w d f args P Out) (B : Below A₀ base outer h₀) (F : Fr h₀ L s.heap m) (X : (hd.heap_39 w.params).In h₀) (N : News h₀ L s.heap news) (T : Top hd.view_39 (looseW hd.view_39 []) mean mg mb h₀) (hk : cs.kind = .function) (hd : dp + d < recursionLimit) (hu : un + 10 * d < cLine) (hP : P s.heap)
    (ret : ∀ r h' tk', Fr h₀ L h' m → News h₀ L h' news → (∀ b o, s.heap.get? b = some o → h'.get? b = some o) → (∀ b o, h'.get? b = some o → s.heap.get? b = none → b ≠ L ∧ h₀.get? b = none) → Out s.heap r h' → Q r { s with heap := h', toks := tk' }) :
    wpAny (model PySem.Challenge.rw_pq0793_01.row.prog w) (ktrTop dp un gd cn cs L a ccd cl outer) (call (.ref f) args) Q E s := by
  refine C _ _ _ _ _ _ _ _ _ _ _ _ _ _ _ _ _ _ _ _ B F X T hk hd hu hP fun r h' tk' st ho => ?_
  obtain ⟨oL, es, ep, hL, hLd, hLk, hLf⟩ := F.ns
  refine ret r h' tk' ⟨⟨oL, es, ep, st _ _ hL, hLd, hLk, hLf⟩, fun b o e => st _ _ (F.keep b o e), F.above⟩ (fun p hp => ⟨st _ _ (N p hp).1, (N p hp).2⟩) st (fun b o e n => ⟨fun q => ?_, ?_⟩) ho
  · rw [q, hL] at n; cases n
  · cases q : h₀.get? b with
    | none => rfl
    | some o' => rw [F.keep _ _ q] at n; cases n
end Mine
end
section
-- part Base2
open PySem PySem.W PySem.Calls PyProof.Rows PySem.Spec
namespace Mine
section
variable {prog : Program} {w : World} {A : Around} {E : Value → Shared → Prop} {s : Shared} {env : Env} {h₀ : Heap} {x : Str} {body : List Stmt} {Q : Flow → Shared → Prop}
noncomputable def JJ (x : Str) (stored : List Str) (m₀ : Str → Option Value) (J : List (Addr × Obj) → Prop) (m' : Str → Option Value) (nx : List (Addr × Obj)) : Prop :=
  (∀ y, y ≠ x → stored.contains y = false → m' y = m₀ y) ∧ J nx
theorem iterG {I ax : Addr} {lo : Obj} {n : Nat} {P : Nat → Value → Prop} {St : Nat → Heap → Prop} {m₀ : Str → Option Value} {news : List (Addr × Obj)} {hp : Heap} {tk0 : Nat} (stored : List Str) (J : Nat → List (Addr × Obj) → Prop)
    (W : Walks prog w A I [I, ax] [I] n P St) (hob : ∀ i h, St i h → ∃ o, h.get? I = some o) (hI0 : h₀.get? I = none) (hIL : env.locals ≠ I) (hnI : ∀ p ∈ news, p.1 < I) (haxL : ax ≠ env.locals)
    (hst : St 0 hp) (F : Fr h₀ env.locals hp m₀) (N : News h₀ env.locals hp news) (hj : J 0 news) (hsrc : ∀ i nx, J i nx → (ax, lo) ∈ nx)
    (turn : ∀ i v (u : Str → Option Value) news₁ h tk o, i < n → P i v → news₁.map (·.1) = news.map (·.1) → (∀ p ∈ news₁, p.1 < I) → J i news₁ → Fr h₀ env.locals h (fun y => if y = x then some v else if stored.contains y then u y else m₀ y) → News h₀ env.locals h ((I, o) :: news₁) →
      wpAny (model prog w) A (execs body env) (InvPostN h₀ env.locals (JJ x stored m₀ (J (i + 1))) [(I, o)] (news.map (·.1)) { s with heap := h, toks := tk } Q) E { s with heap := h, toks := tk })
    (done : ∀ (u : Str → Option Value) news₁ h tk, news₁.map (·.1) = news.map (·.1) → J n news₁ → Fr h₀ env.locals h (fun y => if y = x then u y else if stored.contains y then u y else m₀ y) → News h₀ env.locals h news₁ → Q .next { s with heap := h, toks := tk }) :
    LoopAtV prog w A h₀ env x body Q E (.ref I) { s with heap := hp, toks := tk0 } := by
  let J' : Nat → (Str → Option Value) → List (Addr × Obj) → Prop := fun i m₁ news₁ => news₁.map (·.1) = news.map (·.1) ∧ (∀ y, y ≠ x → stored.contains y = false → m₁ y = m₀ y) ∧ J i news₁
  have wr0 : ∀ b ∈ [I], h₀.get? b = none := fun b hb => by rw [List.mem_singleton.mp hb]; exact hI0
  have offI : ∀ {nx : List (Addr × Obj)}, nx.map (·.1) = news.map (·.1) → ∀ p ∈ nx, p.1 < I := fun e p hp => by
    have h1 : p.1 ∈ news.map (·.1) := e ▸ List.mem_map.mpr ⟨p, hp, rfl⟩
    obtain ⟨q, hq, e'⟩ := List.mem_map.mp h1
    exact e' ▸ hnI q hq
  refine ⟨I, [I, ax], [I], n, P, St, m₀, news, J', rfl, W, ?_, wr0, (fun p hp hI => absurd (hnI p hp) (List.mem_singleton.mp hI ▸ Nat.lt_irrefl _)), hst, F, N, ⟨rfl, fun _ _ _ => rfl, hj⟩, ?_, ?_⟩
  · intro hm'
    rcases List.mem_cons.mp hm' with e | hm'
    · exact hIL e
    · exact haxL (List.mem_singleton.mp hm').symm
  · rintro i v m₁ news₁ s₁ own ⟨hh', tk', rfl⟩ hin hP ⟨hadr, hJm, hJ⟩ hoff hown hget hall hst' F₁ N₁
    obtain ⟨o, ho⟩ := hob _ _ hst'
    have hio : (I, o) ∈ own := hall I (by simp) hI0 o ho
    have e : (fun y => if y = x then some v else m₁ y) = fun y => if y = x then some v else if stored.contains y then m₁ y else m₀ y := by
      funext y
      by_cases h1 : y = x
      · simp [h1]
      · simp only [if_neg h1]
        cases h2 : stored.contains y with
        | true => simp
        | false => simp only [Bool.false_eq_true, if_false]; exact hJm y h1 h2
    rw [e] at F₁
    have N₂ : News h₀ env.locals hh' ((I, o) :: news₁) := fun p hp => by
      rcases List.mem_cons.mp hp with e | hp
      · exact N₁ p (List.mem_append_left _ (e ▸ hio))
      · exact N₁ p (List.mem_append_right _ hp)
    refine wpAny_mono (turn i v m₁ news₁ hh' tk' o hin hP hadr (offI hadr) hJ F₁ N₂) (fun f s₂ p => ?_) fun _ _ e => e
    have fin : InvEndN h₀ env.locals (JJ x stored m₀ (J (i + 1))) [(I, o)] (news.map (·.1)) { s with heap := hh', toks := tk' } s₂ → LoopStepU h₀ env.locals [I] own (J' (i + 1)) { s with heap := hh', toks := tk' } .next s₂ := by
      rintro ⟨h', tk, m', news', nx, e, F', N', hn, ho', ha, hm', hJ'⟩
      refine ⟨rfl, h', tk, m', nx, e, F', fun p hp => ?_, fun p hp hI => absurd (offI ha p hp) (List.mem_singleton.mp hI ▸ Nat.lt_irrefl _), ha, hm', hJ'⟩
      rcases List.mem_append.mp hp with h1 | h1
      · have h2 := N₁ p (List.mem_append_left _ h1)
        rcases List.mem_cons.mp (hown p h1) with e1 | e1
        · have e2 : p = (I, o) := by
            have := h2.1
            rw [e1, ho] at this
            exact Prod.ext e1 (Option.some.inj this).symm
          exact N' p (ho' p (e2 ▸ List.mem_singleton.mpr rfl))
        · have e1 := List.mem_singleton.mp e1
          have h3 := N₁ (ax, lo) (List.mem_append_right _ (hsrc _ _ hJ))
          have e2 : p = (ax, lo) := by
            have := h2.1
            rw [e1, h3.1] at this
            exact Prod.ext e1 (Option.some.inj this).symm
          exact N' p (hn p (e2 ▸ hsrc _ _ hJ'))
      · exact N' p (hn p h1)
    cases f with
    | ret v => exact .ret p
    | brk => exact .brk p
    | next => exact .next (fin p)
    | cont => exact .cont (fin p)
  · rintro h' tk m' news' F' N' _ ⟨ha, hm', hJ⟩
    refine done m' news' h' tk ha hJ ?_ N'
    have e : (fun y => if y = x then m' y else if stored.contains y then m' y else m₀ y) = m' := by
      funext y
      by_cases h1 : y = x
      · simp [h1]
      · simp only [if_neg h1]
        cases h2 : stored.contains y with
        | true => simp
        | false => simp only [Bool.false_eq_true, if_false]; exact (hm' y h1 h2).symm
    rw [e]; exact F'
theorem iterT {ax : Addr} {lo : Obj} {vs : List Value} {n : Nat} {m₀ : Str → Option Value} {news : List (Addr × Obj)} (stored : List Str) (J : List (Addr × Obj) → Nat → List (Addr × Obj) → Prop)
    (hh : A.handled = none) (F : Fr h₀ env.locals s.heap m₀) (N : News h₀ env.locals s.heap news) (hm : (ax, lo) ∈ news) (hc : lo.cls = .type "tuple") (hd : lo.data = .seq vs.toArray n) (hj : J news 0 news) (hsrc : ∀ i nx, J news i nx → (ax, lo) ∈ nx)
    (turn : ∀ i v (u : Str → Option Value) news₁ h tk I o, vs[i]? = some v → news₁.map (·.1) = news.map (·.1) → (∀ p ∈ news₁, p.1 < I) → J news i news₁ → Fr h₀ env.locals h (fun y => if y = x then some v else if stored.contains y then u y else m₀ y) → News h₀ env.locals h ((I, o) :: news₁) →
      wpAny (model prog w) A (execs body env) (InvPostN h₀ env.locals (JJ x stored m₀ (J news (i + 1))) [(I, o)] (news.map (·.1)) { s with heap := h, toks := tk } Q) E { s with heap := h, toks := tk })
    (done : ∀ (u : Str → Option Value) news₁ h tk, news₁.map (·.1) = news.map (·.1) → J news vs.length news₁ → Fr h₀ env.locals h (fun y => if y = x then u y else if stored.contains y then u y else m₀ y) → News h₀ env.locals h news₁ → Q .next { s with heap := h, toks := tk }) :
    wpAny (model prog w) A (pyIter (.ref ax)) (fun it s₂ => LoopAtV prog w A h₀ env x body Q E it s₂) E s := by
  have hax := N _ hm
  have hl : s.heap.IsTuple ax vs.toArray := ⟨lo, hax.1, hc, n, hd⟩
  have hlt : ax < s.heap.objs.size := Heap.lt_size hax.1
  have hne : ax ≠ s.heap.objs.size := Nat.ne_of_lt hlt
  refine wpAny_pyIter_tuple hl ?_
  have W := Walks.tuple (prog := prog) (w := w) hh s.heap.objs.size ax hne vs.toArray
  refine iterG (s := s) (lo := lo) stored (J news) W (fun i h st => ?_) (next_is_new F) (fun e => absurd F.ns.lt (e ▸ Nat.lt_irrefl _)) (fun p hp => Heap.lt_size (N p hp).1) hax.2.1 ?_ (F.push _) (fun p hp => ⟨Heap.get?_push_of_some _ (N p hp).1, (N p hp).2⟩) hj hsrc
    (fun i v u news₁ h tk o _ hP => turn i v u news₁ h tk _ o (by simpa using hP)) (by simpa using done)
  · obtain ⟨o, ho, _⟩ := st.1; exact ⟨o, ho⟩
  · exact ⟨⟨_, Heap.get?_push_size _ rfl, rfl, rfl⟩, hl.at fun o e => Heap.get?_push_of_some _ e⟩
theorem iterL {ax : Addr} {lo : Obj} {vs : List Value} {n : Nat} {m₀ : Str → Option Value} {news : List (Addr × Obj)} (stored : List Str) (J : List (Addr × Obj) → Nat → List (Addr × Obj) → Prop)
    (hh : A.handled = none) (F : Fr h₀ env.locals s.heap m₀) (N : News h₀ env.locals s.heap news) (hm : (ax, lo) ∈ news) (hc : lo.cls = .type "list") (hd : lo.data = .seq vs.toArray n) (hj : J news 0 news) (hsrc : ∀ i nx, J news i nx → (ax, lo) ∈ nx)
    (turn : ∀ i v (u : Str → Option Value) news₁ h tk I o, vs[i]? = some v → news₁.map (·.1) = news.map (·.1) → (∀ p ∈ news₁, p.1 < I) → J news i news₁ → Fr h₀ env.locals h (fun y => if y = x then some v else if stored.contains y then u y else m₀ y) → News h₀ env.locals h ((I, o) :: news₁) →
      wpAny (model prog w) A (execs body env) (InvPostN h₀ env.locals (JJ x stored m₀ (J news (i + 1))) [(I, o)] (news.map (·.1)) { s with heap := h, toks := tk } Q) E { s with heap := h, toks := tk })
    (done : ∀ (u : Str → Option Value) news₁ h tk, news₁.map (·.1) = news.map (·.1) → J news vs.length news₁ → Fr h₀ env.locals h (fun y => if y = x then u y else if stored.contains y then u y else m₀ y) → News h₀ env.locals h news₁ → Q .next { s with heap := h, toks := tk }) :
    wpAny (model prog w) A (pyIter (.ref ax)) (fun it s₂ => LoopAtV prog w A h₀ env x body Q E it s₂) E s := by
  have hax := N _ hm
  have hl : s.heap.IsList ax vs.toArray := ⟨lo, hax.1, hc, n, hd⟩
  have hlt : ax < s.heap.objs.size := Heap.lt_size hax.1
  have hne : ax ≠ s.heap.objs.size := Nat.ne_of_lt hlt
  refine wpAny_pyIter_list hl ?_
  have W := Walks.list (prog := prog) (w := w) hh s.heap.objs.size ax hne vs.toArray
  refine iterG (s := s) (lo := lo) stored (J news) W (fun i h st => ?_) (next_is_new F) (fun e => absurd F.ns.lt (e ▸ Nat.lt_irrefl _)) (fun p hp => Heap.lt_size (N p hp).1) hax.2.1 ?_ (F.push _) (fun p hp => ⟨Heap.get?_push_of_some _ (N p hp).1, (N p hp).2⟩) hj hsrc
    (fun i v u news₁ h tk o _ hP => turn i v u news₁ h tk _ o (by simpa using hP)) (by simpa using done)
  · obtain ⟨o, ho, _⟩ := st.1; exact ⟨o, ho⟩
  · exact ⟨⟨_, Heap.get?_push_size _ rfl, rfl, rfl⟩, hl.at fun o e => Heap.get?_push_of_some _ e⟩
end
end Mine
namespace Mine
section
variable {prog : Program} {w : World} {K : Type} [DecidableEq K] {knd : KeyKind prog w K} {A : Around} {E : Value → Shared → Prop} {s : Shared} {env : Env} {h₀ : Heap} {x : Str} {body : List Stmt} {Q : Flow → Shared → Prop}
theorem iterD {ax : Addr} {lo : Obj} {kvs : List (K × Value)} {m₀ : Str → Option Value} {news : List (Addr × Obj)} (stored : List Str) (J : List (Addr × Obj) → Nat → List (Addr × Obj) → Prop)
    (hh : A.handled = none) (F : Fr h₀ env.locals s.heap m₀) (N : News h₀ env.locals s.heap news) (hm : (ax, lo) ∈ news) (hsys : (ax == sysModules) = false) (hd : lo.IsDictOf knd kvs) (hj : J news 0 news) (hsrc : ∀ i nx, J news i nx → (ax, lo) ∈ nx)
    (turn : ∀ i k y v (u : Str → Option Value) news₁ h tk I o, kvs[i]? = some (k, y) → knd.is k v = true → news₁.map (·.1) = news.map (·.1) → (∀ p ∈ news₁, p.1 < I) → J news i news₁ → Fr h₀ env.locals h (fun y => if y = x then some v else if stored.contains y then u y else m₀ y) → News h₀ env.locals h ((I, o) :: news₁) →
      wpAny (model prog w) A (execs body env) (InvPostN h₀ env.locals (JJ x stored m₀ (J news (i + 1))) [(I, o)] (news.map (·.1)) { s with heap := h, toks := tk } Q) E { s with heap := h, toks := tk })
    (done : ∀ (u : Str → Option Value) news₁ h tk, news₁.map (·.1) = news.map (·.1) → J news kvs.length news₁ → Fr h₀ env.locals h (fun y => if y = x then u y else if stored.contains y then u y else m₀ y) → News h₀ env.locals h news₁ → Q .next { s with heap := h, toks := tk }) :
    wpAny (model prog w) A (pyIter (.ref ax)) (fun it s₂ => LoopAtV prog w A h₀ env x body Q E it s₂) E s := by
  have hax := N _ hm
  obtain ⟨ep, hl⟩ : ∃ ep, s.heap.DictAt knd ax kvs ep := by
    obtain ⟨o, es, ep, h1, h2, h3, h4, h5, h6⟩ := Heap.dictOf_iff.mpr ⟨lo, hax.1, hd⟩
    exact ⟨ep, o, es, h1, h2, h3, h4, h5, h6⟩
  have hlt : ax < s.heap.objs.size := Heap.lt_size hax.1
  have hne : ax ≠ s.heap.objs.size := Nat.ne_of_lt hlt
  refine wpAny_pyIter_dict hsys hl ?_
  have W := Walks.dictKeys (prog := prog) (w := w) (knd := knd) hh s.heap.objs.size ax hne kvs ep
  refine iterG (s := s) (lo := lo) stored (J news) W (fun i h st => ?_) (next_is_new F) (fun e => absurd F.ns.lt (e ▸ Nat.lt_irrefl _)) (fun p hp => Heap.lt_size (N p hp).1) hax.2.1 ?_ (F.push _) (fun p hp => ⟨Heap.get?_push_of_some _ (N p hp).1, (N p hp).2⟩) hj hsrc
    (fun i v u news₁ h tk o _ hP => ?_) done
  · obtain ⟨o, ho, _⟩ := st.1; exact ⟨o, ho⟩
  · exact ⟨⟨_, Heap.get?_push_size _ rfl, rfl, rfl⟩, hl.at' fun o e => Heap.get?_push_of_some _ e⟩
  · obtain ⟨k, y, hk, hv⟩ := hP
    exact turn i k y v u news₁ h tk _ o hk hv
end
end Mine
namespace Mine
theorem keep_of {h₀ g h : Heap} {L' : Addr} {m' : Str → Option Value} (hG : ∀ b o, h₀.get? b = some o → b ∉ ([] : List (Addr × Obj)).map (·.1) → g.get? b = some o) (F : Fr g L' h m') : ∀ b o, h₀.get? b = some o → h.get? b = some o :=
  fun b o e => F.keep b o (hG b o e (by simp))
theorem fresh_of {h₀ g : Heap} {d : Addr} (hG : ∀ b o, h₀.get? b = some o → b ∉ ([] : List (Addr × Obj)).map (·.1) → g.get? b = some o) (e : g.get? d = none) : h₀.get? d = none := by
  cases q : h₀.get? d with
  | none => rfl
  | some o => rw [hG d o q (by simp)] at e; cases e
end Mine
namespace Mine
open PyProof.V
noncomputable def look (tbl : List (Str × Str)) (n : Str) : Option Str := (tbl.find? fun p => decide (p.1 = n)).map (·.2)
noncomputable def dOf (tbl : List (Str × Str)) : List (PyData × PyData) := tbl.map fun p => (PyData.str p.1, PyData.str p.2)
theorem lookup_dOf (n : Str) : ∀ tbl : List (Str × Str), PySem.Spec.lookup (.str n) (dOf tbl) = (look tbl n).map PyData.str
  | [] => rfl
  | p :: r => by
    have ih := lookup_dOf n r
    simp only [dOf, List.map_cons, PySem.Spec.lookup, PyProof.V.same_str, look, List.find?_cons] at ih ⊢
    by_cases e : p.1 = n
    · simp [e]
    · simp only [e, decide_false, Bool.false_eq_true, if_false]; exact ih
section
variable {prog : Program} {w : World} {A : Around} {E : Value → Shared → Prop} {s : Shared} {d : Addr} {tbl : List (Str × Str)} {k : Str} {tk : Tok} {Q : Value → Shared → Prop}
theorem in_look (T : TabAt (strKind prog w) PyData.str s.heap d (dOf tbl)) (h : Q (.bool (look tbl k).isSome) { s with toks := s.toks + 1 }) : wpAny (model prog w) A (compareOp .In (.str k tk) (.ref d)) Q E s :=
  in_tab PyProof.V.same_str (strKind_is _ _ _ _) T (by rw [lookup_dOf, Option.isSome_map]; exact h)
theorem item_look {value slice : PySem.Expr} {v : Str} (T : TabAt (strKind prog w) PyData.str s.heap d (dOf tbl)) (hl : look tbl k = some v) (h : ∀ t, Q (.str v t) { s with toks := s.toks + 1 })
    (hs : subscripted slice false (.ref d) (.str k tk) = operate [.ref d, .str k tk] (getItem (.ref d) (.str k tk)) := by with_unfolding_all rfl) (hg : ∀ r, letTemporaryGo value (.ref d) r = pure () := by intro _; with_unfolding_all rfl) :
    wpAny (model prog w) A (subscriptTail value slice (.ref d) (.str k tk)) Q E s :=
  item_tab PyProof.V.same_str (strKind_is _ _ _ _) T (by rw [lookup_dOf, hl]; rfl) (fun v hv => by obtain ⟨t, rfl⟩ := hv.str_inv; exact h t) hs hg
theorem get_look {dflt : Str} {td : Tok} (T : TabAt (strKind prog w) PyData.str s.heap d (dOf tbl)) (h : ∀ t, Q (.str ((look tbl k).getD dflt) t) { s with toks := s.toks + 1 }) : wpAny (model prog w) A (call (.builtin "dict.get") [.ref d, .str k tk, .str dflt td]) Q E s :=
  call_get2_tab PyProof.V.same_str (strKind_is _ _ _ _) T (Flat.str _ _) (fun v hv => by
    rw [lookup_dOf] at hv
    cases hl : look tbl k with
    | none => rw [hl] at hv h; obtain ⟨t, rfl⟩ := Flat.str_inv hv; exact h t
    | some x => rw [hl] at hv h; obtain ⟨t, rfl⟩ := Flat.str_inv hv; exact h t)
end
theorem news_add {h₀ h h' : Heap} {L d : Addr} {o : Obj} {news : List (Addr × Obj)} (N : News h₀ L h' news) (fr : ∀ b o, h'.get? b = some o → h.get? b = none → b ≠ L ∧ h₀.get? b = none) (hget : h'.get? d = some o) (hn : h.get? d = none) : News h₀ L h' ((d, o) :: news) := fun p hp => by
  rcases List.mem_cons.mp hp with rfl | hp
  · exact ⟨hget, fr _ _ hget hn⟩
  · exact N p hp
theorem some_of {α : Type} {o : Option α} (h : o.isSome = true) : ∃ v, o = some v := Option.isSome_iff_exists.mp h
theorem findSome_at {α β : Type} {f : α → Option β} {r : β} : ∀ {l : List α} {i : Nat} {a : α}, (∀ j, j < i → ∀ b, l[j]? = some b → f b = none) → l[i]? = some a → f a = some r → l.findSome? f = some r
  | [], _, _, _, ha, _ => by cases ha
  | x :: l, 0, a, _, ha, hr => by cases ha; simp [hr]
  | x :: l, i + 1, a, h, ha, hr => by
    rw [List.findSome?_cons, h 0 (Nat.zero_lt_succ _) x rfl]
    exact findSome_at (fun j hj b hb => h (j + 1) (Nat.succ_lt_succ hj) b hb) ha hr
theorem findSome_end {α β : Type} {f : α → Option β} {l : List α} (h : ∀ j, j < l.length → ∀ b, l[j]? = some b → f b = none) : l.findSome? f = none := by
  rw [List.findSome?_eq_none_iff]
  intro x hx
  obtain ⟨j, hj, e⟩ := List.getElem_of_mem hx
  exact h j hj x (by rw [List.getElem?_eq_getElem hj, e])
noncomputable def SearchJ {β : Type} (l : List Str) (f : Str → Option β) (news : List (Addr × Obj)) (i : Nat) (nx : List (Addr × Obj)) : Prop := nx = news ∧ ∀ j, j < i → ∀ b, l[j]? = some b → f b = none
theorem SearchJ.step {β : Type} {l : List Str} {f : Str → Option β} {news nx : List (Addr × Obj)} {i : Nat} {st : Str} (h : SearchJ l f news i nx) (hs : l[i]? = some st) (e : f st = none) : ∀ j, j < i + 1 → ∀ b, l[j]? = some b → f b = none := fun j hj b hb => by
  rcases Nat.lt_succ_iff_lt_or_eq.mp hj with h1 | rfl
  · exact h.2 j h1 b hb
  · rw [hs] at hb; cases hb; exact e
end Mine
namespace Mine
structure SearchFor {β : Type} (l : List Str) (f : Str → Option β) : Prop where
  short : ∀ st ∈ l, st.length ≤ 8
noncomputable def StrVals : List Value → List Str → Prop
  | [], [] => True
  | .str x _ :: r, y :: l => x = y ∧ StrVals r l
  | _, _ => False
theorem StrVals.at : ∀ {vs : List Value} {l : List Str}, StrVals vs l → ∀ {i : Nat} {v : Value}, vs[i]? = some v → ∃ st t, v = .str st t ∧ l[i]? = some st
  | [], [], _, i, v, e => by cases e
  | .str x t :: r, y :: l, ⟨h1, h2⟩, 0, v, e => by cases e; exact ⟨x, t, rfl, by rw [h1]; rfl⟩
  | .str x t :: r, y :: l, ⟨h1, h2⟩, i + 1, v, e => by
    obtain ⟨st, t', a, b⟩ := StrVals.at h2 (i := i) (v := v) (by simpa using e)
    exact ⟨st, t', a, by simpa using b⟩
theorem StrVals.length : ∀ {vs : List Value} {l : List Str}, StrVals vs l → vs.length = l.length
  | [], [], _ => rfl
  | .str _ _ :: _, _ :: _, ⟨_, h2⟩ => by rw [List.length_cons, List.length_cons, StrVals.length h2]
section
variable {prog : Program} {w : World} {A : Around} {E : Value → Shared → Prop} {s : Shared} {env : Env} {h₀ : Heap} {x : Str} {body : List Stmt} {Q : Flow → Shared → Prop} {β : Type} {l : List Str} {f : Str → Option β}
theorem iterS {ax : Addr} {lo : Obj} {vs : List Value} {n : Nat} {m₀ : Str → Option Value} {news : List (Addr × Obj)} (hS : SearchFor l f)
    (hh : A.handled = none) (F : Fr h₀ env.locals s.heap m₀) (N : News h₀ env.locals s.heap news) (hm : (ax, lo) ∈ news) (hc : lo.cls = .type "tuple") (hd : lo.data = .seq vs.toArray n) (hv : StrVals vs l)
    (turn : ∀ i st t (u : Str → Option Value) h tk I o, l[i]? = some st → st.length ≤ 8 → (∀ p ∈ news, p.1 < I) → SearchJ l f news i news → Fr h₀ env.locals h (fun y => if y = x then some (.str st t) else if ([] : List Str).contains y then u y else m₀ y) → News h₀ env.locals h ((I, o) :: news) →
      wpAny (model prog w) A (execs body env) (InvPostN h₀ env.locals (JJ x [] m₀ (SearchJ l f news (i + 1))) [(I, o)] (news.map (·.1)) { s with heap := h, toks := tk } Q) E { s with heap := h, toks := tk })
    (done : ∀ (u : Str → Option Value) h tk, l.findSome? f = none → Fr h₀ env.locals h (fun y => if y = x then u y else if ([] : List Str).contains y then u y else m₀ y) → News h₀ env.locals h news → Q .next { s with heap := h, toks := tk }) :
    wpAny (model prog w) A (pyIter (.ref ax)) (fun it s₂ => LoopAtV prog w A h₀ env x body Q E it s₂) E s := by
  refine iterT [] (SearchJ l f) hh F N hm hc hd ⟨rfl, fun j hj => absurd hj (Nat.not_lt_zero _)⟩ (fun i nx h => h.1 ▸ hm) ?_ ?_
  · intro i v u news₁ h tk I o hvi _ hlt hJ F₁ N₁
    obtain ⟨st, t, rfl, hst⟩ := hv.at hvi
    obtain rfl := hJ.1
    exact turn i st t u h tk I o hst (hS.short _ (List.mem_of_getElem? hst)) hlt hJ F₁ N₁
  · intro u news₁ h tk _ hJ F₁ N₁
    obtain rfl := hJ.1
    exact done u h tk (findSome_end (hv.length ▸ hJ.2)) F₁ N₁
theorem endS {L : Addr} {I : Addr} {o : Obj} {m₀ m' : Str → Option Value} {news news' : List (Addr × Obj)} {i : Nat} {st : Str} {s₁ : Shared} {h' : Heap} {tk : Nat} (hJ : SearchJ l f news i news) (hst : l[i]? = some st) (F : Fr h₀ L h' m') (N : News h₀ L h' news')
    (hsub : ∀ p ∈ (I, o) :: news, p ∈ news') (hm : ∀ y, y ≠ x → m' y = m₀ y) (e : f st = none) : InvEndN h₀ L (JJ x [] m₀ (SearchJ l f news (i + 1))) [(I, o)] (news.map (·.1)) s₁ { s₁ with heap := h', toks := tk } :=
  InvEndN.intro (nx := news) F N ⟨fun y h1 _ => hm y h1, rfl, hJ.step hst e⟩ rfl (fun p hp => hsub p (.tail _ hp)) (fun p hp => hsub p (by rw [List.mem_singleton.mp hp]; exact .head _))
end
end Mine
namespace Mine
theorem look_mem {tbl : List (Str × Str)} {k v : Str} (h : look tbl k = some v) : (k, v) ∈ tbl := by
  unfold look at h
  obtain ⟨p, hp, rfl⟩ := Option.map_eq_some_iff.mp h
  have h1 := List.find?_some hp
  have h2 := List.mem_of_find?_eq_some hp
  have : p.1 = k := by simpa using h1
  exact this ▸ h2
theorem look_len {tbl : List (Str × Str)} {k v : Str} (h : look tbl k = some v) (ht : ∀ p ∈ tbl, p.2.length ≤ 16) : v.length ≤ 16 := ht _ (look_mem h)
end Mine
end
section
-- part Pairs
open PySem PySem.W PySem.Calls PyProof.Rows PyProof.V PySem.Spec
namespace Mine
noncomputable def putAll (tbl : List (Str × Str)) : List (PyData × PyData) := tbl.foldl (fun D p => putD (.str p.1) (.str p.2) D) []
theorem putAll_snoc (tbl : List (Str × Str)) (p : Str × Str) : putAll (tbl ++ [p]) = putD (.str p.1) (.str p.2) (putAll tbl) := by simp [putAll]
theorem putAll_length (tbl : List (Str × Str)) : (putAll tbl).length ≤ tbl.length := by
  suffices h : ∀ (tbl : List (Str × Str)) D, (tbl.foldl (fun D p => putD (.str p.1) (.str p.2) D) D).length ≤ D.length + tbl.length by simpa [putAll] using h tbl []
  intro tbl
  induction tbl with
  | nil => intro D; simp
  | cons p r ih => intro D; rw [List.foldl_cons, List.length_cons]; have := ih (putD (.str p.1) (.str p.2) D); have := putD_length_le (.str p.1) (.str p.2) D; omega
noncomputable def DictOut (w : World) (D : List (PyData × PyData)) (h : Heap) (r : Value) (h' : Heap) : Prop :=
  ∃ d o kvs, r = .ref d ∧ h'.get? d = some o ∧ h.get? d = none ∧ (d == sysModules) = false ∧ o.IsDictOf (strKind PySem.Challenge.rw_pq0793_01.row.prog w) kvs ∧ FlatPairs PyData.str kvs D
noncomputable def PairsJ (w : World) (tbl : List (Str × Str)) (news : List (Addr × Obj)) (i : Nat) (nx : List (Addr × Obj)) : Prop :=
  ∃ ax lo d o₀ o kvs, news = [(ax, lo), (d, o₀)] ∧ nx = [(ax, lo), (d, o)] ∧ o.IsDictOf (strKind PySem.Challenge.rw_pq0793_01.row.prog w) kvs ∧ FlatPairs PyData.str kvs (putAll (tbl.take i))
theorem lines_Pairs_1 : True := by
  w_top off
  k_with_none
  k_with "call builtin:str.split" => (k_here; (with_reducible show wpAny _ _ (call (Value.builtin "str.split") [Value.str _ _, Value.str _ _]) _ _ _); (rename (Txt.split _ _ = _) => hsp'); (refine KSpl.split1 (by k_asm) (by k_asm) (by decide) ?_ (by rw [sizeLine_eq]; omega)); intro D' l' h' k' e' a' F' N' l1; (try k_lt l1); (rw [hsp'] at e'); (try (kspl_open e'; simp only [strValues, List.map_cons, List.map_nil] at N' a')))
  k_with "setItem ref str" => (k_here; k_dflt (refine' setItem_K PyProof.V.same_str (strKind_is _ _ _ _) ?qq2v ?qq2F ?qq2N ?qq2U ?qq2d ?qq2f ?_ ?qq2z; (case qq2F => k_asm); (case qq2N => k_asm); (case qq2U => k_updF); (case qq2d => k_asm); (case qq2f => k_asm); (case qq2z => assumption); (case qq2v => k_flat)); intro h' o' F' N' hd' hf'; (try dsimp only at N'))
  trivial
set_option maxRecDepth 100000 in
set_option maxHeartbeats 8000000 in
theorem pairs_of_c (w : World) (text : Str) (tk : Tok) (ws : List Str) (tbl : List (Str × Str)) (hws : Txt.split text (Str.ofString " ") = ws) (htx : text.length ≤ 1000) (hsp : ws.map (fun x => Txt.split x (Str.ofString ":")) = tbl.map fun p => [p.1, p.2]) (hwl : ∀ x ∈ ws, x.length ≤ 1000) (htl : tbl.length ≤ 1000) :
    Pure w 4 28 [.str text tk] (fun _ => True) (DictOut w (putAll tbl)) := by
  unfold Pure
  k_fill
  intro mean mg mb dp un gd cn cs a ccd cl outer A₀ base h₀ L m s Q E B F X T hk hd hu hP hret
  refine wpAny_call ?_
  k_dflt (refine' enterG (binds := [(Str.ofString "text", Value.str text tk)]) ?k1 ?k2 ?k3 News.nil ?k5 ?kA ?kF ?kK ?k6 ?k7 ?k8 ?k9 ?kB ?_ ?c2 ?c3 ?c4 ?c5; (case kA => exact rfl); (case kF => exact rfl); (case kK => assumption); (case k1 => k_asm); (case k2 => k_asm); (case k3 => k_asm); (case k5 => k_asm); (case k6 => k_is); (case k7 => k_is); (case k8 => ktr_room); (case k9 => exact BindsTo.of_eq rfl); (case c5 => decide); (case kB => exact locs rfl); (case c2 => exact rfl); (case c3 => exact rfl); (case c4 => exact rfl); k_whole; intro g' L' h' hG hG2 FG' F' N' B' X' T'; (try dsimp only); (try k_lift B'); (try k_fold))
  k_steps
  rename (News _ _ _ [(_, _), (_, _)]) => N1
  rename (Obj.IsDictOf (PySem.strKind _ _) _ _) => hd1
  rename (FlatPairs PyData.str _ _) => hf1
  rename ((_ == sysModules) = false) => hsys
  rename (List.map _ _ = ws) => hl1
  (rename Fr _ _ _ _ => F1)
  with_unfolding_all refine' iterL [Str.ofString "key", Str.ofString "value"] (PairsJ w tbl) ?hh F1 N1 (.head _) rfl rfl ?hj ?src ?turn ?done
  case hh => rfl
  case hj => exact ⟨_, _, _, _, _, _, rfl, rfl, hd1, (show putAll (tbl.take 0) = [] from rfl) ▸ hf1⟩
  case src => rintro i nx ⟨_, _, _, _, _, _, e, rfl, _⟩; cases e; exact .head _
  case turn =>
    intro i v u news₁ h tk I oI hv hadr hI hJ F2 N2
    obtain ⟨_, _, _, _, o, kvs, e, rfl, hdO, hfO⟩ := hJ
    cases e
    obtain ⟨wd, tw, rfl, hwd, p, hp, hspl⟩ : ∃ wd t, v = .str wd t ∧ wd.length ≤ 1000 ∧ ∃ p, tbl[i]? = some p ∧ Txt.split wd (Str.ofString ":") = [p.1, p.2] := by
      have hv' : (strValues _)[i]? = some v := hv
      rw [strValues, List.getElem?_map] at hv'
      cases hl : (_ : List (Str × Tok))[i]? with
      | none => rw [hl] at hv'; cases hv'
      | some q =>
        rw [hl] at hv'
        obtain rfl := (Option.some.inj hv').symm
        have h1 : ws[i]? = some q.1 := by rw [← hl1, List.getElem?_map, hl]; rfl
        have h2 := congrArg (fun l => l[i]?) hsp
        simp only [List.getElem?_map, h1, Option.map_some] at h2
        cases h3 : tbl[i]? with
        | none => rw [h3] at h2; cases h2
        | some p => rw [h3] at h2; exact ⟨q.1, q.2, rfl, hwl _ (List.mem_of_getElem? h1), p, rfl, Option.some.inj h2⟩
    k_lt hI
    have hDl : (putAll (tbl.take i)).length ≤ sizeLine := by
      rw [sizeLine_eq]
      have := putAll_length (tbl.take i)
      rw [List.length_take] at this
      omega
    (try k_fold)
    k_steps
    rename (Obj.IsDictOf _ _ (PySem.stored _ _ _)) => hdZ
    rename (FlatPairs _ (PySem.stored _ _ _) _) => hfZ
    refine InvEndN.intro (nx := [(_, _), (_, _)]) (by assumption) (by assumption) ⟨?_, _, _, _, _, _, _, rfl, rfl, hdZ, ?_⟩ rfl ?_ ?_
    · intro y h1 h2
      simp only [List.contains_cons, List.contains_nil, Bool.or_eq_false_iff, beq_eq_false_iff_ne, ne_eq, Bool.or_false] at h2
      simp [h1, h2]
    · rw [List.take_add_one, hp]
      simp only [Option.toList_some, putAll_snoc]
      exact hfZ
    · k_sub
    · k_sub
  case done =>
    intro u news₁ h tk hadr hJ F2 N2
    obtain ⟨_, _, _, _, o, kvs, e, rfl, hdO, hfO⟩ := hJ
    cases e
    (try dsimp only)
    (try k_fold)
    k_steps
    have hfin : ∀ l : List (Str × Tok), l.map (·.1) = ws → tbl.take (strValues l).length = tbl := by
      intro l e
      rw [strValues, List.length_map, ← List.length_map (f := (·.1)), e]
      have h4 := congrArg List.length hsp
      simp only [List.length_map] at h4
      rw [h4, List.take_length]
    have hN := N2 _ (.tail _ (.head _))
    exact hret _ _ _ (keep_of hG F2) ⟨_, _, _, rfl, hN.1, fresh_of hG hN.2.2, hsys, hdO, hfin _ hl1 ▸ hfO⟩
end Mine
end
section
-- part CanonA
open PySem PySem.W PySem.Calls PyProof.Rows PyProof.V PySem.Spec
namespace Mine
noncomputable def othersT : List (Str × Str) := [(Str.ofString "sal", Str.ofString "shl"), (Str.ofString "loopz", Str.ofString "loope"), (Str.ofString "loopnz", Str.ofString "loopne"), (Str.ofString "repe", Str.ofString "rep"), (Str.ofString "repz", Str.ofString "rep"), (Str.ofString "repnz", Str.ofString "repne")]
noncomputable def aliasT : List (Str × Str) := [(Str.ofString "c", Str.ofString "b"), (Str.ofString "nae", Str.ofString "b"), (Str.ofString "nb", Str.ofString "ae"), (Str.ofString "nc", Str.ofString "ae"), (Str.ofString "z", Str.ofString "e"), (Str.ofString "nz", Str.ofString "ne"), (Str.ofString "na", Str.ofString "be"), (Str.ofString "nbe", Str.ofString "a"), (Str.ofString "pe", Str.ofString "p"), (Str.ofString "po", Str.ofString "np"), (Str.ofString "nge", Str.ofString "l"), (Str.ofString "nl", Str.ofString "ge"), (Str.ofString "ng", Str.ofString "le"), (Str.ofString "nle", Str.ofString "g")]
set_option maxRecDepth 100000 in
set_option maxHeartbeats 8000000 in
theorem pairs_others (w : World) (tk : Tok) : Pure w 4 28 [.str (Str.ofString "sal:shl loopz:loope loopnz:loopne repe:rep repz:rep repnz:repne") tk] (fun _ => True) (DictOut w (dOf othersT)) := by
  have h := pairs_of_c w (Str.ofString "sal:shl loopz:loope loopnz:loopne repe:rep repz:rep repnz:repne") tk ([Str.ofString "sal:shl", Str.ofString "loopz:loope", Str.ofString "loopnz:loopne", Str.ofString "repe:rep", Str.ofString "repz:rep", Str.ofString "repnz:repne"]) othersT (by decide +kernel) (by decide +kernel) (by decide +kernel) (by decide +kernel) (by decide +kernel)
  rwa [show putAll othersT = dOf othersT from by kernel_rfl] at h
set_option maxRecDepth 100000 in
set_option maxHeartbeats 8000000 in
theorem pairs_aliases (w : World) (tk : Tok) : Pure w 4 28 [.str (Str.ofString "c:b nae:b nb:ae nc:ae z:e nz:ne na:be nbe:a pe:p po:np nge:l nl:ge ng:le nle:g") tk] (fun _ => True) (DictOut w (dOf aliasT)) := by
  have h := pairs_of_c w (Str.ofString "c:b nae:b nb:ae nc:ae z:e nz:ne na:be nbe:a pe:p po:np nge:l nl:ge ng:le nle:g") tk ([Str.ofString "c:b", Str.ofString "nae:b", Str.ofString "nb:ae", Str.ofString "nc:ae", Str.ofString "z:e", Str.ofString "nz:ne", Str.ofString "na:be", Str.ofString "nbe:a", Str.ofString "pe:p", Str.ofString "po:np", Str.ofString "nge:l", Str.ofString "nl:ge", Str.ofString "ng:le", Str.ofString "nle:g"]) aliasT (by decide +kernel) (by decide +kernel) (by decide +kernel) (by decide +kernel) (by decide +kernel)
  rwa [show putAll aliasT = dOf aliasT from by kernel_rfl] at h
end Mine
end
section
-- part CanonB
open PySem PySem.W PySem.Calls PyProof.Rows PyProof.V PySem.Spec
namespace Mine
noncomputable def stems : List Str := [Str.ofString "j", Str.ofString "set", Str.ofString "cmov"]
noncomputable def canonStem (n st : Str) : Option Str := if Txt.slice n none (some (st.length : Int)) = st then (look aliasT (Txt.slice n (some (st.length : Int)) none)).map (st ++ ·) else none
noncomputable def canon (n : Str) : Str := match look othersT n with
  | some v => v
  | none => (stems.findSome? (canonStem n)).getD n
section
variable {n st v : Str} {news nx : List (Addr × Obj)} {i : Nat}
theorem canon_1 (h : look othersT n = some v) : v = canon n := by unfold canon; rw [h]
theorem canon_3 (h : (look othersT n).isSome = false) (hE : stems.findSome? (canonStem n) = none) : n = canon n := by
  unfold canon
  cases e : look othersT n with
  | none => simp [hE]
  | some v => rw [e] at h; cases h
theorem canon_2 (h : (look othersT n).isSome = false) (hJ : SearchJ stems (canonStem n) news i nx) (hst : stems[i]? = some st) (h1 : (Txt.slice n none (some (st.length : Int)) == st) = true) (hv : look aliasT (Txt.slice n (some (st.length : Int)) none) = some v) : st ++ v = canon n := by
  have e := findSome_at hJ.2 hst (r := st ++ v) (by unfold canonStem; rw [if_pos (by simpa using h1), hv]; rfl)
  unfold canon
  cases e' : look othersT n with
  | none => simp [e]
  | some v => rw [e'] at h; cases h
theorem canonStem_none1 (h1 : (Txt.slice n none (some (st.length : Int)) == st) = false) : canonStem n st = none := by unfold canonStem; rw [if_neg (by simpa using h1)]
theorem canonStem_none2 (h1 : (look aliasT (Txt.slice n (some (st.length : Int)) none)).isSome = false) : canonStem n st = none := by
  unfold canonStem
  split
  · cases e : look aliasT (Txt.slice n (some (st.length : Int)) none) with
    | none => rfl
    | some v => rw [e] at h1; cases h1
  · rfl
end
local macro_rules | `(tactic| walk_at "pyIter ref") => `(tactic| (k_here; (with_reducible show wpAny _ _ (pyIter (Value.ref _)) (fun it s₂ => LoopAtV _ _ _ _ _ _ _ _ _ it s₂) _ _); (rename SearchFor _ _ => hS'); (rename Fr _ _ _ _ => lF'); (rename News _ _ _ _ => lN'); k_dflt ((with_unfolding_all refine iterS hS' (by rfl) lF' lN' (by k_mem) (by rfl) (by rfl) (by exact ⟨rfl, rfl, rfl, True.intro⟩) (fun i' st' t' u' h' tk' I' o' hst' hln' hlt' hJ' F' N' => ?_) (fun u' h' tk' hE' F' N' => ?_)) <;> ((clear lF' lN'); (try k_lt hlt'); (try dsimp only); (try k_fold)))))
theorem lines_CanonB_1 : True := by
  w_top off
  k_with_none
  k_with "call ref" => (k_here; (with_reducible show wpAny _ _ (call (Value.ref 28) _) _ _ _); k_dflt ((first | refine' Pure.use (pairs_others _ _) ?qq3B ?qq3F ?qq3X ?qq3N ?qq3T ?qq3k ?qq3d ?qq3u True.intro ?_ | refine' Pure.use (pairs_aliases _ _) ?qq3B ?qq3F ?qq3X ?qq3N ?qq3T ?qq3k ?qq3d ?qq3u True.intro ?_); (case qq3B => k_asm); (case qq3F => k_asm); (case qq3X => k_asm); (case qq3N => k_asm); (case qq3T => k_asm); (case qq3k => first | rfl | assumption); (case qq3d => ktr_room); (case qq3u => ktr_units); intro r9 h9 tk9 F9 N9 st9 fr9 hO9; obtain ⟨d9, o9, kvs9, hr9, hget9, hnone9, hsys9, hdo9, hfp9⟩ := hO9; subst hr9; replace N9 := news_add N9 fr9 hget9 hnone9; clear fr9 st9; (try dsimp only); (try k_fold)))
  k_with "compareOp In str ref" => (k_here; k_dflt (refine' in_look ?qq4T ?_; (case qq4T => k_tabat); k_whole))
  k_with "subscriptTail" => (k_here; (with_reducible show wpAny _ _ (subscriptTail _ _ (Value.ref _) (Value.str _ _)) _ _ _); (rename (Option.isSome (look _ _) = true) => hs9); obtain ⟨v9, hv9⟩ := some_of hs9; (have hvl9 := look_len hv9 (by decide +kernel)); k_dflt (refine' item_look ?qq5T hv9 ?_; (case qq5T => k_tabat); k_whole; intro t9))
  k_with "exec For Name Tuple cons nil" => (k_here; (rename SearchFor _ _ => hS'); (rename Fr _ _ _ _ => lF'); k_dflt (with_unfolding_all refine' For_invVF lF' ?qq6k1 ?qq6k2 ?_; (case qq6k1 => exact rfl); (case qq6k2 => exact rfl); k_whole))
  trivial
set_option maxRecDepth 100000 in
set_option maxHeartbeats 8000000 in
theorem canonical_c (w : World) (nm : Str) (tk : Tok) (hlen : nm.length ≤ 1000) :
    Pure w 10 35 [.str nm tk] (fun _ => True) (fun _ r _ => ∃ t, r = .str (canon nm) t) := by
  unfold Pure
  k_fill
  intro mean mg mb dp un gd cn cs a ccd cl outer A₀ base h₀ L m s Q E B F X T hk hd hu hP hret
  refine wpAny_call ?_
  k_dflt (refine' enterG (binds := [(Str.ofString "name", Value.str nm tk)]) ?k1 ?k2 ?k3 News.nil ?k5 ?kA ?kF ?kK ?k6 ?k7 ?k8 ?k9 ?kB ?_ ?c2 ?c3 ?c4 ?c5; (case kA => exact rfl); (case kF => exact rfl); (case kK => assumption); (case k1 => k_asm); (case k2 => k_asm); (case k3 => k_asm); (case k5 => k_asm); (case k6 => k_is); (case k7 => k_is); (case k8 => ktr_room); (case k9 => exact BindsTo.of_eq rfl); (case c5 => decide); (case kB => exact locs rfl); (case c2 => exact rfl); (case c3 => exact rfl); (case c4 => exact rfl); k_whole; intro g' L' h' hG hG2 FG' F' N' B' X' T'; (try dsimp only); (try k_lift B'); (try k_fold))
  have hSF : SearchFor stems (canonStem nm)   := ⟨by decide +kernel⟩
  k_steps
  all_goals first
    | exact hret _ _ _ (keep_of hG (by assumption)) ⟨_, congrArg (fun x => Value.str x _) (canon_1 (by assumption))⟩
    | exact hret _ _ _ (keep_of hG (by assumption)) ⟨_, congrArg (fun x => Value.str x _) (canon_2 (by assumption) (by assumption) (by assumption) (by assumption) (by assumption))⟩
    | exact hret _ _ _ (keep_of hG (by assumption)) ⟨_, congrArg (fun x => Value.str x _) (canon_3 (by assumption) (by assumption))⟩
    | (refine endS (by assumption) (by assumption) (by assumption) (by assumption) (by k_sub) ?_ ?_; (intro y h1; simp [h1]); first | exact canonStem_none1 (by assumption) | exact canonStem_none2 (by assumption))
end Mine
end
section
-- part CondA
open PySem PySem.W PySem.Calls PyProof.Rows PyProof.V PySem.Spec
namespace Mine
noncomputable def condsL : List Str := [(PySem.Str.mk #[111]), (PySem.Str.mk #[110, 111]), (PySem.Str.mk #[98]), (PySem.Str.mk #[97, 101]), (PySem.Str.mk #[101]), (PySem.Str.mk #[110, 101]), (PySem.Str.mk #[98, 101]), (PySem.Str.mk #[97]), (PySem.Str.mk #[115]), (PySem.Str.mk #[110, 115]), (PySem.Str.mk #[112]), (PySem.Str.mk #[110, 112]), (PySem.Str.mk #[108]), (PySem.Str.mk #[103, 101]), (PySem.Str.mk #[108, 101]), (PySem.Str.mk #[103])]
noncomputable def ListOut (L : List Str) (h : Heap) (r : Value) (h' : Heap) : Prop := ∃ l vs, r = .ref l ∧ h'.get? l = some (listOf vs.toArray 0) ∧ h.get? l = none ∧ StrsAre vs L
theorem lines_CondA_1 : True := by
  w_top off
  k_with_none
  trivial
set_option maxRecDepth 100000 in
set_option maxHeartbeats 8000000 in
theorem condition_names_c (w : World) : Pure w 3 49 [] (fun _ => True) (ListOut condsL) := by
  unfold Pure
  k_fill
  intro mean mg mb dp un gd cn cs a ccd cl outer A₀ base h₀ L m s Q E B F X T hk hd hu hP hret
  refine wpAny_call ?_
  k_dflt (refine' enterG (binds := []) ?k1 ?k2 ?k3 News.nil ?k5 ?kA ?kF ?kK ?k6 ?k7 ?k8 ?k9 ?kB ?_ ?c2 ?c3 ?c4 ?c5; (case kA => exact rfl); (case kF => exact rfl); (case kK => assumption); (case k1 => k_asm); (case k2 => k_asm); (case k3 => k_asm); (case k5 => k_asm); (case k6 => k_is); (case k7 => k_is); (case k8 => ktr_room); (case k9 => exact BindsTo.of_eq rfl); (case c5 => decide); (case kB => exact locs rfl); (case c2 => exact rfl); (case c3 => exact rfl); (case c4 => exact rfl); k_whole; intro g' L' h' hG hG2 FG' F' N' B' X' T'; (try dsimp only); (try k_lift B'); (try k_fold))
  k_steps
  rename (StrsAre _ _) => hA
  rename (News g' _ _ _) => N1
  have hN := N1 _ (.head _)
  exact hret _ _ _ (keep_of hG (by assumption)) ⟨_, _, rfl, hN.1, fresh_of hG hN.2.2, hA⟩
end Mine
end
section
-- part CondB
open PySem PySem.W PySem.Calls PyProof.Rows PyProof.V PySem.Spec
namespace Mine
noncomputable def condStem (n st : Str) : Option Str := if Txt.startswith n st = true ∧ (condsL.any fun x => x == Txt.slice n (some (st.length : Int)) none) = true then some (Txt.slice n (some (st.length : Int)) none) else none
noncomputable def condOf (n : Str) : Str := (stems.findSome? (condStem n)).getD (Str.ofString "")
section
variable {n st : Str} {news nx : List (Addr × Obj)} {i : Nat}
theorem cond_1 (hJ : SearchJ stems (condStem n) news i nx) (hst : stems[i]? = some st) (h1 : Txt.startswith n st = true) (h2 : (condsL.any fun x => x == Txt.slice n (some (st.length : Int)) none) = true) : Txt.slice n (some (st.length : Int)) none = condOf n := by
  have e := findSome_at hJ.2 hst (r := Txt.slice n (some (st.length : Int)) none) (by unfold condStem; rw [if_pos ⟨h1, h2⟩])
  unfold condOf; rw [e]; rfl
theorem cond_2 (hE : stems.findSome? (condStem n) = none) : Str.ofString "" = condOf n := by unfold condOf; rw [hE]; rfl
theorem condStem_none1 (h1 : Txt.startswith n st = false) : condStem n st = none := by unfold condStem; rw [if_neg (by rw [h1]; exact fun h => absurd h.1 Bool.false_ne_true)]
theorem condStem_none2 (h1 : (condsL.any fun x => x == Txt.slice n (some (st.length : Int)) none) = false) : condStem n st = none := by unfold condStem; rw [if_neg (by rw [h1]; exact fun h => absurd h.2 Bool.false_ne_true)]
end
local macro_rules | `(tactic| walk_at "pyIter ref") => `(tactic| (k_here; (with_reducible show wpAny _ _ (pyIter (Value.ref _)) (fun it s₂ => LoopAtV _ _ _ _ _ _ _ _ _ it s₂) _ _); (rename SearchFor _ _ => hS'); (rename Fr _ _ _ _ => lF'); (rename News _ _ _ _ => lN'); k_dflt ((with_unfolding_all refine iterS hS' (by rfl) lF' lN' (by k_mem) (by rfl) (by rfl) (by exact ⟨rfl, rfl, rfl, True.intro⟩) (fun i' st' t' u' h' tk' I' o' hst' hln' hlt' hJ' F' N' => ?_) (fun u' h' tk' hE' F' N' => ?_)) <;> ((clear lF' lN'); (try k_lt hlt'); (try dsimp only); (try k_fold)))))
theorem lines_CondB_1 : True := by
  w_top off
  k_with_none
  k_with "callWith ref nil nil" => (k_here; k_dflt (refine' callWith_K0 ?qq7k1 ?qq7k2 ?_; (case qq7k1 => k_in); (case qq7k2 => k_is); k_whole))
  k_with "call ref" => (k_here; (with_reducible show wpAny _ _ (call (Value.ref 49) _) _ _ _); k_dflt ((refine' Pure.use (condition_names_c _) ?qq8B ?qq8F ?qq8X ?qq8N ?qq8T ?qq8k ?qq8d ?qq8u True.intro ?_); (case qq8B => k_asm); (case qq8F => k_asm); (case qq8X => k_asm); (case qq8N => k_asm); (case qq8T => k_asm); (case qq8k => first | rfl | assumption); (case qq8d => ktr_room); (case qq8u => ktr_units); intro r9 h9 tk9 F9 N9 st9 fr9 hO9; obtain ⟨l9, vs9, hr9, hget9, hnone9, hA9⟩ := hO9; subst hr9; replace N9 := news_add N9 fr9 hget9 hnone9; clear fr9 st9; (try dsimp only); (try k_fold)))
  k_with "compareOp In str ref" => (k_here; k_dflt (refine' in_list_strs ?qq9k1 ?qq9k2 ?_; (case qq9k1 => exact News.isList (by k_asm) (by k_mem)); (case qq9k2 => assumption); k_whole))
  k_with "exec For Name Tuple cons nil" => (k_here; (rename SearchFor _ _ => hS'); (rename Fr _ _ _ _ => lF'); k_dflt (with_unfolding_all refine' For_invVF lF' ?qq10k1 ?qq10k2 ?_; (case qq10k1 => exact rfl); (case qq10k2 => exact rfl); k_whole))
  trivial
set_option maxRecDepth 100000 in
set_option maxHeartbeats 8000000 in
theorem condition_of_c (w : World) (nm : Str) (tk : Tok) (hlen : nm.length ≤ 1000) :
    Pure w 8 167 [.str nm tk] (fun _ => True) (fun _ r _ => ∃ t, r = .str (condOf nm) t) := by
  unfold Pure
  k_fill
  intro mean mg mb dp un gd cn cs a ccd cl outer A₀ base h₀ L m s Q E B F X T hk hd hu hP hret
  refine wpAny_call ?_
  k_dflt (refine' enterG (binds := [(Str.ofString "name", Value.str nm tk)]) ?k1 ?k2 ?k3 News.nil ?k5 ?kA ?kF ?kK ?k6 ?k7 ?k8 ?k9 ?kB ?_ ?c2 ?c3 ?c4 ?c5; (case kA => exact rfl); (case kF => exact rfl); (case kK => assumption); (case k1 => k_asm); (case k2 => k_asm); (case k3 => k_asm); (case k5 => k_asm); (case k6 => k_is); (case k7 => k_is); (case k8 => ktr_room); (case k9 => exact BindsTo.of_eq rfl); (case c5 => decide); (case kB => exact locs rfl); (case c2 => exact rfl); (case c3 => exact rfl); (case c4 => exact rfl); k_whole; intro g' L' h' hG hG2 FG' F' N' B' X' T'; (try dsimp only); (try k_lift B'); (try k_fold))
  have hSF : SearchFor stems (condStem nm) := ⟨by decide +kernel⟩
  k_steps
  all_goals first
    | exact hret _ _ _ (keep_of hG (by assumption)) ⟨_, congrArg (fun x => Value.str x _) (cond_1 (by assumption) (by assumption) (by assumption) (by assumption))⟩
    | exact hret _ _ _ (keep_of hG (by assumption)) ⟨_, congrArg (fun x => Value.str x _) (cond_2 (by assumption))⟩
    | (refine endS (by assumption) (by assumption) (by assumption) (by assumption) (by k_sub) ?_ ?_; (intro y h1; simp [h1]); first | exact condStem_none1 (by assumption) | exact condStem_none2 (by assumption))
end Mine
end
section
-- part WhereA
open PySem PySem.W PySem.Calls PyProof.Rows PyProof.V PySem.Spec
namespace Mine
theorem cond_t {α : Sort _} {c : Bool} {a b : α} (h : c = true) : cond c a b = a := by rw [h]; rfl
theorem cond_f {α : Sort _} {c : Bool} {a b : α} (h : c = false) : cond c a b = b := by rw [h]; rfl
noncomputable def whereRest (n : Str) : Str := cond (n == Str.ofString "call") (Str.ofString "call") (cond (n == Str.ofString "ret") (Str.ofString "return") (cond ([Str.ofString "hlt", Str.ofString "ud2"].any fun x => x == n) (Str.ofString "stop") (Str.ofString "on")))
noncomputable def whereNext (n : Str) : Str := cond (n == Str.ofString "jmp") (Str.ofString "jump") (cond ([Str.ofString "loop", Str.ofString "loope", Str.ofString "loopne", Str.ofString "jrcxz"].any fun x => x == n) (Str.ofString "branch") (cond (Txt.startswith n (Str.ofString "j")) (cond (condOf n != Str.ofString "") (Str.ofString "branch") (whereRest n)) (whereRest n)))
theorem lines_WhereA_1 : True := by
  w_top off
  k_with_none
  k_with "call ref" => (k_here; (with_reducible show wpAny _ _ (call (Value.ref 167) _) _ _ _); k_dflt ((refine' Pure.use (condition_of_c _ _ _ (by assumption)) ?qq11B ?qq11F ?qq11X ?qq11N ?qq11T ?qq11k ?qq11d ?qq11u True.intro ?_); (case qq11B => k_asm); (case qq11F => k_asm); (case qq11X => k_asm); (case qq11N => k_asm); (case qq11T => k_asm); (case qq11k => first | rfl | assumption); (case qq11d => ktr_room); (case qq11u => ktr_units); intro r9 h9 tk9 F9 N9 st9 fr9 hO9; obtain ⟨t9, hr9⟩ := hO9; subst hr9; clear fr9 st9; (try dsimp only); (try k_fold)))
  trivial
set_option maxRecDepth 100000 in
set_option maxHeartbeats 8000000 in
theorem where_next_c (w : World) (nm : Str) (tk : Tok) (hlen : nm.length ≤ 1000) :
    Pure w 12 181 [.str nm tk] (fun _ => True) (fun _ r _ => ∃ t, r = .str (whereNext nm) t) := by
  unfold Pure
  k_fill
  intro mean mg mb dp un gd cn cs a ccd cl outer A₀ base h₀ L m s Q E B F X T hk hd hu hP hret
  refine wpAny_call ?_
  k_dflt (refine' enterG (binds := [(Str.ofString "name", Value.str nm tk)]) ?k1 ?k2 ?k3 News.nil ?k5 ?kA ?kF ?kK ?k6 ?k7 ?k8 ?k9 ?kB ?_ ?c2 ?c3 ?c4 ?c5; (case kA => exact rfl); (case kF => exact rfl); (case kK => assumption); (case k1 => k_asm); (case k2 => k_asm); (case k3 => k_asm); (case k5 => k_asm); (case k6 => k_is); (case k7 => k_is); (case k8 => ktr_room); (case k9 => exact BindsTo.of_eq rfl); (case c5 => decide); (case kB => exact locs rfl); (case c2 => exact rfl); (case c3 => exact rfl); (case c4 => exact rfl); k_whole; intro g' L' h' hG hG2 FG' F' N' B' X' T'; (try dsimp only); (try k_lift B'); (try k_fold))
  k_steps
  all_goals exact hret _ _ _ (keep_of hG (by assumption)) ⟨_, congrArg (fun x => Value.str x _) (by symm; unfold whereNext whereRest; (repeat (first | refine (cond_t (by assumption)).trans ?_ | refine (cond_f (by assumption)).trans ?_)); rfl)⟩
end Mine
end
section
-- part StemA
open PySem PySem.W PySem.Calls PyProof.Rows PyProof.V PySem.Spec
namespace Mine
noncomputable def tupObj (a : Str) (t : Tok) (b : Int) (u : Tok) : Obj := { cls := .type "tuple", data := .seq #[.str a t, .int b u] }
noncomputable def TupOut (p : Str × Int) (h : Heap) (r : Value) (h' : Heap) : Prop := ∃ D t u, r = .ref D ∧ h'.get? D = some (tupObj p.1 t p.2 u) ∧ h.get? D = none
theorem tup_out {p : Str × Int} {a : Str} {b : Int} {h h' : Heap} {D : Addr} {t u : Tok} (e : p = (a, b)) (hg : h'.get? D = some (tupObj a t b u)) (hn : h.get? D = none) : TupOut p h (.ref D) h' := by subst e; exact ⟨D, t, u, rfl, hg, hn⟩
noncomputable def stringStems : List Str := [Str.ofString "movs", Str.ofString "cmps", Str.ofString "stos", Str.ofString "lods", Str.ofString "scas"]
noncomputable def stemOf (n : Str) : Str × Int := cond (stringStems.any fun x => x == Txt.slice n none (some 4))
  (if (n.length : Int) = 5 then (if 0 ≤ Txt.find (Str.ofString "bwdq") (Txt.item n 4) then (Txt.slice n none (some 4), 8 * 2 ^ (Txt.find (Str.ofString "bwdq") (Txt.item n 4)).toNat) else (Str.ofString "", 0)) else (Str.ofString "", 0)) (Str.ofString "", 0)
theorem if_t {α : Sort _} {c : Prop} [Decidable c] {a b : α} (h : c) : (if c then a else b) = a := if_pos h
theorem if_f {α : Sort _} {c : Prop} [Decidable c] {a b : α} (h : ¬ c) : (if c then a else b) = b := if_neg h
theorem lines_StemA_1 : True := by
  w_top off
  k_with_none
  trivial
set_option maxRecDepth 100000 in
set_option maxHeartbeats 8000000 in
theorem string_stem_c (w : World) (nm : Str) (tk : Tok) (hlen : nm.length ≤ 1000) :
    Pure w 4 174 [.str nm tk] (fun _ => True) (TupOut (stemOf nm)) := by
  unfold Pure
  k_fill
  intro mean mg mb dp un gd cn cs a ccd cl outer A₀ base h₀ L m s Q E B F X T hk hd hu hP hret
  refine wpAny_call ?_
  k_dflt (refine' enterG (binds := [(Str.ofString "name", Value.str nm tk)]) ?k1 ?k2 ?k3 News.nil ?k5 ?kA ?kF ?kK ?k6 ?k7 ?k8 ?k9 ?kB ?_ ?c2 ?c3 ?c4 ?c5; (case kA => exact rfl); (case kF => exact rfl); (case kK => assumption); (case k1 => k_asm); (case k2 => k_asm); (case k3 => k_asm); (case k5 => k_asm); (case k6 => k_is); (case k7 => k_is); (case k8 => ktr_room); (case k9 => exact BindsTo.of_eq rfl); (case c5 => decide); (case kB => exact locs rfl); (case c2 => exact rfl); (case c3 => exact rfl); (case c4 => exact rfl); k_whole; intro g' L' h' hG hG2 FG' F' N' B' X' T'; (try dsimp only); (try k_lift B'); (try k_fold))
  have hfd := PyProof.Rows.fact_find (Str.ofString "bwdq") (Txt.item nm 4)
  have hfl : Str.length (Str.ofString "bwdq") = 4 := by decide +kernel
  rw [hfl] at hfd
  k_steps
  all_goals (
    rename (News g' _ _ _) => N1
    have hN := N1 _ (.head _)
    exact hret _ _ _ (keep_of hG (by assumption)) (tup_out (by unfold stemOf; (repeat (first | refine (cond_t (by assumption)).trans ?_ | refine (cond_f (by assumption)).trans ?_ | refine (if_t (by assumption)).trans ?_ | refine (if_f (by assumption)).trans ?_)); rfl) hN.1 (fresh_of hG hN.2.2)))
end Mine
end
section
-- part RepA
open PySem PySem.W PySem.Calls PyProof.Rows PyProof.V PySem.Spec
namespace Mine
noncomputable def movedL : List Str := [(PySem.Str.mk #[109, 111, 118, 115, 98]), (PySem.Str.mk #[109, 111, 118, 115, 119]), (PySem.Str.mk #[109, 111, 118, 115, 100]), (PySem.Str.mk #[109, 111, 118, 115, 113]), (PySem.Str.mk #[115, 116, 111, 115, 98]), (PySem.Str.mk #[115, 116, 111, 115, 119]), (PySem.Str.mk #[115, 116, 111, 115, 100]), (PySem.Str.mk #[115, 116, 111, 115, 113]), (PySem.Str.mk #[108, 111, 100, 115, 98]), (PySem.Str.mk #[108, 111, 100, 115, 119]), (PySem.Str.mk #[108, 111, 100, 115, 100]), (PySem.Str.mk #[108, 111, 100, 115, 113])]
noncomputable def comparedL : List Str := [(PySem.Str.mk #[99, 109, 112, 115, 98]), (PySem.Str.mk #[99, 109, 112, 115, 119]), (PySem.Str.mk #[99, 109, 112, 115, 100]), (PySem.Str.mk #[99, 109, 112, 115, 113]), (PySem.Str.mk #[115, 99, 97, 115, 98]), (PySem.Str.mk #[115, 99, 97, 115, 119]), (PySem.Str.mk #[115, 99, 97, 115, 100]), (PySem.Str.mk #[115, 99, 97, 115, 113])]
noncomputable def repOf (n : Str) : List Str := cond (movedL.any fun x => x == n) [Str.ofString "rep"] (cond (comparedL.any fun x => x == n) [Str.ofString "rep", Str.ofString "repne"] [])
theorem list_out {L L' : List Str} {h h' : Heap} {l : Addr} {vs : List Value} (e : L = L') (hg : h'.get? l = some (listOf vs.toArray 0)) (hn : h.get? l = none) (ha : StrsAre vs L') : ListOut L h (.ref l) h' := ⟨l, vs, rfl, hg, hn, e ▸ ha⟩
theorem lines_RepA_1 : True := by
  w_top off
  k_with_none
  trivial
set_option maxRecDepth 100000 in
set_option maxHeartbeats 8000000 in
theorem repeats_c (w : World) (nm : Str) (tk : Tok) (hlen : nm.length ≤ 1000) :
    Pure w 4 160 [.str nm tk] (fun _ => True) (ListOut (repOf nm)) := by
  unfold Pure
  k_fill
  intro mean mg mb dp un gd cn cs a ccd cl outer A₀ base h₀ L m s Q E B F X T hk hd hu hP hret
  refine wpAny_call ?_
  k_dflt (refine' enterG (binds := [(Str.ofString "name", Value.str nm tk)]) ?k1 ?k2 ?k3 News.nil ?k5 ?kA ?kF ?kK ?k6 ?k7 ?k8 ?k9 ?kB ?_ ?c2 ?c3 ?c4 ?c5; (case kA => exact rfl); (case kF => exact rfl); (case kK => assumption); (case k1 => k_asm); (case k2 => k_asm); (case k3 => k_asm); (case k5 => k_asm); (case k6 => k_is); (case k7 => k_is); (case k8 => ktr_room); (case k9 => exact BindsTo.of_eq rfl); (case c5 => decide); (case kB => exact locs rfl); (case c2 => exact rfl); (case c3 => exact rfl); (case c4 => exact rfl); k_whole; intro g' L' h' hG hG2 FG' F' N' B' X' T'; (try dsimp only); (try k_lift B'); (try k_fold))
  k_steps
  all_goals (
    rename (News g' _ _ _) => N1
    have hN := N1 _ (.head _)
    first
      | exact hret _ _ _ (keep_of hG (by assumption)) (list_out (L' := [Str.ofString "rep"]) (by unfold repOf; (repeat (first | refine (cond_t (by assumption)).trans ?_ | refine (cond_f (by assumption)).trans ?_ | refine (if_t (by assumption)).trans ?_ | refine (if_f (by assumption)).trans ?_)); rfl) hN.1 (fresh_of hG hN.2.2) (by repeat constructor))
      | exact hret _ _ _ (keep_of hG (by assumption)) (list_out (L' := [Str.ofString "rep", Str.ofString "repne"]) (by unfold repOf; (repeat (first | refine (cond_t (by assumption)).trans ?_ | refine (cond_f (by assumption)).trans ?_ | refine (if_t (by assumption)).trans ?_ | refine (if_f (by assumption)).trans ?_)); rfl) hN.1 (fresh_of hG hN.2.2) (by repeat constructor))
      | exact hret _ _ _ (keep_of hG (by assumption)) (list_out (L' := []) (by unfold repOf; (repeat (first | refine (cond_t (by assumption)).trans ?_ | refine (cond_f (by assumption)).trans ?_ | refine (if_t (by assumption)).trans ?_ | refine (if_f (by assumption)).trans ?_)); rfl) hN.1 (fresh_of hG hN.2.2) (by repeat constructor)))
end Mine
end
section
-- part RightA
open PySem PySem.W PySem.Calls PyProof.Rows PyProof.V PySem.Spec
namespace Mine
noncomputable def condT : List (Str × Str) := [(Str.ofString "jo", Str.ofString "o"), (Str.ofString "seto", Str.ofString "o"), (Str.ofString "cmovo", Str.ofString "o"), (Str.ofString "jno", Str.ofString "no"), (Str.ofString "setno", Str.ofString "no"), (Str.ofString "cmovno", Str.ofString "no"), (Str.ofString "jb", Str.ofString "b"), (Str.ofString "setb", Str.ofString "b"), (Str.ofString "cmovb", Str.ofString "b"), (Str.ofString "jae", Str.ofString "ae"), (Str.ofString "setae", Str.ofString "ae"), (Str.ofString "cmovae", Str.ofString "ae"), (Str.ofString "je", Str.ofString "e"), (Str.ofString "sete", Str.ofString "e"), (Str.ofString "cmove", Str.ofString "e"), (Str.ofString "jne", Str.ofString "ne"), (Str.ofString "setne", Str.ofString "ne"), (Str.ofString "cmovne", Str.ofString "ne"), (Str.ofString "jbe", Str.ofString "be"), (Str.ofString "setbe", Str.ofString "be"), (Str.ofString "cmovbe", Str.ofString "be"), (Str.ofString "ja", Str.ofString "a"), (Str.ofString "seta", Str.ofString "a"), (Str.ofString "cmova", Str.ofString "a"), (Str.ofString "js", Str.ofString "s"), (Str.ofString "sets", Str.ofString "s"), (Str.ofString "cmovs", Str.ofString "s"), (Str.ofString "jns", Str.ofString "ns"), (Str.ofString "setns", Str.ofString "ns"), (Str.ofString "cmovns", Str.ofString "ns"), (Str.ofString "jp", Str.ofString "p"), (Str.ofString "setp", Str.ofString "p"), (Str.ofString "cmovp", Str.ofString "p"), (Str.ofString "jnp", Str.ofString "np"), (Str.ofString "setnp", Str.ofString "np"), (Str.ofString "cmovnp", Str.ofString "np"), (Str.ofString "jl", Str.ofString "l"), (Str.ofString "setl", Str.ofString "l"), (Str.ofString "cmovl", Str.ofString "l"), (Str.ofString "jge", Str.ofString "ge"), (Str.ofString "setge", Str.ofString "ge"), (Str.ofString "cmovge", Str.ofString "ge"), (Str.ofString "jle", Str.ofString "le"), (Str.ofString "setle", Str.ofString "le"), (Str.ofString "cmovle", Str.ofString "le"), (Str.ofString "jg", Str.ofString "g"), (Str.ofString "setg", Str.ofString "g"), (Str.ofString "cmovg", Str.ofString "g")]
noncomputable def flowT : List (Str × Str) := [(Str.ofString "jmp", Str.ofString "jump"), (Str.ofString "loop", Str.ofString "branch"), (Str.ofString "loope", Str.ofString "branch"), (Str.ofString "loopne", Str.ofString "branch"), (Str.ofString "jrcxz", Str.ofString "branch"), (Str.ofString "call", Str.ofString "call"), (Str.ofString "ret", Str.ofString "return"), (Str.ofString "hlt", Str.ofString "stop"), (Str.ofString "ud2", Str.ofString "stop")]
noncomputable def aliasesT : List (Str × Str) := [(Str.ofString "sal", Str.ofString "shl"), (Str.ofString "loopz", Str.ofString "loope"), (Str.ofString "loopnz", Str.ofString "loopne"), (Str.ofString "repe", Str.ofString "rep"), (Str.ofString "repz", Str.ofString "rep"), (Str.ofString "repnz", Str.ofString "repne"), (Str.ofString "jc", Str.ofString "jb"), (Str.ofString "setc", Str.ofString "setb"), (Str.ofString "cmovc", Str.ofString "cmovb"), (Str.ofString "jnae", Str.ofString "jb"), (Str.ofString "setnae", Str.ofString "setb"), (Str.ofString "cmovnae", Str.ofString "cmovb"), (Str.ofString "jnb", Str.ofString "jae"), (Str.ofString "setnb", Str.ofString "setae"), (Str.ofString "cmovnb", Str.ofString "cmovae"), (Str.ofString "jnc", Str.ofString "jae"), (Str.ofString "setnc", Str.ofString "setae"), (Str.ofString "cmovnc", Str.ofString "cmovae"), (Str.ofString "jz", Str.ofString "je"), (Str.ofString "setz", Str.ofString "sete"), (Str.ofString "cmovz", Str.ofString "cmove"), (Str.ofString "jnz", Str.ofString "jne"), (Str.ofString "setnz", Str.ofString "setne"), (Str.ofString "cmovnz", Str.ofString "cmovne"), (Str.ofString "jna", Str.ofString "jbe"), (Str.ofString "setna", Str.ofString "setbe"), (Str.ofString "cmovna", Str.ofString "cmovbe"), (Str.ofString "jnbe", Str.ofString "ja"), (Str.ofString "setnbe", Str.ofString "seta"), (Str.ofString "cmovnbe", Str.ofString "cmova"), (Str.ofString "jpe", Str.ofString "jp"), (Str.ofString "setpe", Str.ofString "setp"), (Str.ofString "cmovpe", Str.ofString "cmovp"), (Str.ofString "jpo", Str.ofString "jnp"), (Str.ofString "setpo", Str.ofString "setnp"), (Str.ofString "cmovpo", Str.ofString "cmovnp"), (Str.ofString "jnge", Str.ofString "jl"), (Str.ofString "setnge", Str.ofString "setl"), (Str.ofString "cmovnge", Str.ofString "cmovl"), (Str.ofString "jnl", Str.ofString "jge"), (Str.ofString "setnl", Str.ofString "setge"), (Str.ofString "cmovnl", Str.ofString "cmovge"), (Str.ofString "jng", Str.ofString "jle"), (Str.ofString "setng", Str.ofString "setle"), (Str.ofString "cmovng", Str.ofString "cmovle"), (Str.ofString "jnle", Str.ofString "jg"), (Str.ofString "setnle", Str.ofString "setg"), (Str.ofString "cmovnle", Str.ofString "cmovg")]
noncomputable def stringT : List (Str × (Str × Int)) := [(Str.ofString "movsb", (Str.ofString "movs", 8)), (Str.ofString "movsw", (Str.ofString "movs", 16)), (Str.ofString "movsd", (Str.ofString "movs", 32)), (Str.ofString "movsq", (Str.ofString "movs", 64)), (Str.ofString "stosb", (Str.ofString "stos", 8)), (Str.ofString "stosw", (Str.ofString "stos", 16)), (Str.ofString "stosd", (Str.ofString "stos", 32)), (Str.ofString "stosq", (Str.ofString "stos", 64)), (Str.ofString "lodsb", (Str.ofString "lods", 8)), (Str.ofString "lodsw", (Str.ofString "lods", 16)), (Str.ofString "lodsd", (Str.ofString "lods", 32)), (Str.ofString "lodsq", (Str.ofString "lods", 64)), (Str.ofString "cmpsb", (Str.ofString "cmps", 8)), (Str.ofString "cmpsw", (Str.ofString "cmps", 16)), (Str.ofString "cmpsd", (Str.ofString "cmps", 32)), (Str.ofString "cmpsq", (Str.ofString "cmps", 64)), (Str.ofString "scasb", (Str.ofString "scas", 8)), (Str.ofString "scasw", (Str.ofString "scas", 16)), (Str.ofString "scasd", (Str.ofString "scas", 32)), (Str.ofString "scasq", (Str.ofString "scas", 64))]
noncomputable def lockedL : List Str := [(PySem.Str.mk #[97, 100, 100]), (PySem.Str.mk #[97, 100, 99]), (PySem.Str.mk #[97, 110, 100]), (PySem.Str.mk #[111, 114]), (PySem.Str.mk #[115, 98, 98]), (PySem.Str.mk #[115, 117, 98]), (PySem.Str.mk #[120, 111, 114]), (PySem.Str.mk #[105, 110, 99]), (PySem.Str.mk #[100, 101, 99]), (PySem.Str.mk #[110, 101, 103]), (PySem.Str.mk #[110, 111, 116]), (PySem.Str.mk #[120, 99, 104, 103]), (PySem.Str.mk #[120, 97, 100, 100]), (PySem.Str.mk #[99, 109, 112, 120, 99, 104, 103]), (PySem.Str.mk #[98, 116, 115]), (PySem.Str.mk #[98, 116, 114]), (PySem.Str.mk #[98, 116, 99])]
structure TablesAt (w : World) (h : Heap) (tb c st fl lk al : Addr) (vlk : List Value) (kvs : List (Str × Value)) : Prop where
  tb : h.IsList tb [Value.ref c, .ref st, .ref fl, .ref lk, .ref al].toArray
  c : TabAt (strKind PySem.Challenge.rw_pq0793_01.row.prog w) PyData.str h c (dOf condT)
  st : h.DictOf (strKind PySem.Challenge.rw_pq0793_01.row.prog w) st kvs
  fl : TabAt (strKind PySem.Challenge.rw_pq0793_01.row.prog w) PyData.str h fl (dOf flowT)
  lk : h.IsList lk vlk.toArray
  vlk : StrsAre vlk lockedL
  al : TabAt (strKind PySem.Challenge.rw_pq0793_01.row.prog w) PyData.str h al (dOf aliasesT)
theorem TablesAt.keep {w : World} {h h' : Heap} {tb c st fl lk al : Addr} {vlk : List Value} {kvs : List (Str × Value)} (T : TablesAt w h tb c st fl lk al vlk kvs) (hk : ∀ b o, h.get? b = some o → h'.get? b = some o) : TablesAt w h' tb c st fl lk al vlk kvs :=
  ⟨T.tb.at fun o e => hk _ o e, T.c.keep hk, T.st.keep hk, T.fl.keep hk, T.lk.at fun o e => hk _ o e, T.vlk, T.al.keep hk⟩
end Mine
end
section
-- part Base3
open PySem PySem.W PySem.Calls PyProof.Rows
namespace Mine
section
variable {prog : Program} {w : World} {A₀ A : Around} {s : Shared} {base h₀ : Heap} {outer : List Env} {L : Addr} {m mg mb : Str → Option Value} {env : Env} {K : Frag} {p : Program} {loose : List Str} {mean : ExcName → Option Value}
  {R : Result → Shared → Prop} {name qual : Str} {params : Arguments} {body : List Stmt} {scope : Scope} {dV kV doc pm cdv ct oc : Value} {an od : Option Addr} {osl : Array (Option Value)} {f : Addr} {args : Args} {binds : List (Str × Value)}
theorem enterC (B : Below A₀ base outer h₀) (F : Fr h₀ L s.heap m) (X₀ : K.In h₀) (T : Top p loose mean mg mb h₀) (hA : A.frames = some (env :: outer)) (hf : env.frame = some L) (hke : env.scope.kind = .function)
    (ho : K.lookup f = some ⟨oc, od, .func (fnOf name qual params body scope dV kV doc pm an cdv ct), osl⟩) (hcd : codeIn K cdv qual = true) (hroom : A.depth < recursionLimit)
    (hbind : BindsTo s (fnOf name qual params body scope dV kV doc pm an cdv ct) args binds) (hkind : (binds.all fun y => scope.names.lookup y.1 == some .local || scope.names.lookup y.1 == some .cell) = true)
    (hnd : ((cellsFrom 0 scope.names []).map (·.1)).Nodup)
    (h : ∀ g L' h₁ tk cells, (∀ b o, s.heap.get? b = some o → b ∉ ([] : List (Addr × Obj)).map (·.1) → g.get? b = some o) → (∀ b o, g.get? b = some o → s.heap.get? b = some o) → Fr h₀ L g m → Fr g L' h₁ (bindL (envOfC qual scope L' f cdv).kindOf binds fun _ => none) → News g L' h₁ cells →
      CellsAre (bindC (envOfC qual scope L' f cdv).kindOf binds fun _ => none) (cellsFrom (L' + 1) scope.names []) cells → Below A base (env :: outer) g → K.In g → Top p loose mean mg mb g →
      wpAny (model prog w) (A.deeper (envOfC qual scope L' f cdv)) (execs body (envOfC qual scope L' f cdv))
        (fun fl s' => LeaveK h₀ L m g R (match fl with | .ret v => v | _ => .none) s')
        (fun e s' => wpAny (model prog w) (A.deeper (envOfC qual scope L' f cdv)) (leaving (envOfC qual scope L' f cdv) e) (fun _ s'' => R (.error e) s'') (fun e' s'' => R (.error e') s'') s')
        { s with heap := h₁, toks := tk })
    (hco : scope.isCoroutine = false) (hgen : scope.isGenerator = false) (hk : scope.kind = .function) : codeAny (model prog w) A (.call (.ref f) args) R s := by
  obtain ⟨FG, BG, st, lv⟩ := groundX (R := R) B F (News.nil (h := s.heap)) hA hf hke
  have X := X₀.keeps F.keep
  refine codeAny_call_function hroom (X _ _ ho) rfl hco hgen rfl (codeRec_of X hcd) (hbind _ _ _ _ ?_)
  refine wpAny_newFunctionEnv_cells hk (kindsX hkind _) fun env' he s' x => ?_
  subst he
  refine ⟨(T.nolimit.keeps F.keep).keeps x.toInCall.keep, codeAny_func ?_⟩
  obtain ⟨h₁, tk, rfl, _⟩ := x.done
  obtain ⟨cells, NC, Y⟩ := Cl.news (h₀ := s.heap) (Nat.le_refl _) fun n c hm => ⟨x.cell n c (lookup_of_mem_nodup (cellsFrom_names scope.names 0 (s.heap.objs.size + 1) [] [] rfl ▸ hnd) hm), x.above n c hm⟩
  exact wpAny_mono (h s.heap s.heap.objs.size h₁ tk cells (fun b o e _ => e) (fun _ _ e => e) FG ⟨x.toInCall.ns, x.toInCall.keep, Nat.le_refl _⟩ NC Y BG (X₀.keeps fun b o e => st b o e) (T.keeps fun b o e => st b o e)) (fun fl s' hl => lv _ _ hl) fun _ _ y => y
end
end Mine
end
section
-- part RightC
open PySem PySem.W PySem.Calls PyProof.Rows PyProof.V PySem.Spec
namespace Mine
section
variable {prog : Program} {w : World} {A : Around} {E : Value → Shared → Prop} {s : Shared} {h₀ : Heap} {L : Addr} {m : Str → Option Value} {news : List (Addr × Obj)}
noncomputable def NoB (h₀ : Heap) (L : Addr) (m : Str → Option Value) (news : List (Addr × Obj)) (s : Shared) (b : Bool) (s₂ : Shared) : Prop := b = false ∧ ∃ h tk, s₂ = { s with heap := h, toks := tk } ∧ Fr h₀ L h m ∧ News h₀ L h news
theorem NoB.intro {h' : Heap} {tk : Nat} {b : Bool} {news' : List (Addr × Obj)} (e : b = false) (F : Fr h₀ L h' m) (N : News h₀ L h' news') (hs : ∀ p ∈ news, p ∈ news') : NoB h₀ L m news s b { s with heap := h', toks := tk } := ⟨e, h', tk, rfl, F, fun p hp => N p (hs p hp)⟩
noncomputable def OneS (x : Str) (h₀ : Heap) (L : Addr) (m : Str → Option Value) (news : List (Addr × Obj)) (s : Shared) (v : Value) (s₂ : Shared) : Prop := ∃ t h tk, v = .str x t ∧ s₂ = { s with heap := h, toks := tk } ∧ Fr h₀ L h m ∧ News h₀ L h news
theorem OneS.intro {x y : Str} {t : Tok} {h' : Heap} {tk : Nat} {news' : List (Addr × Obj)} (e : y = x) (F : Fr h₀ L h' m) (N : News h₀ L h' news') (hs : ∀ p ∈ news, p ∈ news') : OneS x h₀ L m news s (.str y t) { s with heap := h', toks := tk } := ⟨t, h', tk, by rw [e], rfl, F, fun p hp => N p (hs p hp)⟩
theorem joinB {c : Sem Bool} {Q : Bool → Shared → Prop} (_F : Fr h₀ L s.heap m) (_N : News h₀ L s.heap news)
    (hc : wpAny (model prog w) A c (NoB h₀ L m news s) E s)
    (hk : ∀ h tk, Fr h₀ L h m → News h₀ L h news → Q false { s with heap := h, toks := tk }) : wpAny (model prog w) A c Q E s := by
  refine wpAny_mono hc (fun b s₂ hq => ?_) fun _ _ h => h
  obtain ⟨rfl, h, tk, rfl, F, N⟩ := hq
  exact hk h tk F N
theorem joinS {c : Sem Value} {Q : Value → Shared → Prop} (x : Str) (_F : Fr h₀ L s.heap m) (_N : News h₀ L s.heap news)
    (hc : wpAny (model prog w) A c (OneS x h₀ L m news s) E s)
    (hk : ∀ t h tk, Fr h₀ L h m → News h₀ L h news → Q (.str x t) { s with heap := h, toks := tk }) : wpAny (model prog w) A c Q E s := by
  refine wpAny_mono hc (fun v s₂ hq => ?_) fun _ _ h => h
  obtain ⟨t, h, tk, rfl, rfl, F, N⟩ := hq
  exact hk t h tk F N
end
noncomputable def lookP (tbl : List (Str × (Str × Int))) (n : Str) : Option (Str × Int) := (tbl.find? fun p => decide (p.1 = n)).map (·.2)
theorem lookP_mem {tbl : List (Str × (Str × Int))} {k : Str} {p : Str × Int} (h : lookP tbl k = some p) : (k, p) ∈ tbl := by
  unfold lookP at h
  obtain ⟨q, hq, rfl⟩ := Option.map_eq_some_iff.mp h
  have h1 := List.find?_some hq
  have h2 := List.mem_of_find?_eq_some hq
  have : q.1 = k := by simpa using h1
  exact this ▸ h2
noncomputable def deedOf (n : Str) : Str × Int := (lookP stringT n).getD (Str.ofString "", 0)
theorem deed_ok (n : Str) : PyData.strOk (deedOf n).1 = true := by
  unfold deedOf
  cases h : lookP stringT n with
  | none => decide +kernel
  | some p => exact (show ∀ q ∈ stringT, PyData.strOk q.2.1 = true by decide +kernel) _ (lookP_mem h)
noncomputable def PairsAt (h : Heap) : List (Str × Value) → List (Str × (Str × Int)) → Prop
  | [], [] => True
  | (k, v) :: r, p :: l => k = p.1 ∧ (∃ a t u, v = .ref a ∧ h.get? a = some (tupObj p.2.1 t p.2.2 u)) ∧ PairsAt h r l
  | _, _ => False
theorem PairsAt.keep {h h' : Heap} (hk : ∀ b o, h.get? b = some o → h'.get? b = some o) : ∀ {kvs : List (Str × Value)} {l : List (Str × (Str × Int))}, PairsAt h kvs l → PairsAt h' kvs l
  | [], [], _ => trivial
  | (_, _) :: _, _ :: _, ⟨h1, ⟨a, t, u, h2, h3⟩, h4⟩ => ⟨h1, ⟨a, t, u, h2, hk _ _ h3⟩, PairsAt.keep hk h4⟩
theorem PairsAt.value {h : Heap} {n : Str} : ∀ {kvs : List (Str × Value)} {l : List (Str × (Str × Int))}, PairsAt h kvs l →
    (valueAt kvs n = none ∧ lookP l n = none) ∨ ∃ a t u p, valueAt kvs n = some (.ref a) ∧ lookP l n = some p ∧ h.get? a = some (tupObj p.1 t p.2 u)
  | [], [], _ => .inl ⟨rfl, rfl⟩
  | (k, v) :: r, p :: l, ⟨h1, ⟨a, t, u, h2, h3⟩, h4⟩ => by
    subst h1 h2
    by_cases e : p.1 = n
    · exact .inr ⟨a, t, u, p.2, by simp [valueAt, e], by simp [lookP, e], h3⟩
    · rcases PairsAt.value (n := n) h4 with ⟨q1, q2⟩ | ⟨a', t', u', p', q1, q2, q3⟩
      · exact .inl ⟨by simpa [valueAt, e] using q1, by simpa [lookP, e] using q2⟩
      · exact .inr ⟨a', t', u', p', by simpa [valueAt, e] using q1, by simpa [lookP, e] using q2, q3⟩
noncomputable def DeedAt (g : Heap) (D X : Addr) (p : Str × Int) : Prop := (∃ t u, g.get? X = some (tupObj p.1 t p.2 u)) ∨ (X = D ∧ p = (Str.ofString "", 0))
theorem DeedAt.get {g h : Heap} {D X L : Addr} {p : Str × Int} {m : Str → Option Value} {news : List (Addr × Obj)} {t0 u0 : Tok} (hX : DeedAt g D X p) (F : Fr g L h m) (N : News g L h news) (hm : (D, tupObj (Str.ofString "") t0 0 u0) ∈ news) : ∃ t u, h.get? X = some (tupObj p.1 t p.2 u) := by
  rcases hX with ⟨t, u, e⟩ | ⟨rfl, rfl⟩
  · exact ⟨t, u, F.keep _ _ e⟩
  · exact ⟨t0, u0, (N _ hm).1⟩
theorem Reads.ofTup {h : Heap} {X : Addr} {a : Str} {b : Int} {t u : Tok} (e : h.get? X = some (tupObj a t b u)) : ∃ as, Reads h (.ref X) (.tuple [.str a, .int b]) as :=
  ⟨_, reads_tuple_at e rfl rfl (ReadsAll.cons (Reads.str _ _) (ReadsAll.cons (Reads.int _ _) ReadsAll.nil))⟩
section
variable {prog : Program} {w : World} {A : Around} {E : Value → Shared → Prop} {s : Shared} {h₀ : Heap} {L d D : Addr} {m : Str → Option Value} {news : List (Addr × Obj)} {kvs : List (Str × Value)} {k : Str} {tk : Tok}
theorem get_pair {Q : Value → Shared → Prop} (F : Fr h₀ L s.heap m) (hsys : (d == sysModules) = false) (hd : h₀.DictOf (strKind prog w) d kvs) (hp : PairsAt h₀ kvs stringT)
    (h : ∀ X, DeedAt h₀ D X (deedOf k) → Q (.ref X) { s with toks := s.toks + 1 }) : wpAny (model prog w) A (call (.builtin "dict.get") [.ref d, .str k tk, .ref D]) Q E s := by
  have hd' := hd.keep F.keep
  refine call_meetsIn PySem.F.slot_dict_get hd'.typeIs PySem.F.entry_dict_get (PySem.F.args_dict_get_3 _ _ _) (meets_dict_get_default _ d (strKind_is prog w k tk) hsys _) ⟨_, hd'.mapOf, ?_⟩
  rcases hp.value (n := k) with ⟨q1, q2⟩ | ⟨a, t, u, p, q1, q2, q3⟩
  · rw [q1]; exact h D (.inr ⟨rfl, by unfold deedOf; rw [q2]; rfl⟩)
  · rw [q1]; exact h a (.inl ⟨t, u, by unfold deedOf; rw [q2]; exact q3⟩)
theorem getMethod_pair {pl : Sem Bool} {Q : Value × List Value → Shared → Prop} (F : Fr h₀ L s.heap m) (hd : h₀.DictOf (strKind prog w) d kvs) (h : Q (.builtin "dict.get", [.ref d]) s) : wpAny (model prog w) A (getMethod (.ref d) "get" pl) Q E s :=
  let hd' := hd.keep F.keep
  getMethod_builtin hd'.typeIs PySem.F.plainAttrs_dict PySem.F.slot_dict_get PySem.F.type_dict_get hd'.mapOf.noDict h
theorem ne_tup {Q : Value → Shared → Prop} {X Y : Addr} {p q : Str × Int} {t u t' u' : Tok} (hX : s.heap.get? X = some (tupObj p.1 t p.2 u)) (hY : s.heap.get? Y = some (tupObj q.1 t' q.2 u')) (hu : A.units + 64 < cLine) (ok : PyData.strOk q.1 = true) (e : p = q) (h : Q (.bool false) s) :
    wpAny (model prog w) A (compareOp .NotEq (.ref X) (.ref Y)) Q E s := by
  subst e
  obtain ⟨as, rX⟩ := Reads.ofTup hX
  obtain ⟨bs, rY⟩ := Reads.ofTup hY
  have sh : SeqAt.shaped (PyData.tuple [PyData.str p.1, PyData.int p.2]) = true := by simp [SeqAt.shaped, PyData.canLay0, PyData.canLayAll0, PyData.depth, PyData.depthAll, ok]
  refine ne_dataH rX rY sh sh hu ?_
  simpa [PyData.eqv, PyData.eqvAll] using h
end
end Mine
end
section
-- part RightD
open PySem PySem.W PySem.Calls PyProof.Rows PyProof.V PySem.Spec
namespace Mine
structure InVal : Prop where
theorem InVal.go {P : Prop} (h : InVal → P) : P := h ⟨⟩
structure NameSays (n x : Str) (c : Bool) : Prop where
  ways : (c = true ∧ 1 ≤ n.length) ∨ c = false
structure InTest : Prop where
theorem InTest.go {P : Prop} (h : InTest → P) : P := h ⟨⟩
noncomputable def endOf (n : Str) : Str := (look condT n).getD (Str.ofString "")
noncomputable def flowDef (n : Str) : Str := cond (endOf n != Str.ofString "") (cond (Txt.item n 0 == Str.ofString "j") (Str.ofString "branch") (Str.ofString "on")) (Str.ofString "on")
section
variable {prog : Program} {w : World} {A : Around} {E : Value → Shared → Prop} {s : Shared} {h₀ : Heap} {L : Addr} {m : Str → Option Value} {news : List (Addr × Obj)}
theorem joinF {c : Sem Value} {Q : Value → Shared → Prop} {n x : Str} {b : Bool} (hNS : NameSays n x b) (F : Fr h₀ L s.heap m) (N : News h₀ L s.heap news)
    (h1 : b = true → 1 ≤ n.length → InVal → wpAny (model prog w) A c (OneS (flowDef n) h₀ L m news s) E s) (h2 : b = false → InVal → wpAny (model prog w) A c (OneS (flowDef n) h₀ L m news s) E s)
    (hk : ∀ t h tk, Fr h₀ L h m → News h₀ L h news → Q (.str (flowDef n) t) { s with heap := h, toks := tk }) : wpAny (model prog w) A c Q E s :=
  joinS (flowDef n) F N (hNS.ways.elim (fun h => h1 h.1 h.2 ⟨⟩) (fun h => h2 h ⟨⟩)) hk
theorem item_deed {value slice : PySem.Expr} {Q : Value → Shared → Prop} {X : Addr} {a : Str} {b : Int} {t u tk : Tok} (e : s.heap.get? X = some (tupObj a t b u)) (h : Q (.str a t) s)
    (hs : subscripted slice false (.ref X) (.int 0 tk) = operate [.ref X, .int 0 tk] (getItem (.ref X) (.int 0 tk)) := by with_unfolding_all rfl) :
    wpAny (model prog w) A (subscriptTail value slice (.ref X) (.int 0 tk)) Q E s :=
  item_tupleT ⟨_, e, rfl, 0, rfl⟩ (by decide) (by decide) rfl rfl h hs
theorem strs_reads {h : Heap} {l : Addr} {vs : List Value} {L : List Str} (hl : h.IsList l vs.toArray) (hv : StrsAre vs L) : ∃ as, Reads h (.ref l) (.list (L.map PyData.str)) as := by
  obtain ⟨o, ho, hc, n, hd⟩ := hl
  have : ∀ {vs : List Value} {L : List Str}, StrsAre vs L → ∃ as, ReadsAll h vs (L.map PyData.str) as := by
    intro vs L hv
    induction hv with
    | nil => exact ⟨_, ReadsAll.nil⟩
    | cons y t _ ih => obtain ⟨as, ih⟩ := ih; exact ⟨_, ReadsAll.cons (Reads.str _ _) ih⟩
  obtain ⟨as, ha⟩ := this hv
  exact ⟨_, reads_list_at ho hc hd ha⟩
theorem eqv_strs : ∀ L : List Str, PyData.eqvAll (L.map PyData.str) (L.map PyData.str) = true
  | [] => by simp [PyData.eqvAll]
  | a :: r => by simp [PyData.eqvAll, PyData.eqv, eqv_strs r]
theorem shaped_strs {L : List Str} (ok : ∀ x ∈ L, PyData.strOk x = true) : SeqAt.shaped (PyData.list (L.map PyData.str)) = true := by
  have h1 : ∀ {L : List Str}, (∀ x ∈ L, PyData.strOk x = true) → PyData.canLayAll0 (L.map PyData.str) = true := by
    intro L hL
    induction L with
    | nil => rfl
    | cons a r ih => simp only [List.map_cons, PyData.canLayAll0, PyData.canLay0, hL a (by simp), Bool.true_and]; exact ih fun x hx => hL x (by simp [hx])
  have h2 : ∀ L : List Str, PyData.depthAll (L.map PyData.str) = 0 := by
    intro L
    induction L with
    | nil => rfl
    | cons a r ih => simp [PyData.depthAll, PyData.depth, ih]
  simp [SeqAt.shaped, PyData.canLay0, PyData.depth, h1 ok, h2]
theorem ne_strs {Q : Value → Shared → Prop} {a b : Addr} {xs ys : List Value} {L L' : List Str} (e : L = L') (ha : s.heap.IsList a xs.toArray) (hx : StrsAre xs L) (hb : s.heap.IsList b ys.toArray) (hy : StrsAre ys L') (ok : ∀ x ∈ L', PyData.strOk x = true) (hu : A.units + 64 < cLine) (h : Q (.bool false) s) :
    wpAny (model prog w) A (compareOp .NotEq (.ref a) (.ref b)) Q E s := by
  subst e
  obtain ⟨as, rX⟩ := strs_reads ha hx
  obtain ⟨bs, rY⟩ := strs_reads hb hy
  refine ne_dataH rX rY (shaped_strs ok) (shaped_strs ok) hu ?_
  simpa [PyData.eqv, eqv_strs] using h
theorem eq_strs {Q : Value → Shared → Prop} {a b : Addr} {xs ys : List Value} {L L' : List Str} (e : L = L') (ha : s.heap.IsList a xs.toArray) (hx : StrsAre xs L) (hb : s.heap.IsList b ys.toArray) (hy : StrsAre ys L') (ok : ∀ x ∈ L', PyData.strOk x = true) (hu : A.units + 64 < cLine) (h : Q (.bool true) s) :
    wpAny (model prog w) A (compareOp .Eq (.ref a) (.ref b)) Q E s := by
  subst e
  obtain ⟨as, rX⟩ := strs_reads ha hx
  obtain ⟨bs, rY⟩ := strs_reads hb hy
  refine eq_dataH rX rY (shaped_strs ok) (shaped_strs ok) hu ?_
  simpa [PyData.eqv, eqv_strs] using h
structure DeedWays (n : Str) : Prop where
  ways : ((deedOf n).1 = Str.ofString "" ∧ repOf n = []) ∨ ((deedOf n).1 = Str.ofString "cmps" ∧ repOf n = [Str.ofString "rep", Str.ofString "repne"]) ∨ ((deedOf n).1 = Str.ofString "scas" ∧ repOf n = [Str.ofString "rep", Str.ofString "repne"]) ∨ ((deedOf n).1 = Str.ofString "movs" ∧ repOf n = [Str.ofString "rep"]) ∨ ((deedOf n).1 = Str.ofString "stos" ∧ repOf n = [Str.ofString "rep"]) ∨ ((deedOf n).1 = Str.ofString "lods" ∧ repOf n = [Str.ofString "rep"])
end
end Mine
end
section
-- part Comp
open PySem PySem.W PySem.Calls PyProof.Rows PySem.Spec
namespace Mine
open LCg LCt
section
variable {prog : Program} {w : World} {A : Around} {E : Value → Shared → Prop} {s : Shared} {h₀ : Heap} {L : Addr} {m : Str → Option Value} {env : Env}
noncomputable def TupSrc (prog : Program) (w : World) (A : Around) (h₀ : Heap) (L : Addr) (m : Str → Option Value) (env : Env) (elt : PySem.Expr) (x : Str) (scope : Scope) (cl : List (Str × Addr)) (Fin : Shared → List Value → List (Addr × Obj) → Prop) (xv : Value) (s₁ : Shared) : Prop :=
  ∃ ax lo vs k news, xv = .ref ax ∧ A.handled = none ∧ Fr h₀ L s₁.heap m ∧ News h₀ L s₁.heap news ∧ (h₀.get? ax = some lo ∨ (ax, lo) ∈ news) ∧ lo.cls = .type "tuple" ∧ lo.data = .seq (List.toArray vs) k ∧ vs.length ≤ sizeLine ∧
    ∀ s₂ : Shared, (∃ h, s₂ = { s₁ with heap := h }) → CompRest prog w A h₀ L m env elt x scope cl s₂ (fun nw => h₀.get? ax = some lo ∨ (ax, lo) ∈ nw) (fun i v => (List.toArray vs)[i]? = some v) (Fin s₂) vs.length 0 [] news
theorem TupSrc.ledger {elt : PySem.Expr} {x : Str} {scope : Scope} {cl : List (Str × Addr)} {Fin : Shared → List Value → List (Addr × Obj) → Prop} {ax : Addr} {lo : Obj} {vs : List Value} {k : Nat} {news : List (Addr × Obj)} {s₁ : Shared}
    (hh : A.handled = none) (F : Fr h₀ L s₁.heap m) (N : News h₀ L s₁.heap news) (hm : (ax, lo) ∈ news) (hc : lo.cls = .type "tuple") (hd : lo.data = .seq (List.toArray vs) k) (hsz : vs.length ≤ sizeLine)
    (h : ∀ g, CompRest prog w A h₀ L m env elt x scope cl { s₁ with heap := g } (fun nw => h₀.get? ax = some lo ∨ (ax, lo) ∈ nw) (fun i v => (List.toArray vs)[i]? = some v) (Fin { s₁ with heap := g }) vs.length 0 [] news) :
    TupSrc prog w A h₀ L m env elt x scope cl Fin (.ref ax) s₁ := ⟨ax, lo, vs, k, news, rfl, hh, F, N, .inr hm, hc, hd, hsz, fun _ ⟨g, e⟩ => e ▸ h g⟩
theorem TupSrc.base {elt : PySem.Expr} {x : Str} {scope : Scope} {cl : List (Str × Addr)} {Fin : Shared → List Value → List (Addr × Obj) → Prop} {ax : Addr} {lo : Obj} {vs : List Value} {k : Nat} {news : List (Addr × Obj)} {s₁ : Shared}
    (hh : A.handled = none) (F : Fr h₀ L s₁.heap m) (N : News h₀ L s₁.heap news) (hm : h₀.get? ax = some lo) (hc : lo.cls = .type "tuple") (hd : lo.data = .seq (List.toArray vs) k) (hsz : vs.length ≤ sizeLine)
    (h : ∀ g, CompRest prog w A h₀ L m env elt x scope cl { s₁ with heap := g } (fun nw => h₀.get? ax = some lo ∨ (ax, lo) ∈ nw) (fun i v => (List.toArray vs)[i]? = some v) (Fin { s₁ with heap := g }) vs.length 0 [] news) :
    TupSrc prog w A h₀ L m env elt x scope cl Fin (.ref ax) s₁ := ⟨ax, lo, vs, k, news, rfl, hh, F, N, .inl hm, hc, hd, hsz, fun _ ⟨g, e⟩ => e ▸ h g⟩
theorem ListComp_tup {elt iter : PySem.Expr} {x : Str} {px : Pos} {scope : Scope} {cl : List (Str × Addr)} {pos : Pos} {Q : Value → Shared → Prop} (_F₀ : Fr h₀ L s.heap m)
    (hclos : closureFor scope env = pure cl) (hcell : ∀ y ∈ scope.names, y.2 ≠ .cell) (hkind : scope.kind = .function)
    (hnames : ∀ y ∈ scope.names, y.2 = .local → scope.names.lookup y.1 = some .local) (hx : scope.names.lookup x = some .local)
    (h : wpAny (model prog w) A (eval iter env) (TupSrc prog w A h₀ L m env elt x scope cl (fun s₂ => FinE h₀ L m s₂ Q)) E s)
    (hs : ∀ x, foldedSetIterable iter env x = pure x := by intro _; rfl) :
    wpAny (model prog w) A (eval (.ListComp elt [⟨.Name x px, iter, [], 0⟩] scope pos) env) Q E s := by
  rw [eval_ListComp]
  refine wpAny_comprehension_free (use := none) rfl hs hclos hkind hnames (wpAny_mono h (fun xv s₁ h₁ => ?_) fun _ _ e => e)
  obtain ⟨ax, lo, vs, k, news, rfl, hh, F, N, hm, hc, hd, hsz, R⟩ := h₁
  have hax : s₁.heap.get? ax = some lo := hm.elim (F.keep _ _) fun h => (N _ h).1
  have hl : s₁.heap.IsTuple ax vs.toArray := ⟨lo, hax, hc, k, hd⟩
  have hlt : ax < s₁.heap.objs.size := Heap.lt_size hax
  refine wpAny_pyIter_tuple hl ?_
  have up : ∀ (ob : Obj) b o, s₁.heap.get? b = some o → (s₁.heap.push ob).get? b = some o := fun ob b o e => Heap.get?_push_of_some _ e
  refine block_U (St := fun i h => h.IsTupleIter s₁.heap.objs.size ax i ∧ h.IsTuple ax vs.toArray) (Walks.tuple hh s₁.heap.objs.size ax (Nat.ne_of_lt hlt) vs.toArray) (by rw [List.size_toArray]; exact hsz) (fun i h st => by obtain ⟨o, e, _⟩ := st.1; exact ⟨o, e⟩) (S := fun nw => h₀.get? ax = some lo ∨ (ax, lo) ∈ nw) ?_ hcell hkind hx ⟨⟨_, Heap.get?_push_size _ rfl, rfl, rfl⟩, hl.at fun o e => up _ _ o e⟩ (fun b hb => ?_)
    (F.keeps (up _)) (N.grown (up _)) (Nat.ne_of_lt F.ns.lt) (next_is_new F) (fun p hp => Nat.ne_of_lt (Heap.lt_size (N p hp).1)) hm (by rw [List.size_toArray]; exact R _ ⟨_, rfl⟩) ?_
  · intro i h h' o nw st e e' kk N' S
    exact ⟨by obtain ⟨o', q, r⟩ := st.1; rw [e] at q; cases q; exact ⟨o, e', r⟩, ⟨lo, S.elim (kk _ _) (fun z => (N' _ z).1), hc, k, hd⟩⟩
  · show b < (s₁.heap.push _).objs.size
    rw [Heap.size_push]
    rcases List.mem_cons.mp hb with rfl | hb
    · exact Nat.lt_succ_self _
    · rw [List.mem_singleton.mp hb]; exact Nat.lt_succ_of_lt hlt
  · intro D C h tk m' ys news' F' N' o1 hn hC₀ hD₀ hCL hDL hCD offC fin
    refine ⟨m', hn, fun h'' hs'' => fin D h'' tk (F'.change hs'' hCL hC₀) (fun p hp => ?_) o1⟩
    refine ⟨hs''.extBut _ _ ?_ (N' p hp).1, (N' p hp).2⟩
    rcases List.mem_cons.mp hp with rfl | hp
    · exact Ne.symm hCD
    · exact offC p hp
end
end Mine
namespace Mine
open LCg LCt
section
variable {prog : Program} {w : World} {K : Type} [DecidableEq K] {knd : KeyKind prog w K} {A : Around} {E : Value → Shared → Prop} {s : Shared} {h₀ : Heap} {L : Addr} {m : Str → Option Value} {env : Env}
theorem compEnd_mono {s₁ s₂ : Shared} {I C D : Addr} {oI oC oD : Obj} {S : List (Addr × Obj) → Prop} {r r' : Value → List (Addr × Obj) → Prop} {y : Value} (hr : ∀ news', r y news' → r' y news')
    (h : CompEnd h₀ L m s₁ I oI C oC D oD S r y s₂) : CompEnd h₀ L m s₁ I oI C oC D oD S r' y s₂ := by
  obtain ⟨h', tk, news', a, b, c, d, e, f⟩ := h
  exact ⟨h', tk, news', a, b, c, d, e, hr _ f⟩
theorem restT_inv {ct elt : PySem.Expr} {x : Str} {scope : Scope} {cl : List (Str × Addr)} {S : List (Addr × Obj) → Prop} {P : Nat → Value → Prop} {Fin : List Value → List (Addr × Obj) → Prop} {news : List (Addr × Obj)} {n : Nat} (J : Nat → List Value → Prop)
    (hfin : ∀ ys, J n ys → Fin ys news)
    (turn : ∀ i v ys I oI C oC D m₂ h tk (E' : Value → Shared → Prop), i < n → J i ys → P i v → NsObj oC m₂ → m₂ x = some v → Fr h₀ L h m → News h₀ L h ((I, oI) :: (C, oC) :: (D, lst ys) :: news) → Off3 I C D news → ((@Ne Nat I C) ∧ (@Ne Nat I D) ∧ (@Ne Nat C D)) →
      wpAny (model prog w) A (isTrue ct (compEnvC scope cl C env) (eval ct (compEnvC scope cl C env))) (fun ok s' => if ok = true then
        wpAny (model prog w) A (eval elt (compEnvC scope cl C env)) (CompEnd h₀ L m { s with heap := h, toks := tk } I oI C oC D (lst ys) S (fun y news' => news' = news ∧ J (i + 1) (ys ++ [y]))) E' s'
        else CompEnd h₀ L m { s with heap := h, toks := tk } I oI C oC D (lst ys) S (fun _ news' => news' = news ∧ J (i + 1) ys) Value.none s') E' { s with heap := h, toks := tk }) :
    ∀ k i ys, i + k = n → J i ys → CompRestT prog w A h₀ L m env ct elt x scope cl s S P Fin k i ys news
  | 0, i, ys, e, hJ => CompRestT.zero (hfin ys (by rw [← e]; exact hJ))
  | k + 1, i, ys, e, hJ => by
    refine CompRestT.succ fun v I oI C oC D m₂ h tk E' hP hC hx F N off ne => ?_
    refine wpAny_mono (turn i v ys I oI C oC D m₂ h tk E' (by omega) hJ hP hC hx F N off ne) (fun ok s' hq => ?_) fun _ _ h => h
    by_cases ho : ok = true
    · rw [if_pos ho] at hq ⊢
      exact wpAny_mono hq (fun y s₂ hc => compEnd_mono (fun news' hr => by
        obtain ⟨rfl, hj⟩ := hr
        exact restT_inv J hfin turn k (i + 1) _ (by omega) hj) hc) fun _ _ h => h
    · rw [if_neg ho] at hq ⊢
      exact compEnd_mono (fun news' hr => by
        obtain ⟨rfl, hj⟩ := hr
        exact restT_inv J hfin turn k (i + 1) _ (by omega) hj) hq
noncomputable def DictSrcT (knd : KeyKind prog w K) (A : Around) (h₀ : Heap) (L : Addr) (m : Str → Option Value) (env : Env) (ct elt : PySem.Expr) (x : Str) (scope : Scope) (cl : List (Str × Addr)) (Fin : Shared → List Value → List (Addr × Obj) → Prop) (xv : Value) (s₁ : Shared) : Prop :=
  ∃ d o kvs news, xv = .ref d ∧ A.handled = none ∧ Fr h₀ L s₁.heap m ∧ News h₀ L s₁.heap news ∧ (d == sysModules) = false ∧ (h₀.get? d = some o ∨ (d, o) ∈ news) ∧ o.IsDictOf knd kvs ∧ kvs.length ≤ sizeLine ∧
    ∀ s₂ : Shared, (∃ h, s₂ = { s₁ with heap := h }) → CompRestT prog w A h₀ L m env ct elt x scope cl s₂ (fun nw => h₀.get? d = some o ∨ (d, o) ∈ nw) (fun i v => ∃ k y, kvs[i]? = some (k, y) ∧ knd.is k v = true) (Fin s₂) kvs.length 0 [] news
theorem ListComp_dictT {ct elt iter : PySem.Expr} {x : Str} {px : Pos} {scope : Scope} {cl : List (Str × Addr)} {pos : Pos} {Q : Value → Shared → Prop} (knd : KeyKind prog w K) (_F₀ : Fr h₀ L s.heap m)
    (hclos : closureFor scope env = pure cl) (hcell : ∀ y ∈ scope.names, y.2 ≠ .cell) (hkind : scope.kind = .function)
    (hnames : ∀ y ∈ scope.names, y.2 = .local → scope.names.lookup y.1 = some .local) (hx : scope.names.lookup x = some .local)
    (h : wpAny (model prog w) A (eval iter env) (DictSrcT knd A h₀ L m env ct elt x scope cl (fun s₂ => FinE h₀ L m s₂ Q)) E s)
    (hs : ∀ x, foldedSetIterable iter env x = pure x := by intro _; rfl) :
    wpAny (model prog w) A (eval (.ListComp elt [⟨.Name x px, iter, [ct], 0⟩] scope pos) env) Q E s := by
  rw [eval_ListComp]
  refine wpAny_comprehension_free (use := none) rfl hs hclos hkind hnames (wpAny_mono h (fun xv s₁ h₁ => ?_) fun _ _ e => e)
  obtain ⟨d, o, kvs, news, rfl, hh, F, N, hsys, ho, ⟨es, ep, o1, o2, o3, o4, o5⟩, hsz, R⟩ := h₁
  have hgd : s₁.heap.get? d = some o := ho.elim (F.keep _ _) fun hm => (N _ hm).1
  have hl : s₁.heap.DictAt knd d kvs ep := ⟨o, es, hgd, o1, o2, o3, o4, o5⟩
  have hlt : d < s₁.heap.objs.size := Heap.lt_size hgd
  refine wpAny_pyIter_dict hsys hl ?_
  have up : ∀ (ob : Obj) b o, s₁.heap.get? b = some o → (s₁.heap.push ob).get? b = some o := fun ob b o e => Heap.get?_push_of_some _ e
  refine block_T (Walks.dictKeys (knd := knd) hh s₁.heap.objs.size d (Nat.ne_of_lt hlt) kvs ep) hsz (fun i h st => by obtain ⟨o, e, _⟩ := st.1; exact ⟨o, e⟩) (S := fun nw => h₀.get? d = some o ∨ (d, o) ∈ nw) ?_ hcell hkind hx ⟨⟨_, Heap.get?_push_size _ rfl, rfl, rfl⟩, hl.at' fun o e => up _ _ o e⟩ (fun b hb => ?_)
    (F.keeps (up _)) (N.grown (up _)) (Nat.ne_of_lt F.ns.lt) (next_is_new F) (fun p hp => Nat.ne_of_lt (Heap.lt_size (N p hp).1)) ho (R _ ⟨_, rfl⟩) ?_
  · intro i h h' o' nw st e e' k N' S
    exact ⟨by obtain ⟨o'', q, r⟩ := st.1; rw [e] at q; cases q; exact ⟨o', e', r⟩, ⟨o, es, S.elim (k _ _) (fun hm => (N' _ hm).1), o1, o2, o3, o4, o5⟩⟩
  · show b < (s₁.heap.push _).objs.size
    rw [Heap.size_push]
    rcases List.mem_cons.mp hb with rfl | hb
    · exact Nat.lt_succ_self _
    · rw [List.mem_singleton.mp hb]; exact Nat.lt_succ_of_lt hlt
  · intro D C h tk m' ys news' F' N' o1 hn hC₀ hD₀ hCL hDL hCD offC fin
    refine ⟨m', hn, fun h'' hs'' => fin D h'' tk (F'.change hs'' hCL hC₀) (fun p hp => ?_) o1⟩
    refine ⟨hs''.extBut _ _ ?_ (N' p hp).1, (N' p hp).2⟩
    rcases List.mem_cons.mp hp with rfl | hp
    · exact Ne.symm hCD
    · exact offC p hp
end
end Mine
end
section
-- part SlotA
open PySem PySem.W PySem.Calls PyProof.Rows PyProof.V PySem.Spec
namespace Mine
noncomputable def takesMem (k : Str) : Bool := cond (Txt.slice k none (some 1) == Str.ofString "m") (Txt.slice k none (some 1) == Str.ofString "m") (cond (Txt.slice k none (some 2) == Str.ofString "rm") (Txt.slice k none (some 2) == Str.ofString "rm") (Txt.slice k none (some 2) == Str.ofString "xm"))
theorem lines_SlotA_1 : True := by
  w_top off
  k_with_none
  trivial
set_option maxRecDepth 100000 in
set_option maxHeartbeats 8000000 in
theorem is_fixed_c (w : World) (kd : Str) (tk : Tok) (hlen : kd.length ≤ 1000) :
    Pure w 3 56 [.str kd tk] (fun _ => True) (fun _ r _ => ∃ b, r = .bool b) := by
  unfold Pure
  k_fill
  intro mean mg mb dp un gd cn cs a ccd cl outer A₀ base h₀ L m s Q E B F X T hk hd hu hP hret
  refine wpAny_call ?_
  k_dflt (refine' enterG (binds := [(Str.ofString "kind", Value.str kd tk)]) ?k1 ?k2 ?k3 News.nil ?k5 ?kA ?kF ?kK ?k6 ?k7 ?k8 ?k9 ?kB ?_ ?c2 ?c3 ?c4 ?c5; (case kA => exact rfl); (case kF => exact rfl); (case kK => assumption); (case k1 => k_asm); (case k2 => k_asm); (case k3 => k_asm); (case k5 => k_asm); (case k6 => k_is); (case k7 => k_is); (case k8 => ktr_room); (case k9 => exact BindsTo.of_eq rfl); (case c5 => decide); (case kB => exact locs rfl); (case c2 => exact rfl); (case c3 => exact rfl); (case c4 => exact rfl); k_whole; intro g' L' h' hG hG2 FG' F' N' B' X' T'; (try dsimp only); (try k_lift B'); (try k_fold))
  k_steps
  all_goals exact hret _ _ _ (keep_of hG (by assumption)) ⟨_, rfl⟩
set_option maxRecDepth 100000 in
set_option maxHeartbeats 8000000 in
theorem is_immediate_c (w : World) (kd : Str) (tk : Tok) (hlen : kd.length ≤ 1000) :
    Pure w 3 63 [.str kd tk] (fun _ => True) (fun _ r _ => ∃ b, r = .bool b) := by
  unfold Pure
  k_fill
  intro mean mg mb dp un gd cn cs a ccd cl outer A₀ base h₀ L m s Q E B F X T hk hd hu hP hret
  refine wpAny_call ?_
  k_dflt (refine' enterG (binds := [(Str.ofString "kind", Value.str kd tk)]) ?k1 ?k2 ?k3 News.nil ?k5 ?kA ?kF ?kK ?k6 ?k7 ?k8 ?k9 ?kB ?_ ?c2 ?c3 ?c4 ?c5; (case kA => exact rfl); (case kF => exact rfl); (case kK => assumption); (case k1 => k_asm); (case k2 => k_asm); (case k3 => k_asm); (case k5 => k_asm); (case k6 => k_is); (case k7 => k_is); (case k8 => ktr_room); (case k9 => exact BindsTo.of_eq rfl); (case c5 => decide); (case kB => exact locs rfl); (case c2 => exact rfl); (case c3 => exact rfl); (case c4 => exact rfl); k_whole; intro g' L' h' hG hG2 FG' F' N' B' X' T'; (try dsimp only); (try k_lift B'); (try k_fold))
  k_steps
  all_goals exact hret _ _ _ (keep_of hG (by assumption)) ⟨_, rfl⟩
set_option maxRecDepth 100000 in
set_option maxHeartbeats 8000000 in
theorem is_relative_c (w : World) (kd : Str) (tk : Tok) (hlen : kd.length ≤ 1000) :
    Pure w 3 70 [.str kd tk] (fun _ => True) (fun _ r _ => ∃ b, r = .bool b) := by
  unfold Pure
  k_fill
  intro mean mg mb dp un gd cn cs a ccd cl outer A₀ base h₀ L m s Q E B F X T hk hd hu hP hret
  refine wpAny_call ?_
  k_dflt (refine' enterG (binds := [(Str.ofString "kind", Value.str kd tk)]) ?k1 ?k2 ?k3 News.nil ?k5 ?kA ?kF ?kK ?k6 ?k7 ?k8 ?k9 ?kB ?_ ?c2 ?c3 ?c4 ?c5; (case kA => exact rfl); (case kF => exact rfl); (case kK => assumption); (case k1 => k_asm); (case k2 => k_asm); (case k3 => k_asm); (case k5 => k_asm); (case k6 => k_is); (case k7 => k_is); (case k8 => ktr_room); (case k9 => exact BindsTo.of_eq rfl); (case c5 => decide); (case kB => exact locs rfl); (case c2 => exact rfl); (case c3 => exact rfl); (case c4 => exact rfl); k_whole; intro g' L' h' hG hG2 FG' F' N' B' X' T'; (try dsimp only); (try k_lift B'); (try k_fold))
  k_steps
  all_goals exact hret _ _ _ (keep_of hG (by assumption)) ⟨_, rfl⟩
set_option maxRecDepth 100000 in
set_option maxHeartbeats 8000000 in
theorem takes_memory_c (w : World) (kd : Str) (tk : Tok) (hlen : kd.length ≤ 1000) :
    Pure w 3 77 [.str kd tk] (fun _ => True) (fun _ r _ => r = .bool (takesMem kd)) := by
  unfold Pure
  k_fill
  intro mean mg mb dp un gd cn cs a ccd cl outer A₀ base h₀ L m s Q E B F X T hk hd hu hP hret
  refine wpAny_call ?_
  k_dflt (refine' enterG (binds := [(Str.ofString "kind", Value.str kd tk)]) ?k1 ?k2 ?k3 News.nil ?k5 ?kA ?kF ?kK ?k6 ?k7 ?k8 ?k9 ?kB ?_ ?c2 ?c3 ?c4 ?c5; (case kA => exact rfl); (case kF => exact rfl); (case kK => assumption); (case k1 => k_asm); (case k2 => k_asm); (case k3 => k_asm); (case k5 => k_asm); (case k6 => k_is); (case k7 => k_is); (case k8 => ktr_room); (case k9 => exact BindsTo.of_eq rfl); (case c5 => decide); (case kB => exact locs rfl); (case c2 => exact rfl); (case c3 => exact rfl); (case c4 => exact rfl); k_whole; intro g' L' h' hG hG2 FG' F' N' B' X' T'; (try dsimp only); (try k_lift B'); (try k_fold))
  k_steps
  all_goals exact hret _ _ _ (keep_of hG (by assumption)) (congrArg Value.bool (by symm; unfold takesMem; (repeat (first | refine (cond_t (by assumption)).trans ?_ | refine (cond_f (by assumption)).trans ?_)); rfl))
end Mine
end
section
-- part SlotB
open PySem PySem.W PySem.Calls PyProof.Rows PyProof.V PySem.Spec
namespace Mine
theorem lines_SlotB_1 : True := by
  w_top off
  k_with_none
  k_with "call ref" => (k_here; (with_reducible show wpAny _ _ (call (Value.ref 56) _) _ _ _); k_dflt ((refine' Pure.use (is_fixed_c _ _ _ (by assumption)) ?qq12B ?qq12F ?qq12X ?qq12N ?qq12T ?qq12k ?qq12d ?qq12u True.intro ?_); (case qq12B => k_asm); (case qq12F => k_asm); (case qq12X => k_asm); (case qq12N => k_asm); (case qq12T => k_asm); (case qq12k => first | rfl | assumption); (case qq12d => ktr_room); (case qq12u => ktr_units); intro r9 h9 tk9 F9 N9 st9 fr9 hO9; obtain ⟨b9, hr9⟩ := hO9; subst hr9; clear fr9 st9; (try dsimp only); (try k_fold)))
  k_with "call ref" => (k_here; (with_reducible show wpAny _ _ (call (Value.ref 63) _) _ _ _); k_dflt ((refine' Pure.use (is_immediate_c _ _ _ (by assumption)) ?qq13B ?qq13F ?qq13X ?qq13N ?qq13T ?qq13k ?qq13d ?qq13u True.intro ?_); (case qq13B => k_asm); (case qq13F => k_asm); (case qq13X => k_asm); (case qq13N => k_asm); (case qq13T => k_asm); (case qq13k => first | rfl | assumption); (case qq13d => ktr_room); (case qq13u => ktr_units); intro r9 h9 tk9 F9 N9 st9 fr9 hO9; obtain ⟨b9, hr9⟩ := hO9; subst hr9; clear fr9 st9; (try dsimp only); (try k_fold)))
  k_with "call ref" => (k_here; (with_reducible show wpAny _ _ (call (Value.ref 70) _) _ _ _); k_dflt ((refine' Pure.use (is_relative_c _ _ _ (by assumption)) ?qq14B ?qq14F ?qq14X ?qq14N ?qq14T ?qq14k ?qq14d ?qq14u True.intro ?_); (case qq14B => k_asm); (case qq14F => k_asm); (case qq14X => k_asm); (case qq14N => k_asm); (case qq14T => k_asm); (case qq14k => first | rfl | assumption); (case qq14d => ktr_room); (case qq14u => ktr_units); intro r9 h9 tk9 F9 N9 st9 fr9 hO9; obtain ⟨b9, hr9⟩ := hO9; subst hr9; clear fr9 st9; (try dsimp only); (try k_fold)))
  k_with "call ref" => (k_here; (with_reducible show wpAny _ _ (call (Value.ref 77) _) _ _ _); k_dflt ((refine' Pure.use (takes_memory_c _ _ _ (by assumption)) ?qq15B ?qq15F ?qq15X ?qq15N ?qq15T ?qq15k ?qq15d ?qq15u True.intro ?_); (case qq15B => k_asm); (case qq15F => k_asm); (case qq15X => k_asm); (case qq15N => k_asm); (case qq15T => k_asm); (case qq15k => first | rfl | assumption); (case qq15d => ktr_room); (case qq15u => ktr_units); intro r9 h9 tk9 F9 N9 st9 fr9 hO9; subst hO9; clear fr9 st9; (try dsimp only); (try k_fold)))
  trivial
set_option maxRecDepth 100000 in
set_option maxHeartbeats 8000000 in
theorem slot_of_c (w : World) (kd : Str) (tk : Tok) (hlen : kd.length ≤ 1000) :
    Pure w 6 84 [.str kd tk] (fun _ => True) (fun _ r _ => ∃ x t, r = .str x t) := by
  unfold Pure
  k_fill
  intro mean mg mb dp un gd cn cs a ccd cl outer A₀ base h₀ L m s Q E B F X T hk hd hu hP hret
  refine wpAny_call ?_
  k_dflt (refine' enterG (binds := [(Str.ofString "kind", Value.str kd tk)]) ?k1 ?k2 ?k3 News.nil ?k5 ?kA ?kF ?kK ?k6 ?k7 ?k8 ?k9 ?kB ?_ ?c2 ?c3 ?c4 ?c5; (case kA => exact rfl); (case kF => exact rfl); (case kK => assumption); (case k1 => k_asm); (case k2 => k_asm); (case k3 => k_asm); (case k5 => k_asm); (case k6 => k_is); (case k7 => k_is); (case k8 => ktr_room); (case k9 => exact BindsTo.of_eq rfl); (case c5 => decide); (case kB => exact locs rfl); (case c2 => exact rfl); (case c3 => exact rfl); (case c4 => exact rfl); k_whole; intro g' L' h' hG hG2 FG' F' N' B' X' T'; (try dsimp only); (try k_lift B'); (try k_fold))
  k_steps
  all_goals exact hret _ _ _ (keep_of hG (by assumption)) ⟨_, _, rfl⟩
end Mine
end
section
-- part FormA
open PySem PySem.W PySem.Calls PyProof.Rows PyProof.V PySem.Spec
namespace Mine
noncomputable def allOf (h₀ : Heap) (L : Addr) (h : Heap) : List (Addr × Obj) := (List.range h.objs.size).filterMap fun a => match h.get? a, h₀.get? a with
  | some o, none => if a = L then none else some (a, o)
  | _, _ => none
theorem allOf_news {h₀ h : Heap} {L : Addr} : News h₀ L h (allOf h₀ L h) := fun p hp => by
  unfold allOf at hp
  obtain ⟨a, _, e⟩ := List.mem_filterMap.mp hp
  split at e
  · rename_i o e1 e2
    split at e
    · cases e
    · cases e; exact ⟨e1, by assumption, e2⟩
  · cases e
theorem allOf_mem {h₀ h : Heap} {L a : Addr} {o : Obj} (e : h.get? a = some o) (n : h₀.get? a = none) (hL : a ≠ L) : (a, o) ∈ allOf h₀ L h := by
  unfold allOf
  refine List.mem_filterMap.mpr ⟨a, List.mem_range.mpr (Heap.lt_size e), ?_⟩
  rw [e, n]
  simp [hL]
noncomputable def FormAt (h : Heap) (x : Addr) (nm : Str) (kd : Addr) : Prop := ∃ dx es n t, h.get? x = some (instObj 142 dx) ∧ h.get? dx = some (dictOf es n) ∧ getL (Str.ofString "name") es = some (some (.str nm t)) ∧ getL (Str.ofString "kinds") es = some (some (.ref kd))
theorem FormAt.keep {h h' : Heap} {x kd : Addr} {nm : Str} (k : ∀ b o, h.get? b = some o → h'.get? b = some o) (f : FormAt h x nm kd) : FormAt h' x nm kd :=
  let ⟨dx, es, n, t, a, b, c, d⟩ := f; ⟨dx, es, n, t, k _ _ a, k _ _ b, c, d⟩
noncomputable def tupOf (vs : List Value) : Obj := { cls := .type "tuple", data := .seq vs.toArray }
end Mine
end
section
-- part FormB
open PySem PySem.W PySem.Calls PyProof.Rows PyProof.V PySem.Spec
namespace Mine
local macro_rules | `(tactic| lcg_src) => `(tactic| first | exact Or.inl (by assumption) | exact Or.inr (by k_mem))
local macro_rules | `(tactic| ktr_units) => `(tactic| (have hcL9 := cLine_is; (simp only [units_under_make, units_in1, units_deeper] at *); (try dsimp only [ktrTop] at *); omega))
theorem lines_FormB_1 : True := by
  w_top off
  k_with_none
  k_with "eval ListComp" => (k_here; k_dflt (refine ListComp_tup (by k_asm) (by with_unfolding_all rfl) (by decide) (by rfl) (by decide) (by rfl) ?_))
  k_with "TupSrc" => (k_here; k_dflt (first | (refine TupSrc.base (by rfl) (by k_asm) (by k_asm) (by assumption) (by rfl) (by rfl) (by exact Nat.le_of_ble_eq_true rfl) ?_; intro g9; lcg_lit) | (refine TupSrc.ledger (by rfl) (by k_asm) (by k_asm) (by k_mem) (by rfl) (by rfl) (by exact Nat.le_of_ble_eq_true rfl) ?_; intro g9; lcg_lit)))
  k_with "call ref" => (k_here; (with_reducible show wpAny _ _ (call (Value.ref 84) _) _ _ _); k_dflt ((refine' Pure.use (slot_of_c _ _ _ (by omega)) ?qq18B ?qq18F ?qq18X ?qq18N ?qq18T ?qq18k ?qq18d ?qq18u True.intro ?_); (case qq18B => k_asm); (case qq18F => k_asm); (case qq18X => k_asm); (case qq18N => k_asm); (case qq18T => k_asm); (case qq18k => first | rfl | assumption); (case qq18d => ktr_room); (case qq18u => ktr_units); intro r9 h9 tk9 F9 N9 st9 fr9 hO9; obtain ⟨x9, t9, hr9⟩ := hO9; subst hr9; clear fr9 st9; (try dsimp only); (try k_fold)))
  trivial
set_option maxRecDepth 100000 in
set_option maxHeartbeats 8000000 in
theorem form0_c (w : World) (nm : Str) (tk t1 : Tok) (kd : Addr)   (mean : ExcName → Option Value) (mg mb : Str → Option Value) (dp un : Nat) (gd : Option (List Code)) (cn : Str) (cs : Scope) (a : Addr) (ccd : Value) (cl : List (Str × Addr)) (outer : List Env) (A₀ : Around) (base h₀ : Heap) (L : Addr) (m : Str → Option Value) (s : Shared) (Q E : Value → Shared → Prop)
    (B : Below A₀ base outer h₀) (F : Fr h₀ L s.heap m) (X : (hd.heap_39 w.params).In h₀) (T : Top hd.view_39 (looseW hd.view_39 []) mean mg mb h₀) (hk : cs.kind = .function) (hd : dp + 12 < recursionLimit) (hu : un + 120 < cLine) (hkd : s.heap.get? kd = some (tupOf [])) (hkL : kd ≠ L)
    (hret : ∀ x h' tk', Fr h₀ L h' m → (∀ b o, b ≠ L → s.heap.get? b = some o → h'.get? b = some o) → h₀.get? x = none → x ≠ L → FormAt h' x nm kd → Q (.ref x) { s with heap := h', toks := tk' }) :
    wpAny (model PySem.Challenge.rw_pq0793_01.row.prog w) (ktrTop dp un gd cn cs L a ccd cl outer) (call (.ref 142) [.str nm tk, .ref kd, .int 1 t1]) Q E s := by
  revert X
  k_fill
  intro X
  refine call_cls F X allOf_news (by k_is) (by k_is) (by k_is) ?_
  intro x dx h1 F1 N1 l1 l2
  have hkeep : ∀ b o, b ≠ L → s.heap.get? b = some o → h1.get? b = some o := fun b o hb e => by
    cases q : h₀.get? b with
    | some o' =>
      have z := F.keep _ _ q
      rw [e] at z
      cases z
      exact F1.keep _ _ q
    | none => exact (N1 _ (.tail _ (.tail _ (allOf_mem e q hb)))).1
  have Nx : News h₀ L h1 [(x, instObj 142 dx), (dx, dictOf [] 0)] := fun p hp => N1 p (by
    simp only [List.mem_cons, List.not_mem_nil, or_false] at hp
    rcases hp with rfl | rfl
    · exact .head _
    · exact .tail _ (.head _))
  have hold : ∀ b o, s.heap.get? b = some o → b ≠ L → b ≠ x ∧ b ≠ dx := fun b o e hb => by
    cases q : h₀.get? b with
    | some o' =>
      refine ⟨fun z => ?_, fun z => ?_⟩
      · have := (Nx _ (.head _)).2.2; rw [← z, q] at this; cases this
      · have := (Nx _ (.tail _ (.head _))).2.2; rw [← z, q] at this; cases this
    | none =>
      have := l1 _ (allOf_mem e q hb)
      dsimp only at this
      exact ⟨Nat.ne_of_lt (Nat.lt_trans this l2), Nat.ne_of_lt this⟩
  k_lt2 l2
  clear l1
  k_dflt (refine' enterG (binds := [(Str.ofString "self", Value.ref x), (Str.ofString "name", Value.str nm tk), (Str.ofString "kinds", Value.ref kd), (Str.ofString "opcode", Value.int 1 t1), (Str.ofString "escape", Value.int 0 296), (Str.ofString "digit", Value.int (-1) 298), (Str.ofString "size", Value.int 0 299), (Str.ofString "must", Value.int 0 300), (Str.ofString "is_wide", Value.bool false)]) ?k1 ?k2 ?k3 Nx ?k5 ?kA ?kF ?kK ?k6 ?k7 ?k8 ?k9 ?kB ?_ ?c2 ?c3 ?c4 ?c5; (case kA => exact rfl); (case kF => exact rfl); (case kK => assumption); (case k1 => k_asm); (case k2 => k_asm); (case k3 => k_asm); (case k5 => k_asm); (case k6 => k_is); (case k7 => k_is); (case k8 => ktr_room); (case k9 => first | exact BindsTo.of_eq rfl | exact binds_K (by k_in) rfl (by k_is) rfl rfl rfl); (case c5 => decide); (case kB => exact locs rfl); (case c2 => exact rfl); (case c3 => exact rfl); (case c4 => exact rfl); k_whole; intro g' L' h' hG hG2 FG' F' N' B' X' T'; (try dsimp only); (try k_lift B'); (try k_fold))
  have hkg : g'.get? kd = some (tupOf []) := hG _ _ (hkeep _ _ hkL hkd) (by have := hold _ _ hkd hkL; simp [this.1, this.2])
  have hkt : IsTup g' kd (List.toArray []) := ⟨_, hkg, rfl, 0, rfl⟩
  k_steps
  rename (News g' _ _ _) => N9
  rename (Fr g' _ _ _) => F9
  refine hret x _ _ (by assumption) (fun b o hb e => F9.keep _ _ (hG _ _ (hkeep _ _ hb e) (by have := hold _ _ e hb; simp [this.1, this.2]))) (Nx _ (.head _)).2.2 (Nx _ (.head _)).2.1 ⟨dx, _, _, _, (N9 (x, instObj 142 dx) (by k_mem)).1, (N9 (dx, dictOf _ _) (by k_mem)).1, rfl, rfl⟩
set_option maxRecDepth 100000 in
set_option maxHeartbeats 8000000 in
theorem form1_c (w : World) (nm : Str) (tk t1 : Tok) (kd : Addr) (k0 : Str) (u0 : Tok) (hk0 : k0.length ≤ 16) (mean : ExcName → Option Value) (mg mb : Str → Option Value) (dp un : Nat) (gd : Option (List Code)) (cn : Str) (cs : Scope) (a : Addr) (ccd : Value) (cl : List (Str × Addr)) (outer : List Env) (A₀ : Around) (base h₀ : Heap) (L : Addr) (m : Str → Option Value) (s : Shared) (Q E : Value → Shared → Prop)
    (B : Below A₀ base outer h₀) (F : Fr h₀ L s.heap m) (X : (hd.heap_39 w.params).In h₀) (T : Top hd.view_39 (looseW hd.view_39 []) mean mg mb h₀) (hk : cs.kind = .function) (hd : dp + 12 < recursionLimit) (hu : un + 120 < cLine) (hkd : s.heap.get? kd = some (tupOf [.str k0 u0])) (hkL : kd ≠ L)
    (hret : ∀ x h' tk', Fr h₀ L h' m → (∀ b o, b ≠ L → s.heap.get? b = some o → h'.get? b = some o) → h₀.get? x = none → x ≠ L → FormAt h' x nm kd → Q (.ref x) { s with heap := h', toks := tk' }) :
    wpAny (model PySem.Challenge.rw_pq0793_01.row.prog w) (ktrTop dp un gd cn cs L a ccd cl outer) (call (.ref 142) [.str nm tk, .ref kd, .int 1 t1]) Q E s := by
  revert X
  k_fill
  intro X
  refine call_cls F X allOf_news (by k_is) (by k_is) (by k_is) ?_
  intro x dx h1 F1 N1 l1 l2
  have hkeep : ∀ b o, b ≠ L → s.heap.get? b = some o → h1.get? b = some o := fun b o hb e => by
    cases q : h₀.get? b with
    | some o' =>
      have z := F.keep _ _ q
      rw [e] at z
      cases z
      exact F1.keep _ _ q
    | none => exact (N1 _ (.tail _ (.tail _ (allOf_mem e q hb)))).1
  have Nx : News h₀ L h1 [(x, instObj 142 dx), (dx, dictOf [] 0)] := fun p hp => N1 p (by
    simp only [List.mem_cons, List.not_mem_nil, or_false] at hp
    rcases hp with rfl | rfl
    · exact .head _
    · exact .tail _ (.head _))
  have hold : ∀ b o, s.heap.get? b = some o → b ≠ L → b ≠ x ∧ b ≠ dx := fun b o e hb => by
    cases q : h₀.get? b with
    | some o' =>
      refine ⟨fun z => ?_, fun z => ?_⟩
      · have := (Nx _ (.head _)).2.2; rw [← z, q] at this; cases this
      · have := (Nx _ (.tail _ (.head _))).2.2; rw [← z, q] at this; cases this
    | none =>
      have := l1 _ (allOf_mem e q hb)
      dsimp only at this
      exact ⟨Nat.ne_of_lt (Nat.lt_trans this l2), Nat.ne_of_lt this⟩
  k_lt2 l2
  clear l1
  k_dflt (refine' enterG (binds := [(Str.ofString "self", Value.ref x), (Str.ofString "name", Value.str nm tk), (Str.ofString "kinds", Value.ref kd), (Str.ofString "opcode", Value.int 1 t1), (Str.ofString "escape", Value.int 0 296), (Str.ofString "digit", Value.int (-1) 298), (Str.ofString "size", Value.int 0 299), (Str.ofString "must", Value.int 0 300), (Str.ofString "is_wide", Value.bool false)]) ?k1 ?k2 ?k3 Nx ?k5 ?kA ?kF ?kK ?k6 ?k7 ?k8 ?k9 ?kB ?_ ?c2 ?c3 ?c4 ?c5; (case kA => exact rfl); (case kF => exact rfl); (case kK => assumption); (case k1 => k_asm); (case k2 => k_asm); (case k3 => k_asm); (case k5 => k_asm); (case k6 => k_is); (case k7 => k_is); (case k8 => ktr_room); (case k9 => first | exact BindsTo.of_eq rfl | exact binds_K (by k_in) rfl (by k_is) rfl rfl rfl); (case c5 => decide); (case kB => exact locs rfl); (case c2 => exact rfl); (case c3 => exact rfl); (case c4 => exact rfl); k_whole; intro g' L' h' hG hG2 FG' F' N' B' X' T'; (try dsimp only); (try k_lift B'); (try k_fold))
  have hkg : g'.get? kd = some (tupOf [.str k0 u0]) := hG _ _ (hkeep _ _ hkL hkd) (by have := hold _ _ hkd hkL; simp [this.1, this.2])
  have hkt : IsTup g' kd (List.toArray [.str k0 u0]) := ⟨_, hkg, rfl, 0, rfl⟩
  k_steps
  rename (News g' _ _ _) => N9
  rename (Fr g' _ _ _) => F9
  refine hret x _ _ (by assumption) (fun b o hb e => F9.keep _ _ (hG _ _ (hkeep _ _ hb e) (by have := hold _ _ e hb; simp [this.1, this.2]))) (Nx _ (.head _)).2.2 (Nx _ (.head _)).2.1 ⟨dx, _, _, _, (N9 (x, instObj 142 dx) (by k_mem)).1, (N9 (dx, dictOf _ _) (by k_mem)).1, rfl, rfl⟩
set_option maxRecDepth 100000 in
set_option maxHeartbeats 8000000 in
theorem form2_c (w : World) (nm : Str) (tk t1 : Tok) (kd : Addr) (k0 : Str) (u0 : Tok) (k1 : Str) (u1 : Tok) (hk0 : k0.length ≤ 16) (hk1 : k1.length ≤ 16) (mean : ExcName → Option Value) (mg mb : Str → Option Value) (dp un : Nat) (gd : Option (List Code)) (cn : Str) (cs : Scope) (a : Addr) (ccd : Value) (cl : List (Str × Addr)) (outer : List Env) (A₀ : Around) (base h₀ : Heap) (L : Addr) (m : Str → Option Value) (s : Shared) (Q E : Value → Shared → Prop)
    (B : Below A₀ base outer h₀) (F : Fr h₀ L s.heap m) (X : (hd.heap_39 w.params).In h₀) (T : Top hd.view_39 (looseW hd.view_39 []) mean mg mb h₀) (hk : cs.kind = .function) (hd : dp + 12 < recursionLimit) (hu : un + 120 < cLine) (hkd : s.heap.get? kd = some (tupOf [.str k0 u0, .str k1 u1])) (hkL : kd ≠ L)
    (hret : ∀ x h' tk', Fr h₀ L h' m → (∀ b o, b ≠ L → s.heap.get? b = some o → h'.get? b = some o) → h₀.get? x = none → x ≠ L → FormAt h' x nm kd → Q (.ref x) { s with heap := h', toks := tk' }) :
    wpAny (model PySem.Challenge.rw_pq0793_01.row.prog w) (ktrTop dp un gd cn cs L a ccd cl outer) (call (.ref 142) [.str nm tk, .ref kd, .int 1 t1]) Q E s := by
  revert X
  k_fill
  intro X
  refine call_cls F X allOf_news (by k_is) (by k_is) (by k_is) ?_
  intro x dx h1 F1 N1 l1 l2
  have hkeep : ∀ b o, b ≠ L → s.heap.get? b = some o → h1.get? b = some o := fun b o hb e => by
    cases q : h₀.get? b with
    | some o' =>
      have z := F.keep _ _ q
      rw [e] at z
      cases z
      exact F1.keep _ _ q
    | none => exact (N1 _ (.tail _ (.tail _ (allOf_mem e q hb)))).1
  have Nx : News h₀ L h1 [(x, instObj 142 dx), (dx, dictOf [] 0)] := fun p hp => N1 p (by
    simp only [List.mem_cons, List.not_mem_nil, or_false] at hp
    rcases hp with rfl | rfl
    · exact .head _
    · exact .tail _ (.head _))
  have hold : ∀ b o, s.heap.get? b = some o → b ≠ L → b ≠ x ∧ b ≠ dx := fun b o e hb => by
    cases q : h₀.get? b with
    | some o' =>
      refine ⟨fun z => ?_, fun z => ?_⟩
      · have := (Nx _ (.head _)).2.2; rw [← z, q] at this; cases this
      · have := (Nx _ (.tail _ (.head _))).2.2; rw [← z, q] at this; cases this
    | none =>
      have := l1 _ (allOf_mem e q hb)
      dsimp only at this
      exact ⟨Nat.ne_of_lt (Nat.lt_trans this l2), Nat.ne_of_lt this⟩
  k_lt2 l2
  clear l1
  k_dflt (refine' enterG (binds := [(Str.ofString "self", Value.ref x), (Str.ofString "name", Value.str nm tk), (Str.ofString "kinds", Value.ref kd), (Str.ofString "opcode", Value.int 1 t1), (Str.ofString "escape", Value.int 0 296), (Str.ofString "digit", Value.int (-1) 298), (Str.ofString "size", Value.int 0 299), (Str.ofString "must", Value.int 0 300), (Str.ofString "is_wide", Value.bool false)]) ?k1 ?k2 ?k3 Nx ?k5 ?kA ?kF ?kK ?k6 ?k7 ?k8 ?k9 ?kB ?_ ?c2 ?c3 ?c4 ?c5; (case kA => exact rfl); (case kF => exact rfl); (case kK => assumption); (case k1 => k_asm); (case k2 => k_asm); (case k3 => k_asm); (case k5 => k_asm); (case k6 => k_is); (case k7 => k_is); (case k8 => ktr_room); (case k9 => first | exact BindsTo.of_eq rfl | exact binds_K (by k_in) rfl (by k_is) rfl rfl rfl); (case c5 => decide); (case kB => exact locs rfl); (case c2 => exact rfl); (case c3 => exact rfl); (case c4 => exact rfl); k_whole; intro g' L' h' hG hG2 FG' F' N' B' X' T'; (try dsimp only); (try k_lift B'); (try k_fold))
  have hkg : g'.get? kd = some (tupOf [.str k0 u0, .str k1 u1]) := hG _ _ (hkeep _ _ hkL hkd) (by have := hold _ _ hkd hkL; simp [this.1, this.2])
  have hkt : IsTup g' kd (List.toArray [.str k0 u0, .str k1 u1]) := ⟨_, hkg, rfl, 0, rfl⟩
  k_steps
  rename (News g' _ _ _) => N9
  rename (Fr g' _ _ _) => F9
  refine hret x _ _ (by assumption) (fun b o hb e => F9.keep _ _ (hG _ _ (hkeep _ _ hb e) (by have := hold _ _ e hb; simp [this.1, this.2]))) (Nx _ (.head _)).2.2 (Nx _ (.head _)).2.1 ⟨dx, _, _, _, (N9 (x, instObj 142 dx) (by k_mem)).1, (N9 (dx, dictOf _ _) (by k_mem)).1, rfl, rfl⟩
end Mine
end
section
-- part Lock
open PySem PySem.W PySem.Calls PyProof.Rows PyProof.V PySem.Spec
namespace Mine
section
variable {prog : Program} {w : World} {A : Around} {E : Value → Shared → Prop} {s : Shared} {K : Frag} {x dx C L : Addr} {h₀ : Heap} {m : Str → Option Value} {es : List DictEntry} {n : Nat} {name : Str} {v : Value}
theorem get_form {expr : Bool} {Q : Value → Shared → Prop} {attr : Option Value} (F : Fr h₀ L s.heap m) (X₀ : K.In h₀) (hx : h₀.get? x = some (instObj C dx)) (hd : h₀.get? dx = some (dictOf es n)) (hg : plainGet K C name = true) (hh : hasDictIn K C = true)
    (ha : findIn K (.ref C) name = some attr) (hn : noGet K attr = true) (hl : getL name es = some (some v)) (hv : handedIn v = true) (h : Q v { s with toks := s.toks + 1 }) : wpAny (model prog w) A (getAttr (.ref x) name expr) Q E s :=
  get_own F X₀ ⟨F.keep _ _ hx, rfl, rfl, F.keep _ _ hd⟩ hg hh ha hn hl hv h
end
noncomputable def headMem : List Str → Bool
  | [] => false
  | k :: _ => takesMem k
noncomputable def canLock (nm : Str) (ks : List Str) : Bool := cond (lockedL.any fun x => x == nm) (headMem ks) (lockedL.any fun x => x == nm)
theorem lines_Lock_1 : True := by
  w_top off
  k_with_none
  k_with "getAttr ref" => (k_here; k_dflt (refine' get_form ?qq19F ?qq19X ?qq19hx ?qq19hd ?qq19hg ?qq19hh ?qq19ha ?qq19hn ?qq19hl ?qq19hv ?_; (case qq19F => k_asm); (case qq19X => k_asm); (case qq19hx => assumption); (case qq19hd => assumption); (case qq19hg => k_is); (case qq19hh => k_is); (case qq19ha => k_is); (case qq19hn => k_is); (case qq19hl => assumption); (case qq19hv => rfl); k_whole))
  k_with "call ref" => (k_here; (with_reducible show wpAny _ _ (call (Value.ref 77) _) _ _ _); k_dflt ((refine' Pure.use (takes_memory_c _ _ _ (by assumption)) ?qq20B ?qq20F ?qq20X ?qq20N ?qq20T ?qq20k ?qq20d ?qq20u True.intro ?_); (case qq20B => k_asm); (case qq20F => k_asm); (case qq20X => k_asm); (case qq20N => k_asm); (case qq20T => k_asm); (case qq20k => first | rfl | assumption); (case qq20d => ktr_room); (case qq20u => ktr_units); intro r9 h9 tk9 F9 N9 st9 fr9 hO9; subst hO9; clear fr9 st9; (try dsimp only); (try k_fold)))
  trivial
set_option maxRecDepth 100000 in
set_option maxHeartbeats 8000000 in
theorem lock0_c (w : World) (nm : Str) (hlen : nm.length ≤ 1000) (x kd : Addr)   :
    Pure w 6 153 [.ref x] (fun h => FormAt h x nm kd ∧ h.get? kd = some (tupOf [])) (fun _ r _ => r = .bool (canLock nm [])) := by
  unfold Pure
  k_fill
  intro mean mg mb dp un gd cn cs a ccd cl outer A₀ base h₀ L m s Q E B F X T hk hd hu hP hret
  refine wpAny_call ?_
  k_dflt (refine' enterG (binds := [(Str.ofString "form", Value.ref x)]) ?k1 ?k2 ?k3 News.nil ?k5 ?kA ?kF ?kK ?k6 ?k7 ?k8 ?k9 ?kB ?_ ?c2 ?c3 ?c4 ?c5; (case kA => exact rfl); (case kF => exact rfl); (case kK => assumption); (case k1 => k_asm); (case k2 => k_asm); (case k3 => k_asm); (case k5 => k_asm); (case k6 => k_is); (case k7 => k_is); (case k8 => ktr_room); (case k9 => exact BindsTo.of_eq rfl); (case c5 => decide); (case kB => exact locs rfl); (case c2 => exact rfl); (case c3 => exact rfl); (case c4 => exact rfl); k_whole; intro g' L' h' hG hG2 FG' F' N' B' X' T'; (try dsimp only); (try k_lift B'); (try k_fold))
  obtain ⟨dx, es, n, t, hfx, hfd, hfn, hfk⟩ := hP.1.keep fun b o e => hG b o e (by simp)
  have hkg : g'.get? kd = some (tupOf []) := hG _ _ hP.2 (by simp)
  have hkt : IsTup g' kd (List.toArray []) := ⟨_, hkg, rfl, 0, rfl⟩
  k_steps
  all_goals first
    | exact absurd (show (0 : Int) < 1 by decide) ‹¬ (0 : Int) < _›
    | exact absurd (show (0 : Int) < 2 by decide) ‹¬ (0 : Int) < _›
    | exact hret _ _ _ (keep_of hG (by assumption)) (congrArg Value.bool (by symm; unfold canLock; (repeat (first | refine (cond_t (by assumption)).trans ?_ | refine (cond_f (by assumption)).trans ?_)); rfl))
set_option maxRecDepth 100000 in
set_option maxHeartbeats 8000000 in
theorem lock1_c (w : World) (nm : Str) (hlen : nm.length ≤ 1000) (x kd : Addr) (k0 : Str) (u0 : Tok) (hk0 : k0.length ≤ 1000) :
    Pure w 6 153 [.ref x] (fun h => FormAt h x nm kd ∧ h.get? kd = some (tupOf [.str k0 u0])) (fun _ r _ => r = .bool (canLock nm [k0])) := by
  unfold Pure
  k_fill
  intro mean mg mb dp un gd cn cs a ccd cl outer A₀ base h₀ L m s Q E B F X T hk hd hu hP hret
  refine wpAny_call ?_
  k_dflt (refine' enterG (binds := [(Str.ofString "form", Value.ref x)]) ?k1 ?k2 ?k3 News.nil ?k5 ?kA ?kF ?kK ?k6 ?k7 ?k8 ?k9 ?kB ?_ ?c2 ?c3 ?c4 ?c5; (case kA => exact rfl); (case kF => exact rfl); (case kK => assumption); (case k1 => k_asm); (case k2 => k_asm); (case k3 => k_asm); (case k5 => k_asm); (case k6 => k_is); (case k7 => k_is); (case k8 => ktr_room); (case k9 => exact BindsTo.of_eq rfl); (case c5 => decide); (case kB => exact locs rfl); (case c2 => exact rfl); (case c3 => exact rfl); (case c4 => exact rfl); k_whole; intro g' L' h' hG hG2 FG' F' N' B' X' T'; (try dsimp only); (try k_lift B'); (try k_fold))
  obtain ⟨dx, es, n, t, hfx, hfd, hfn, hfk⟩ := hP.1.keep fun b o e => hG b o e (by simp)
  have hkg : g'.get? kd = some (tupOf [.str k0 u0]) := hG _ _ hP.2 (by simp)
  have hkt : IsTup g' kd (List.toArray [.str k0 u0]) := ⟨_, hkg, rfl, 0, rfl⟩
  k_steps
  all_goals first
    | exact absurd (show (0 : Int) < 1 by decide) ‹¬ (0 : Int) < _›
    | exact absurd (show (0 : Int) < 2 by decide) ‹¬ (0 : Int) < _›
    | exact hret _ _ _ (keep_of hG (by assumption)) (congrArg Value.bool (by symm; unfold canLock; (repeat (first | refine (cond_t (by assumption)).trans ?_ | refine (cond_f (by assumption)).trans ?_)); rfl))
set_option maxRecDepth 100000 in
set_option maxHeartbeats 8000000 in
theorem lock2_c (w : World) (nm : Str) (hlen : nm.length ≤ 1000) (x kd : Addr) (k0 : Str) (u0 : Tok) (k1 : Str) (u1 : Tok) (hk0 : k0.length ≤ 1000) (hk1 : k1.length ≤ 1000) :
    Pure w 6 153 [.ref x] (fun h => FormAt h x nm kd ∧ h.get? kd = some (tupOf [.str k0 u0, .str k1 u1])) (fun _ r _ => r = .bool (canLock nm [k0, k1])) := by
  unfold Pure
  k_fill
  intro mean mg mb dp un gd cn cs a ccd cl outer A₀ base h₀ L m s Q E B F X T hk hd hu hP hret
  refine wpAny_call ?_
  k_dflt (refine' enterG (binds := [(Str.ofString "form", Value.ref x)]) ?k1 ?k2 ?k3 News.nil ?k5 ?kA ?kF ?kK ?k6 ?k7 ?k8 ?k9 ?kB ?_ ?c2 ?c3 ?c4 ?c5; (case kA => exact rfl); (case kF => exact rfl); (case kK => assumption); (case k1 => k_asm); (case k2 => k_asm); (case k3 => k_asm); (case k5 => k_asm); (case k6 => k_is); (case k7 => k_is); (case k8 => ktr_room); (case k9 => exact BindsTo.of_eq rfl); (case c5 => decide); (case kB => exact locs rfl); (case c2 => exact rfl); (case c3 => exact rfl); (case c4 => exact rfl); k_whole; intro g' L' h' hG hG2 FG' F' N' B' X' T'; (try dsimp only); (try k_lift B'); (try k_fold))
  obtain ⟨dx, es, n, t, hfx, hfd, hfn, hfk⟩ := hP.1.keep fun b o e => hG b o e (by simp)
  have hkg : g'.get? kd = some (tupOf [.str k0 u0, .str k1 u1]) := hG _ _ hP.2 (by simp)
  have hkt : IsTup g' kd (List.toArray [.str k0 u0, .str k1 u1]) := ⟨_, hkg, rfl, 0, rfl⟩
  k_steps
  all_goals first
    | exact absurd (show (0 : Int) < 1 by decide) ‹¬ (0 : Int) < _›
    | exact absurd (show (0 : Int) < 2 by decide) ‹¬ (0 : Int) < _›
    | exact hret _ _ _ (keep_of hG (by assumption)) (congrArg Value.bool (by symm; unfold canLock; (repeat (first | refine (cond_t (by assumption)).trans ?_ | refine (cond_f (by assumption)).trans ?_)); rfl))
end Mine
end
section
-- part Laws1
open PySem PySem.W PySem.Calls PyProof.Rows PyProof.V PySem.Spec
namespace Mine
theorem sl_from {x : Str} {k : Nat} (h : k ≤ x.length) : Txt.slice x (some (k : Int)) none = ⟨(x.cps.toList.drop k).toArray⟩ := by
  rw [slice_from_eq (b := (x.length : Int)) (by omega) (by omega) rfl]
  congr 2
  rw [List.take_of_length_le]
  · simp
  · simp [Str.length]
theorem sl_to {x : Str} {k : Nat} (h : k ≤ x.length) : Txt.slice x none (some (k : Int)) = ⟨(x.cps.toList.take k).toArray⟩ := by
  have e := beq_iff_eq.mp (slice_closes_toL (x := x) (j := (k : Int)) (by omega) (by omega))
  rw [e]
  rfl
theorem split_to {n st : Str} (h : Txt.slice n none (some (st.length : Int)) = st) : n = st ++ Txt.slice n (some (st.length : Int)) none := by
  by_cases hl : st.length ≤ n.length
  · rw [sl_to hl] at h
    rw [sl_from hl]
    apply PySem.Str.mk.injEq .. |>.mpr ?_ |> fun e => e
    have h2 : st.cps = (n.cps.toList.take st.length).toArray := by rw [← congrArg Str.cps h]
    have : n.cps = st.cps ++ (n.cps.toList.drop st.length).toArray := by
      rw [h2]
      apply Array.ext'
      simp
    exact this
  · exfalso
    have h1 := Txt.slice_le n none (some (st.length : Int))
    rw [h] at h1
    omega
theorem split_sw {n st : Str} (h : Txt.startswith n st = true) : n = st ++ Txt.slice n (some (st.length : Int)) none := by
  unfold Txt.startswith at h
  simp only [Bool.and_eq_true, decide_eq_true_eq, Nat.zero_add] at h
  obtain ⟨h1, h2⟩ := h
  refine split_to ?_
  rw [sl_to h1]
  rw [StrLaws.subAt_eq] at h2
  have h3 : (n.cps.toList.take st.length) = st.cps.toList := by simpa using h2
  rw [h3]
theorem look_none {tbl : List (Str × Str)} {n : Str} (h : look tbl n = none) : ∀ p ∈ tbl, p.1 ≠ n := by
  unfold look at h
  have h1 := Option.map_eq_none_iff.mp h
  rw [List.find?_eq_none] at h1
  intro p hp e
  exact absurd (h1 p hp) (by simp [e])
set_option maxRecDepth 100000 in
theorem lawC (n : Str) : condOf n = endOf n := by
  unfold endOf
  cases h : look condT n with
  | some v => exact (show ∀ p ∈ condT, condOf p.1 = p.2 by decide +kernel) _ (look_mem h)
  | none =>
    unfold condOf
    cases e : stems.findSome? (condStem n) with
    | none => rfl
    | some r =>
      exfalso
      obtain ⟨st, hst, hr⟩ := List.exists_of_findSome?_eq_some e
      unfold condStem at hr
      split at hr
      · rename_i hc
        obtain ⟨x, hx, hxr⟩ := List.any_eq_true.mp hc.2
        have hx' : x = Txt.slice n (some (st.length : Int)) none := by simpa using hxr
        have hn := split_sw hc.1
        rw [← hx'] at hn
        have := (show ∀ st ∈ stems, ∀ x ∈ condsL, (look condT (st ++ x)).isSome = true by decide +kernel) st hst x hx
        rw [← hn, h] at this
        cases this
      · cases hr
set_option maxRecDepth 100000 in
theorem lawK (n : Str) : canon n = (look aliasesT n).getD n := by
  cases h : look aliasesT n with
  | some v => exact (show ∀ p ∈ aliasesT, canon p.1 = p.2 by decide +kernel) _ (look_mem h)
  | none =>
    unfold canon
    cases e : look othersT n with
    | some v =>
      have := (show ∀ p ∈ othersT, (look aliasesT p.1).isSome = true by decide +kernel) _ (look_mem e)
      rw [h] at this; cases this
    | none =>
      cases e2 : stems.findSome? (canonStem n) with
      | none => rfl
      | some r =>
        exfalso
        obtain ⟨st, hst, hr⟩ := List.exists_of_findSome?_eq_some e2
        unfold canonStem at hr
        split at hr
        · rename_i hc
          obtain ⟨v, hv, _⟩ := Option.map_eq_some_iff.mp hr
          have hn := split_to hc
          have := (show ∀ st ∈ stems, ∀ p ∈ aliasT, (look aliasesT (st ++ p.1)).isSome = true by decide +kernel) st hst _ (look_mem hv)
          dsimp only at this
          rw [← hn, h] at this
          cases this
        · cases hr
theorem nil_of_len {n : Str} (h : n.length = 0) : n = Str.ofString "" := by
  obtain ⟨c⟩ := n
  have : c = #[] := Array.eq_empty_of_size_eq_zero h
  subst this
  decide +kernel
theorem nameSays (n : Str) : NameSays n n ((look condT n).getD (Str.ofString "") != Str.ofString "") := by
  by_cases h : n.length = 0
  · refine ⟨.inr ?_⟩
    rw [nil_of_len h]
    decide +kernel
  · cases e : ((look condT n).getD (Str.ofString "") != Str.ofString "") with
    | true => exact ⟨.inl ⟨rfl, by omega⟩⟩
    | false => exact ⟨.inr rfl⟩
theorem item_sw {n : Str} (h : 1 ≤ n.length) : Txt.startswith n (Str.ofString "j") = (Txt.item n 0 == Str.ofString "j") := by
  obtain ⟨⟨l⟩⟩ := n
  cases l with
  | nil => simp [Str.length] at h
  | cons c r =>
    have e1 : Txt.startswith ⟨⟨c :: r⟩⟩ (Str.ofString "j") = (c == 106) := by
      unfold Txt.startswith
      rw [StrLaws.subAt_eq]
      have : Str.length (Str.ofString "j") = 1 := by decide +kernel
      have e2 : (Str.ofString "j").cps.toList = [106] := by decide +kernel
      rw [this, e2]
      simp [Str.length]
    rw [e1]
    have e3 : Txt.item ⟨⟨c :: r⟩⟩ 0 = ⟨#[c]⟩ := by
      unfold Txt.item
      congr
      unfold Txt.charAt
      simp [seqIndex?, Str.length]
    rw [e3]
    have e4 : Str.ofString "j" = (⟨#[106]⟩ : Str) := by decide +kernel
    rw [e4]
    by_cases hc : c = 106
    · subst hc; rfl
    · have : ¬ (⟨#[c]⟩ : Str) = ⟨#[106]⟩ := fun q => hc (by simpa using q)
      rw [beq_eq_false_iff_ne.mpr hc, beq_eq_false_iff_ne.mpr this]
set_option maxRecDepth 100000 in
theorem lawF (n : Str) : whereNext n = (look flowT n).getD (flowDef n) := by
  cases h : look flowT n with
  | some v => exact (show ∀ p ∈ flowT, whereNext p.1 = p.2 by decide +kernel) _ (look_mem h)
  | none =>
    have hk := look_none h
    have k : ∀ x : Str, (look flowT x).isSome = true → (n == x) = false := fun x hx => by
      cases q : n == x with
      | false => rfl
      | true =>
        have : n = x := by simpa using q
        subst this
        rw [h] at hx; cases hx
    have a1 := k (Str.ofString "jmp") (by decide +kernel)
    have a2 : ([Str.ofString "loop", Str.ofString "loope", Str.ofString "loopne", Str.ofString "jrcxz"].any fun x => x == n) = false := by
      rw [List.any_eq_false]
      intro x hx q
      have : x = n := by simpa using q
      subst this
      have := (show ∀ x ∈ [Str.ofString "loop", Str.ofString "loope", Str.ofString "loopne", Str.ofString "jrcxz"], (look flowT x).isSome = true by decide +kernel) _ hx
      rw [h] at this; cases this
    have a3 : whereRest n = Str.ofString "on" := by
      have a4 : ([Str.ofString "hlt", Str.ofString "ud2"].any fun x => x == n) = false := by
        rw [List.any_eq_false]
        intro x hx q
        have : x = n := by simpa using q
        subst this
        have := (show ∀ x ∈ [Str.ofString "hlt", Str.ofString "ud2"], (look flowT x).isSome = true by decide +kernel) _ hx
        rw [h] at this; cases this
      unfold whereRest
      rw [cond_f (k (Str.ofString "call") (by decide +kernel)), cond_f (k (Str.ofString "ret") (by decide +kernel)), cond_f a4]
    show whereNext n = flowDef n
    unfold whereNext flowDef
    rw [cond_f a1, cond_f a2, a3, lawC]
    by_cases hl : 1 ≤ n.length
    · rw [item_sw hl]
      cases (Txt.item n 0 == Str.ofString "j") <;> cases (endOf n != Str.ofString "") <;> rfl
    · have := nil_of_len (n := n) (by omega)
      subst this
      decide +kernel
set_option maxRecDepth 100000 in
theorem deedWays (n : Str) : DeedWays n := by
  cases h : lookP stringT n with
  | some p =>
    have q := (show ∀ q ∈ stringT, (q.2.1 = Str.ofString "" ∧ repOf q.1 = []) ∨ (q.2.1 = Str.ofString "cmps" ∧ repOf q.1 = [Str.ofString "rep", Str.ofString "repne"]) ∨ (q.2.1 = Str.ofString "scas" ∧ repOf q.1 = [Str.ofString "rep", Str.ofString "repne"]) ∨ (q.2.1 = Str.ofString "movs" ∧ repOf q.1 = [Str.ofString "rep"]) ∨ (q.2.1 = Str.ofString "stos" ∧ repOf q.1 = [Str.ofString "rep"]) ∨ (q.2.1 = Str.ofString "lods" ∧ repOf q.1 = [Str.ofString "rep"]) by decide +kernel) _ (lookP_mem h)
    refine ⟨?_⟩
    unfold deedOf
    rw [h]
    exact q
  | none =>
    refine ⟨.inl ⟨?_, ?_⟩⟩
    · unfold deedOf; rw [h]; rfl
    · have k : ∀ (l : List Str), (∀ x ∈ l, (lookP stringT x).isSome = true) → (l.any fun x => x == n) = false := fun l hl => by
        rw [List.any_eq_false]
        intro x hx q
        have : x = n := by simpa using q
        subst this
        have := hl _ hx
        rw [h] at this; cases this
      unfold repOf
      rw [cond_f (k movedL (by decide +kernel)), cond_f (k comparedL (by decide +kernel))]
end Mine
end
section
-- part Laws2
open PySem PySem.W PySem.Calls PyProof.Rows PyProof.V PySem.Spec
namespace Mine
theorem find_bwdq {c : Nat} (h : 0 ≤ Txt.find (Str.ofString "bwdq") ⟨#[c]⟩) : c = 98 ∨ c = 119 ∨ c = 100 ∨ c = 113 := by
  rcases find_spec (Str.ofString "bwdq") ⟨#[c]⟩ with e | ⟨i, e, hi, hs⟩
  · rw [e] at h; exact absurd h (by decide)
  · have hl : Str.length (Str.ofString "bwdq") = 4 := by decide +kernel
    have h1 : Str.length (⟨#[c]⟩ : Str) = 1 := rfl
    rw [hl, h1] at hi
    rw [h1] at hs
    have hc := congrArg (fun x => x.cps.toList) hs
    have hw : (Str.ofString "bwdq" : Str).cps = #[98, 119, 100, 113] := by decide +kernel
    have : i = 0 ∨ i = 1 ∨ i = 2 ∨ i = 3 := by omega
    rcases this with rfl | rfl | rfl | rfl
    · rw [show PySem.Builtin.Str.strSub (Str.ofString "bwdq") 0 (0 + 1) = (⟨#[98]⟩ : Str) by decide +kernel] at hs; have q := congrArg (fun x : Str => x.cps.toList) hs; left; simpa using q.symm
    · rw [show PySem.Builtin.Str.strSub (Str.ofString "bwdq") 1 (1 + 1) = (⟨#[119]⟩ : Str) by decide +kernel] at hs; have q := congrArg (fun x : Str => x.cps.toList) hs; right; left; simpa using q.symm
    · rw [show PySem.Builtin.Str.strSub (Str.ofString "bwdq") 2 (2 + 1) = (⟨#[100]⟩ : Str) by decide +kernel] at hs; have q := congrArg (fun x : Str => x.cps.toList) hs; right; right; left; simpa using q.symm
    · rw [show PySem.Builtin.Str.strSub (Str.ofString "bwdq") 3 (3 + 1) = (⟨#[113]⟩ : Str) by decide +kernel] at hs; have q := congrArg (fun x : Str => x.cps.toList) hs; right; right; right; simpa using q.symm
theorem five_split {n : Str} (h : n.length = 5) : ∃ c, Txt.item n 4 = ⟨#[c]⟩ ∧ n = Txt.slice n none (some 4) ++ ⟨#[c]⟩ := by
  have e := sl_to (x := n) (k := 4) (by omega)
  obtain ⟨⟨l⟩⟩ := n
  match l, h with
  | [a, b, c, d, f], _ =>
    refine ⟨f, by simp [Txt.item, Txt.charAt, seqIndex?, Str.length], ?_⟩
    rw [show ((4 : Nat) : Int) = 4 from rfl] at e
    rw [e]
    rfl
set_option maxRecDepth 100000 in
set_option maxHeartbeats 4000000 in
theorem lawS (n : Str) : stemOf n = deedOf n := by
  cases h : lookP stringT n with
  | some p =>
    have e : deedOf n = p := by unfold deedOf; rw [h]; rfl
    rw [e]
    have q := (show ∀ q ∈ stringT, stemOf q.1 = q.2 by decide +kernel) (n, p) (lookP_mem h)
    dsimp only at q
    exact q
  | none =>
    have e : deedOf n = (Str.ofString "", 0) := by unfold deedOf; rw [h]; rfl
    rw [e]
    unfold stemOf
    cases ha : stringStems.any fun x => x == Txt.slice n none (some 4) with
    | false => rfl
    | true =>
      show (if (n.length : Int) = 5 then _ else _) = _
      by_cases h5 : (n.length : Int) = 5
      · rw [if_pos h5]
        by_cases hf : 0 ≤ Txt.find (Str.ofString "bwdq") (Txt.item n 4)
        · exfalso
          obtain ⟨c, hc, hn⟩ := five_split (n := n) (by omega)
          rw [hc] at hf
          obtain ⟨st, hst, hse⟩ := List.any_eq_true.mp ha
          have hse' : st = Txt.slice n none (some 4) := by simpa using hse
          rw [← hse'] at hn
          have := (show ∀ st ∈ stringStems, ∀ c ∈ [98, 119, 100, 113], (lookP stringT (st ++ ⟨#[c]⟩)).isSome = true by decide +kernel) st hst c (by rcases find_bwdq hf with q | q | q | q <;> simp [q])
          rw [← hn, h] at this
          cases this
        · rw [if_neg hf]
      · rw [if_neg h5]
end Mine
end
section
-- part AliA
open PySem PySem.W PySem.Calls PyProof.Rows PyProof.V PySem.Spec
namespace Mine
noncomputable def AllNe (d : Addr) : List (Addr × Obj) → Prop
  | [] => True
  | p :: r => (@Ne Nat p.1 d) ∧ AllNe d r
theorem allNe_of {h₀ h : Heap} {L d : Addr} : ∀ {news : List (Addr × Obj)}, News h₀ L h news → h.get? d = none → AllNe d news
  | [], _, _ => trivial
  | p :: r, N, hn => ⟨fun e => (by have h1 := (N p (.head _)).1; rw [e, hn] at h1; cases h1), allNe_of (fun q hq => N q (.tail _ hq)) hn⟩
structure Stop (P : Prop) : Prop where
  go : P
theorem flat_key {kvs : List (Str × Value)} : ∀ {tbl : List (Str × Str)}, FlatPairs PyData.str kvs (dOf tbl) → ∀ {i : Nat} {k : Str} {y : Value}, kvs[i]? = some (k, y) → ∃ p, tbl[i]? = some p ∧ p.1 = k := by
  induction kvs with
  | nil => intro tbl _ i k y e; cases e
  | cons q r ih =>
    intro tbl hf i k y e
    cases tbl with
    | nil => cases hf
    | cons p t =>
      cases hf with
      | cons h1 h2 =>
        cases i with
        | zero => cases e; exact ⟨p, rfl, rfl⟩
        | succ j => exact ih h2 (by simpa using e)
theorem flat_length {kvs : List (Str × Value)} {tbl : List (Str × Str)} (h : FlatPairs PyData.str kvs (dOf tbl)) : kvs.length = tbl.length := by
  have := h.length
  simpa [dOf] using this.symm
theorem is_str {prog : Program} {w : World} {k : Str} {v : Value} (h : (strKind prog w).is k v = true) : ∃ t, v = .str k t := Value.isStrOf_shape h
theorem StrsAre.snoc {vs : List Value} {L : List Str} (h : StrsAre vs L) (x : Str) (t : Tok) : StrsAre (vs ++ [.str x t]) (L ++ [x]) := by
  induction h with
  | nil => exact .cons _ _ .nil
  | cons y u _ ih => exact .cons _ _ ih
theorem frame_end {x : Str} {stored : List Str} {m₀ m' : Str → Option Value} (h : ∀ y, y ≠ x → stored.contains y = false → m' y = m₀ y) : ∀ y, y ≠ x → stored.contains y = false → m' y = m₀ y := h
section
variable {h₀ h' : Heap} {L : Addr} {m₀ m' : Str → Option Value} {x : Str} {stored : List Str} {J : List (Addr × Obj) → Prop} {p : Addr × Obj} {nx : List (Addr × Obj)} {adr : List Addr} {s₁ : Shared} {tk : Nat}
theorem endJ (F : Fr h₀ L h' m') (N : News h₀ L h' (p :: nx)) (hm : ∀ y, y ≠ x → stored.contains y = false → m' y = m₀ y) (ha : nx.map (·.1) = adr) (hJ : J nx) : InvEndN h₀ L (JJ x stored m₀ J) [p] adr s₁ { s₁ with heap := h', toks := tk } :=
  InvEndN.intro (nx := nx) F N ⟨hm, hJ⟩ ha (fun q hq => .tail _ hq) (fun q hq => by rw [List.mem_singleton.mp hq]; exact .head _)
end
theorem filter_take_t {α : Type} {p : α → Bool} {l : List α} {i : Nat} {a : α} (h : l[i]? = some a) (hp : p a = true) : (l.take (i + 1)).filter p = (l.take i).filter p ++ [a] := by
  rw [List.take_add_one, h, Option.toList_some, List.filter_append, List.filter_cons_of_pos hp, List.filter_nil]
theorem filter_take_f {α : Type} {p : α → Bool} {l : List α} {i : Nat} {a : α} (h : l[i]? = some a) (hp : p a = false) : (l.take (i + 1)).filter p = (l.take i).filter p := by
  rw [List.take_add_one, h, Option.toList_some, List.filter_append, List.filter_cons_of_neg (by simp [hp]), List.filter_nil, List.append_nil]
theorem strs_push {its : Array Value} {L : List Str} {x : Str} {t : Tok} (h : StrsAre its.toList L) : StrsAre (its.push (.str x t)).toList (L ++ [x]) := by
  rw [Array.toList_push]; exact StrsAre.snoc h x t
theorem look_at {tbl : List (Str × Str)} (hd : ∀ p ∈ tbl, look tbl p.1 = some p.2) {i : Nat} {p : Str × Str} (h : tbl[i]? = some p) : look tbl p.1 = some p.2 := hd p (List.mem_of_getElem? h)
theorem len_at {tbl : List (Str × Str)} (hd : ∀ p ∈ tbl, p.1.length ≤ 16 ∧ p.2.length ≤ 16) {i : Nat} {p : Str × Str} (h : tbl[i]? = some p) : p.1.length ≤ 16 ∧ p.2.length ≤ 16 := hd p (List.mem_of_getElem? h)
noncomputable def ListOutN (L : List Str) (h : Heap) (r : Value) (h' : Heap) : Prop := ∃ l vs n, r = .ref l ∧ h'.get? l = some (listOf vs.toArray n) ∧ h.get? l = none ∧ StrsAre vs L
noncomputable def othersOf (n : Str) : List Str := (othersT.filter fun p => p.2 == n).map (·.1)
noncomputable def stemRows (n st : Str) (l : List (Str × Str)) : List Str := (l.filter fun p => p.2 == Txt.slice n (some (st.length : Int)) none).map fun p => st ++ p.1
noncomputable def stemFound (n st : Str) : List Str := if (Txt.slice n none (some (st.length : Int)) == st) = true then stemRows n st aliasT else []
noncomputable def foundOf (n : Str) : List Str := othersOf n ++ stems.flatMap (stemFound n)
noncomputable def AliJ1 (nm : Str) (news : List (Addr × Obj)) (i : Nat) (nx : List (Addr × Obj)) : Prop :=
  ∃ d o l its₀ n₀ its n, news = [(d, o), (l, listOf its₀ n₀)] ∧ nx = [(d, o), (l, listOf its n)] ∧ StrsAre its.toList (((othersT.take i).filter fun p => p.2 == nm).map (·.1)) ∧ its.size ≤ i
noncomputable def AliJ2 (nm : Str) (news : List (Addr × Obj)) (i : Nat) (nx : List (Addr × Obj)) : Prop :=
  ∃ T lo d2 o2 d o l its₀ n₀ its n, news = [(T, lo), (d2, o2), (d, o), (l, listOf its₀ n₀)] ∧ nx = [(T, lo), (d2, o2), (d, o), (l, listOf its n)] ∧ StrsAre its.toList (othersOf nm ++ (stems.take i).flatMap (stemFound nm)) ∧ its.size ≤ 6 + 14 * i
noncomputable def AliJ3 (nm st : Str) (L0 : List Str) (B : Nat) (news : List (Addr × Obj)) (i : Nat) (nx : List (Addr × Obj)) : Prop :=
  ∃ I oI T lo d2 o2 d o l its₀ n₀ its n, news = [(I, oI), (T, lo), (d2, o2), (d, o), (l, listOf its₀ n₀)] ∧ nx = [(I, oI), (T, lo), (d2, o2), (d, o), (l, listOf its n)] ∧ StrsAre its.toList (L0 ++ stemRows nm st (aliasT.take i)) ∧ its.size ≤ B + i
local macro_rules | `(tactic| walk_at "pyIter ref") => `(tactic| (k_here; k_dflt (refine Stop.go ?_)))
theorem lines_AliA_1 : True := by
  w_top off
  k_with_none
  k_with "call ref" => (k_here; (with_reducible show wpAny _ _ (call (Value.ref 28) _) _ _ _); k_dflt ((rename News _ _ _ _ => nOld); (first | refine' Pure.use (pairs_others _ _) ?qq21B ?qq21F ?qq21X ?qq21N ?qq21T ?qq21k ?qq21d ?qq21u True.intro ?_ | refine' Pure.use (pairs_aliases _ _) ?qq21B ?qq21F ?qq21X ?qq21N ?qq21T ?qq21k ?qq21d ?qq21u True.intro ?_); (case qq21B => k_asm); (case qq21F => k_asm); (case qq21X => k_asm); (case qq21N => k_asm); (case qq21T => k_asm); (case qq21k => first | rfl | assumption); (case qq21d => ktr_room); (case qq21u => ktr_units); intro r9 h9 tk9 F9 N9 st9 fr9 hO9; obtain ⟨d9, o9, kvs9, hr9, hget9, hnone9, hsys9, hdo9, hfp9⟩ := hO9; subst hr9; have ap9 := allNe_of nOld hnone9; simp only [AllNe, and_true] at ap9; replace N9 := news_add N9 fr9 hget9 hnone9; clear fr9 st9; (try dsimp only); (try k_fold)))
  k_with "compareOp In str ref" => (k_here; k_dflt (refine' in_look ?qq22T ?_; (case qq22T => k_tabat); k_whole))
  k_with "subscriptTail" => (k_here; (with_reducible show wpAny _ _ (subscriptTail _ _ (Value.ref _) (Value.str _ _)) _ _ _); (rename (look _ _ = some _) => hv9); k_dflt (refine' item_look ?qq23T hv9 ?_; (case qq23T => k_tabat); k_whole; intro t9))
  k_with "call builtin:list.append" => (k_here; (with_reducible show wpAny _ _ (call (Value.builtin _) [Value.ref _, _]) _ _ _); k_dflt (refine' append_K ?qq24k1 ?qq24k2 ?qq24k3 ?_ ?qq24z; (case qq24k1 => k_asm); (case qq24k2 => k_asm); (case qq24k3 => k_upd); (case qq24z => (rw [sizeLine_eq]; omega)); k_whole; intro h' F' N'))
  k_with "call builtin:sorted" => (k_here; (with_reducible show wpAny _ _ (call (Value.builtin _) [Value.ref _]) _ _ _); (rename StrsAre _ _ => hSA'); k_dflt (refine' sorted_N_str ?qq25F ?qq25N ?qq25l hSA' ?qq25h ?_; (case qq25F => k_asm); (case qq25N => k_asm); (case qq25l => exact kso_isList (by k_asm) (by k_mem) rfl); (case qq25h => (rw [Array.length_toList]; omega)); k_whole; intro h' vs' ss' e' F' N' hA' hp' hs'))
  k_with "exec For Name Name cons nil" => (k_here; (rename Fr _ _ _ _ => lF'); k_dflt (with_unfolding_all refine' For_invVF lF' ?qq26k1 ?qq26k2 ?_; (case qq26k1 => exact rfl); (case qq26k2 => exact rfl); k_whole))
  k_with "exec For Name Tuple cons nil" => (k_here; (rename Fr _ _ _ _ => lF'); k_dflt (with_unfolding_all refine' For_invVF lF' ?qq27k1 ?qq27k2 ?_; (case qq27k1 => exact rfl); (case qq27k2 => exact rfl); k_whole))
  k_with "exec For Name Subscript cons nil" => (k_here; (rename Fr _ _ _ _ => lF'); k_dflt (with_unfolding_all refine' For_invVF lF' ?qq28k1 ?qq28k2 ?_; (case qq28k1 => exact rfl); (case qq28k2 => exact rfl); k_whole))
  k_with "exec For Name Call cons nil" => (k_here; (rename Fr _ _ _ _ => lF'); k_dflt (with_unfolding_all refine' For_invVF lF' ?qq29k1 ?qq29k2 ?_; (case qq29k1 => exact rfl); (case qq29k2 => exact rfl); k_whole))
  trivial
set_option maxRecDepth 100000 in
set_option maxHeartbeats 8000000 in
theorem aliases_of_c (w : World) (nm : Str) (tk : Tok) (hlen : nm.length ≤ 1000) :
    Pure w 10 42 [.str nm tk] (fun _ => True) (fun h r h' => ∃ L, L.Perm (foundOf nm) ∧ sortedS L = true ∧ ListOutN L h r h') := by
  unfold Pure
  k_fill
  intro mean mg mb dp un gd cn cs a ccd cl outer A₀ base h₀ L m s Q E B F X T hk hd hu hP hret
  refine wpAny_call ?_
  k_dflt (refine' enterG (binds := [(Str.ofString "name", Value.str nm tk)]) ?k1 ?k2 ?k3 News.nil ?k5 ?kA ?kF ?kK ?k6 ?k7 ?k8 ?k9 ?kB ?_ ?c2 ?c3 ?c4 ?c5; (case kA => exact rfl); (case kF => exact rfl); (case kK => assumption); (case k1 => k_asm); (case k2 => k_asm); (case k3 => k_asm); (case k5 => k_asm); (case k6 => k_is); (case k7 => k_is); (case k8 => ktr_room); (case k9 => exact BindsTo.of_eq rfl); (case c5 => decide); (case kB => exact locs rfl); (case c2 => exact rfl); (case c3 => exact rfl); (case c4 => exact rfl); k_whole; intro g' L' h' hG hG2 FG' F' N' B' X' T'; (try dsimp only); (try k_lift B'); (try k_fold))
  k_steps
  rename (News _ _ _ [(_, _), (_, listOf _ _)]) => N1
  rename (Obj.IsDictOf (PySem.strKind _ _) _ _) => hd1
  rename (FlatPairs PyData.str _ _) => hf1
  rename ((_ == sysModules) = false) => hsys1
  (rename Fr _ _ _ _ => F1)
  refine Stop.mk ?_
  with_unfolding_all refine' iterD [] (AliJ1 nm) ?hh F1 N1 (.head _) hsys1 hd1 ?hj ?src ?turn ?done
  case hh => rfl
  case hj => exact ⟨_, _, _, _, _, _, _, rfl, rfl, by exact StrsAre.nil, Nat.le_refl _⟩
  case src => rintro i nx ⟨_, _, _, _, _, _, _, e, rfl, _⟩; cases e; exact .head _
  case turn =>
    intro i k y v u news₁ h tk I oI hkv hkis hadr hI hJ F2 N2
    obtain ⟨_, _, _, _, _, its, n, e, rfl, hS, hsz⟩ := hJ
    cases e
    obtain ⟨p, hp, rfl⟩ := flat_key hf1 hkv
    obtain ⟨t, rfl⟩ := is_str hkis
    have hv9 := look_at (tbl := othersT) (by decide +kernel) hp
    obtain ⟨hl1, hl2⟩ := len_at (tbl := othersT) (by decide +kernel) hp
    have hi9 : i < 6 := by
      have := (List.getElem?_eq_some_iff.mp hp).1
      exact this
    k_lt hI
    (try dsimp only)
    (try k_fold)
    k_steps
    all_goals ((rename (News _ _ _ _) => N9); (rename (Fr _ _ _ _) => F9); refine endJ F9 N9 (by intro y h1 h2; simp [h1]) rfl ⟨_, _, _, _, _, _, _, rfl, rfl, ?_, ?_⟩)
    all_goals first
      | (rw [filter_take_t hp (by assumption), List.map_append]; exact strs_push hS)
      | (rw [filter_take_f hp (by assumption)]; exact hS)
      | (rw [Array.size_push]; omega)
      | omega
  case done =>
    intro u news₁ h tk hadr hJ F2 N2
    obtain ⟨_, _, _, _, _, its, n, e, rfl, hS, hsz⟩ := hJ
    cases e
    clear F1 N1
    rw [flat_length hf1, List.take_length] at hS
    replace hS : StrsAre its.toList (othersOf nm) := hS
    rw [flat_length hf1] at hsz
    (try dsimp only)
    (try k_fold)
    have hsz2 : its.size ≤ 6 := hsz
    k_steps
    rename (News _ _ _ [(_, _), (_, _), (_, _), (_, listOf _ _)]) => N3
    rename (Obj.IsDictOf (PySem.strKind _ _) _ _) => hd3
    rename (FlatPairs PyData.str _ _) => hf3
    rename ((_ == sysModules) = false) => hsys3
    (rename Fr _ _ _ _ => F3)
    refine Stop.mk ?_
    with_unfolding_all refine' iterT [Str.ofString "other"] (AliJ2 nm) ?hh F3 N3 (.head _) (by rfl) (by rfl) ?hj ?src ?turn ?done
    case hh => rfl
    case hj => exact ⟨_, _, _, _, _, _, _, _, _, _, _, rfl, rfl, by simpa using hS, by omega⟩
    case src => rintro i nx ⟨_, _, _, _, _, _, _, _, _, _, _, e, rfl, _⟩; cases e; exact .head _
    case turn =>
      intro i v u news₁ h tk I oI hv hadr hI hJ F4 N4
      obtain ⟨_, _, _, _, _, _, _, _, _, its4, n4, e, rfl, hS4, hsz4⟩ := hJ
      cases e
      obtain ⟨st, t, rfl, hst⟩ := StrVals.at (l := stems) (by exact ⟨rfl, rfl, rfl, True.intro⟩) hv
      have hi4 : i < 3 := (List.getElem?_eq_some_iff.mp hst).1
      have hstl : st.length ≤ 8 := (show ∀ st ∈ stems, st.length ≤ 8 by decide +kernel) st (List.mem_of_getElem? hst)
      have hsz4' : its4.size ≤ 100 := by omega
      clear F3 N3
      k_lt hI
      (try dsimp only)
      (try k_fold)
      k_steps
      · rename ((_ == _) = true) => ht4
        rename (News _ _ _ [(_, _), (_, _), (_, _), (_, _), (_, listOf _ _)]) => N5
        (rename Fr _ _ _ _ => F5)
        refine Stop.mk ?_
        with_unfolding_all refine' iterD [] (AliJ3 nm st (othersOf nm ++ (stems.take i).flatMap (stemFound nm)) (6 + 14 * i)) ?hh5 F5 N5 (.tail _ (.tail _ (.head _))) hsys3 hd3 ?hj5 ?src5 ?turn5 ?done5
        case hh5 => rfl
        case hj5 => exact ⟨_, _, _, _, _, _, _, _, _, _, _, _, _, rfl, rfl, by simpa [stemRows] using hS4, by omega⟩
        case src5 => rintro i nx ⟨_, _, _, _, _, _, _, _, _, _, _, _, _, e, rfl, _⟩; cases e; exact .tail _ (.tail _ (.head _))
        case turn5 =>
          intro j k y v u5 news₁ h5 tk5 I5 oI5 hkv hkis hadr5 hI5 hJ F6 N6
          obtain ⟨_, _, _, _, _, _, _, _, _, _, _, its6, n6, e, rfl, hS6, hsz6⟩ := hJ
          cases e
          obtain ⟨p, hp, rfl⟩ := flat_key hf3 hkv
          obtain ⟨t6, rfl⟩ := is_str hkis
          have hv9 := look_at (tbl := aliasT) (by decide +kernel) hp
          obtain ⟨hl1, hl2⟩ := len_at (tbl := aliasT) (by decide +kernel) hp
          have hi9 : j < 14 := by
            have := (List.getElem?_eq_some_iff.mp hp).1
            exact this
          clear F5 N5
          have hsz6' : its6.size ≤ 200 := by omega
          k_lt hI5
          (try dsimp only)
          (try k_fold)
          k_steps
          all_goals ((rename (News _ _ _ _) => N9); (rename (Fr _ _ _ _) => F9); refine endJ F9 N9 (by intro y h1 h2; simp [h1]) rfl ⟨_, _, _, _, _, _, _, _, _, _, _, _, _, rfl, rfl, ?_, ?_⟩)
          all_goals first
            | (unfold stemRows at hS6 ⊢; (rw [filter_take_t hp (by assumption), List.map_append, ← List.append_assoc]); exact strs_push hS6)
            | (unfold stemRows at hS6 ⊢; rw [filter_take_f hp (by assumption)]; exact hS6)
            | (rw [Array.size_push]; omega)
            | omega
        case done5 =>
          intro u5 news₁ h5 tk5 hadr5 hJ F6 N6
          obtain ⟨_, _, _, _, _, _, _, _, _, _, _, its6, n6, e, rfl, hS6, hsz6⟩ := hJ
          cases e
          clear F5 N5
          rw [flat_length hf3, List.take_length] at hS6
          rw [flat_length hf3] at hsz6
          have hsz7 : aliasT.length = 14 := rfl
          (try dsimp only)
          (try k_fold)
          k_steps
          ((rename (News _ _ _ _) => N9); (rename (Fr _ _ _ _) => F9); refine endJ F9 N9 (by intro y h1 h2; simp at h2; simp [h1, h2]) rfl ⟨_, _, _, _, _, _, _, _, _, _, _, rfl, rfl, ?_, ?_⟩)
          · rw [List.take_add_one, hst, Option.toList_some, List.flatMap_append, ← List.append_assoc, List.flatMap_singleton, stemFound, if_pos ht4]
            exact hS6
          · omega
      · rename ((_ == _) = false) => ht4
        ((rename (News _ _ _ _) => N9); (rename (Fr _ _ _ _) => F9); refine endJ F9 N9 (by intro y h1 h2; simp at h2; simp [h1, h2]) rfl ⟨_, _, _, _, _, _, _, _, _, _, _, rfl, rfl, ?_, by omega⟩)
        rw [List.take_add_one, hst, Option.toList_some, List.flatMap_append, ← List.append_assoc, List.flatMap_singleton, stemFound, if_neg (by simp [ht4]), List.append_nil]
        exact hS4
    case done =>
      intro u news₁ h tk hadr hJ F4 N4
      obtain ⟨_, _, _, _, _, _, _, _, _, its4, n4, e, rfl, hS4, hsz4⟩ := hJ
      cases e
      clear F3 N3
      have hsz8 : its4.size ≤ 48 := hsz4
      replace hS4 : StrsAre its4.toList (foundOf nm) := hS4
      (try dsimp only)
      (try k_fold)
      k_steps
      rename (News g' _ _ _) => N1
      have hN := N1 _ (.head _)
      rename (List.Perm _ (foundOf nm)) => hp1
      rename (sortedS _ = true) => hs1
      rename (Fr g' _ _ _) => F9
      exact hret _ _ _ (keep_of hG F9) ⟨_, hp1, hs1, _, _, _, rfl, hN.1, fresh_of hG hN.2.2, by assumption⟩
end Mine
end
section
-- part Laws3
open PySem PySem.W PySem.Calls PyProof.Rows PyProof.V PySem.Spec
namespace Mine
noncomputable def aliFound (n : Str) : List Str := (aliasesT.filter fun p => p.2 == n).map (·.1)
theorem filter_nil_of {α : Type} {p : α → Bool} {l : List α} (h : ∀ x ∈ l, p x = false) : l.filter p = [] := by
  rw [List.filter_eq_nil_iff]; intro x hx; simp [h x hx]
set_option maxRecDepth 100000 in
set_option maxHeartbeats 4000000 in
theorem lawA (n : Str) : foundOf n = aliFound n := by
  by_cases h : (aliasesT.any fun p => p.2 == n) = true
  · obtain ⟨p, hp, e⟩ := List.any_eq_true.mp h
    have e : p.2 = n := by simpa using e
    subst e
    have hd : ∀ x ∈ (aliasesT.map (·.2)).eraseDups, foundOf x = aliFound x := by decide +kernel
    exact hd p.2 (List.mem_eraseDups.mpr (List.mem_map.mpr ⟨p, hp, rfl⟩))
  · have h' : ∀ p ∈ aliasesT, (p.2 == n) = false := by
      intro p hp
      have h1 := Bool.not_eq_true _ ▸ h
      cases q : p.2 == n with
      | false => rfl
      | true => exact absurd (List.any_eq_true.mpr ⟨p, hp, q⟩) h
    have e1 : aliFound n = [] := by unfold aliFound; rw [filter_nil_of h']; rfl
    have e2 : othersOf n = [] := by
      unfold othersOf
      rw [filter_nil_of]; · rfl
      intro p hp
      have := (show ∀ p ∈ othersT, p ∈ aliasesT by decide +kernel) p hp
      exact h' p this
    have e3 : stems.flatMap (stemFound n) = [] := by
      rw [List.flatMap_eq_nil_iff]
      intro st hst
      unfold stemFound
      split
      · rename_i hc
        have hc : Txt.slice n none (some (st.length : Int)) = st := by simpa using hc
        have hn := split_to hc
        unfold stemRows
        rw [filter_nil_of]; · rfl
        intro p hp
        cases q : p.2 == Txt.slice n (some (st.length : Int)) none with
        | false => rfl
        | true =>
          have q : p.2 = Txt.slice n (some (st.length : Int)) none := by simpa using q
          rw [← q] at hn
          have := (show ∀ st ∈ stems, ∀ p ∈ aliasT, (aliasesT.any fun r => r.2 == st ++ p.2) = true by decide +kernel) st hst p hp
          rw [← hn] at this
          exact absurd this h
      · rfl
    unfold foundOf
    rw [e1, e2, e3]; rfl
theorem ltCps_false {a b : Str} (h : ltCps b.cps.toList a.cps.toList = false) : a.cps.toList ≤ b.cps.toList := by
  rw [ltCps_eq] at h
  simpa using h
theorem sortedS_pair : ∀ {l : List Str}, sortedS l = true → (l.map fun x => x.cps.toList).Pairwise (· ≤ ·) := by
  have hr : ∀ (l : List Str) (p : Str), risingS p l = true → ((p :: l).map fun x => x.cps.toList).Pairwise (· ≤ ·) := by
    intro l
    induction l with
    | nil => intro p _; simp
    | cons x r ih =>
      intro p h
      have h' : (!ltCps x.cps.toList p.cps.toList && risingS x r) = true := h
      rw [Bool.and_eq_true, Bool.not_eq_true'] at h'
      have h1 := ltCps_false h'.1
      have h2 := ih x h'.2
      rw [List.map_cons, List.pairwise_cons]
      refine ⟨?_, h2⟩
      intro y hy
      rw [List.map_cons] at hy h2
      rcases List.mem_cons.mp hy with rfl | hy
      · exact h1
      · exact List.le_trans h1 ((List.pairwise_cons.mp h2).1 y hy)
  intro l h
  cases l with
  | nil => simp
  | cons x r => exact hr r x h
theorem sorted_same {a b : List Str} (hp : a.Perm b) (ha : sortedS a = true) (hb : sortedS b = true) : a = b := by
  have h1 := (hp.map fun x => x.cps.toList).eq_of_pairwise (le := (· ≤ ·)) (fun x y _ _ h1 h2 => List.le_antisymm h1 h2) (sortedS_pair ha) (sortedS_pair hb)
  refine List.map_inj_right (f := fun x : Str => x.cps.toList) ?_ |>.mp h1
  intro x y h
  cases x; cases y
  congr
  exact Array.ext' h
end Mine
end
section
-- part RightH
open PySem PySem.W PySem.Calls PyProof.Rows PyProof.V PySem.Spec
namespace Mine
theorem ali_perm {n : Str} {a b : List Str} (h1 : a.Perm (foundOf n)) (h2 : b.Perm ((aliasesT.filter fun p => p.2 == n).map (·.1))) : a.Perm b := by
  rw [lawA] at h1; exact h1.trans h2.symm
set_option maxRecDepth 100000 in
theorem ali_ok {n : Str} {b : List Str} (h2 : b.Perm ((aliasesT.filter fun p => p.2 == n).map (·.1))) : ∀ x ∈ b, PyData.strOk x = true := by
  intro x hx
  obtain ⟨p, hp, rfl⟩ := List.mem_map.mp (h2.mem_iff.mp hx)
  exact (show ∀ p ∈ aliasesT, PyData.strOk p.1 = true by decide +kernel) p (List.mem_filter.mp hp).1
local macro_rules | `(tactic| lcg_src) => `(tactic| first | exact Or.inl (by assumption) | exact Or.inr (by k_mem))
section
variable {prog : Program} {w : World} {A : Around} {E : Value → Shared → Prop} {s : Shared}
theorem ne_bool4 {Q : Value → Shared → Prop} {a b : Addr} {x1 x2 x3 x4 y1 y2 y3 y4 : Bool} (e : x1 = y1 ∧ x2 = y2 ∧ x3 = y3 ∧ x4 = y4) (ha : s.heap.IsList a [.bool x1, .bool x2, .bool x3, .bool x4].toArray) (hb : s.heap.IsList b [.bool y1, .bool y2, .bool y3, .bool y4].toArray) (hu : A.units + 64 < cLine) (h : Q (.bool false) s) :
    wpAny (model prog w) A (compareOp .NotEq (.ref a) (.ref b)) Q E s := by
  obtain ⟨rfl, rfl, rfl, rfl⟩ := e
  obtain ⟨o, ho, hc, n, hd⟩ := ha
  obtain ⟨o', ho', hc', n', hd'⟩ := hb
  have rX := reads_list_at ho hc hd (ReadsAll.cons (Reads.bool x1) (ReadsAll.cons (Reads.bool x2) (ReadsAll.cons (Reads.bool x3) (ReadsAll.cons (Reads.bool x4) ReadsAll.nil))))
  have rY := reads_list_at ho' hc' hd' (ReadsAll.cons (Reads.bool x1) (ReadsAll.cons (Reads.bool x2) (ReadsAll.cons (Reads.bool x3) (ReadsAll.cons (Reads.bool x4) ReadsAll.nil))))
  refine ne_dataH rX rY rfl rfl hu ?_
  have : PyData.eqv (.list [.bool x1, .bool x2, .bool x3, .bool x4]) (.list [.bool x1, .bool x2, .bool x3, .bool x4]) = true := by cases x1 <;> cases x2 <;> cases x3 <;> cases x4 <;> rfl
  simpa [this] using h
end
theorem can_hot (nm : Str) {ks : List Str} (h : headMem ks = true) : canLock nm ks = lockedL.any fun x => x == nm := by unfold canLock; rw [h]; cases lockedL.any fun x => x == nm <;> rfl
theorem can_cold (nm : Str) {ks : List Str} (h : headMem ks = false) : canLock nm ks = false := by unfold canLock; rw [h]; cases lockedL.any fun x => x == nm <;> rfl
theorem lines_RightH_1 : True := by
  w_top off
  k_with_none
  k_with "assign Tuple" => (k_here; (with_reducible show wpAny _ _ (assign (Expr.Tuple _ _ _) _ (Value.ref _)) _ _ _); k_dflt (refine' kun_list ?qq30k1 ?qq30k2 ?qq30k3 ?qq30k4 ?qq30k5 ?qq30k6 ?_; (case qq30k1 => k_asm); (case qq30k2 => k_asm); (case qq30k3 => exact Fr.lst (by assumption) (by assumption)); (case qq30k4 => exact rfl); (case qq30k5 => exact rfl); (case qq30k6 => exact rfl); k_whole; intro h' F' N'; (try k_sweep)))
  k_with "call ref" => (k_here; (with_reducible show wpAny _ _ (call (Value.ref 167) _) _ _ _); k_dflt ((refine' Pure.use (condition_of_c _ _ _ (by assumption)) ?qq31B ?qq31F ?qq31X ?qq31N ?qq31T ?qq31k ?qq31d ?qq31u True.intro ?_); (case qq31B => k_asm); (case qq31F => k_asm); (case qq31X => k_asm); (case qq31N => k_asm); (case qq31T => k_asm); (case qq31k => first | rfl | assumption); (case qq31d => ktr_room); (case qq31u => ktr_units); intro r9 h9 tk9 F9 N9 st9 fr9 hO9; obtain ⟨t9, hr9⟩ := hO9; subst hr9; clear fr9 st9; (try dsimp only); (try k_fold)))
  k_with "call ref" => (k_here; (with_reducible show wpAny _ _ (call (Value.ref 181) _) _ _ _); k_dflt ((refine' Pure.use (where_next_c _ _ _ (by assumption)) ?qq32B ?qq32F ?qq32X ?qq32N ?qq32T ?qq32k ?qq32d ?qq32u True.intro ?_); (case qq32B => k_asm); (case qq32F => k_asm); (case qq32X => k_asm); (case qq32N => k_asm); (case qq32T => k_asm); (case qq32k => first | rfl | assumption); (case qq32d => ktr_room); (case qq32u => ktr_units); intro r9 h9 tk9 F9 N9 st9 fr9 hO9; obtain ⟨t9, hr9⟩ := hO9; subst hr9; clear fr9 st9; (try dsimp only); (try k_fold)))
  k_with "call ref" => (k_here; (with_reducible show wpAny _ _ (call (Value.ref 174) _) _ _ _); k_dflt ((refine' Pure.use (string_stem_c _ _ _ (by assumption)) ?qq33B ?qq33F ?qq33X ?qq33N ?qq33T ?qq33k ?qq33d ?qq33u True.intro ?_); (case qq33B => k_asm); (case qq33F => k_asm); (case qq33X => k_asm); (case qq33N => k_asm); (case qq33T => k_asm); (case qq33k => first | rfl | assumption); (case qq33d => ktr_room); (case qq33u => ktr_units); intro r9 h9 tk9 F9 N9 st9 fr9 hO9; obtain ⟨D9, t9, u9, hr9, hget9, hnone9⟩ := hO9; subst hr9; replace N9 := news_add N9 fr9 hget9 hnone9; clear fr9 st9; (try dsimp only); (try k_fold)))
  k_with "call ref" => (k_here; (with_reducible show wpAny _ _ (call (Value.ref 160) _) _ _ _); k_dflt ((refine' Pure.use (repeats_c _ _ _ (by assumption)) ?qq34B ?qq34F ?qq34X ?qq34N ?qq34T ?qq34k ?qq34d ?qq34u True.intro ?_); (case qq34B => k_asm); (case qq34F => k_asm); (case qq34X => k_asm); (case qq34N => k_asm); (case qq34T => k_asm); (case qq34k => first | rfl | assumption); (case qq34d => ktr_room); (case qq34u => ktr_units); intro r9 h9 tk9 F9 N9 st9 fr9 hO9; obtain ⟨l9, vs9, hr9, hget9, hnone9, hA9⟩ := hO9; subst hr9; replace N9 := news_add N9 fr9 hget9 hnone9; clear fr9 st9; (try dsimp only); (try k_fold)))
  k_with "call ref" => (k_here; (with_reducible show wpAny _ _ (call (Value.ref 35) _) _ _ _); k_dflt ((refine' Pure.use (canonical_c _ _ _ (by assumption)) ?qq35B ?qq35F ?qq35X ?qq35N ?qq35T ?qq35k ?qq35d ?qq35u True.intro ?_); (case qq35B => k_asm); (case qq35F => k_asm); (case qq35X => k_asm); (case qq35N => k_asm); (case qq35T => k_asm); (case qq35k => first | rfl | assumption); (case qq35d => ktr_room); (case qq35u => ktr_units); intro r9 h9 tk9 F9 N9 st9 fr9 hO9; obtain ⟨t9, hr9⟩ := hO9; subst hr9; clear fr9 st9; (try dsimp only); (try k_fold)))
  k_with "eval IfExp" => (k_here; (fail_if_success (rename InVal => xV')); (rename NameSays _ _ _ => hNS'); (rename Fr _ _ _ _ => lF'); (rename News _ _ _ _ => lN'); (with_reducible refine joinF hNS' lF' lN' (fun hw1' hw2' xV' => ?_) (fun hw1' xV' => ?_) (fun t' h' tk' F' N' => ?_)) <;> ((try dsimp only); (try k_fold)))
  k_with "subscriptTail" => (k_here; (with_reducible show wpAny _ _ (subscriptTail _ _ (Value.ref _) (Value.int _ _)) _ _ _); (rename DeedAt _ _ _ _ => hDX'); (rename DeedWays _ => hDW'); k_dflt (obtain ⟨tX', uX', hXX'⟩ := DeedAt.get hDX' (by k_asm) (by k_asm) (by k_mem); refine' item_deed hXX' ?_; k_whole; rcases hDW'.ways with ⟨hd1', hd2'⟩ | ⟨hd1', hd2'⟩ | ⟨hd1', hd2'⟩ | ⟨hd1', hd2'⟩ | ⟨hd1', hd2'⟩ | ⟨hd1', hd2'⟩) <;> (rw [hd1']))
  k_with "compareOp NotEq ref ref" => (k_here; (rename (repOf _ = _) => hd2'); k_dflt (refine' ne_strs hd2' ?qq38ha ?qq38hx ?qq38hb ?qq38hy ?qq38ok ?qq38hu ?_; (case qq38ha => exact News.isList (by k_asm) (by k_mem)); (case qq38hx => assumption); (case qq38hb => exact News.isList (by k_asm) (by k_mem)); (case qq38hy => repeat constructor); (case qq38ok => decide +kernel); (case qq38hu => ktr_units); k_whole))
  k_with "getMethod ref" => (k_here; (with_reducible show wpAny _ _ (getMethod (Value.ref _) (PySem.Str.ofString "get") _) _ _ _); (rename Heap.DictOf _ _ _ _ => hDO'); k_dflt (refine' getMethod_pair ?qq39F hDO' ?_; (case qq39F => k_asm); k_whole))
  k_with "call builtin:dict.get" => (k_here; (with_reducible show wpAny _ _ (call (Value.builtin "dict.get") [Value.ref _, Value.str _ _, Value.ref _]) _ _ _); (rename Heap.DictOf _ _ _ _ => hDO'); (rename PairsAt _ _ _ => hPA'); k_dflt (refine' get_pair ?qq40F ?qq40sys hDO' hPA' ?_; (case qq40F => k_asm); (case qq40sys => assumption); k_whole; intro X' hDX'))
  k_with "call builtin:dict.get" => (k_here; k_dflt (refine' get_look ?qq41T ?_; (case qq41T => first | k_tabat | exact TabAt.ofFr (by assumption) (by k_asm)); k_whole; intro t9))
  k_with "isTrue BoolOp" => (k_here; (fail_if_success (rename InTest => xT')); (rename Fr _ _ _ _ => lF'); (rename News _ _ _ _ => lN'); (with_reducible refine joinB lF' lN' (InTest.go fun xT' => ?_) (fun h' tk' F' N' => ?_)) <;> ((try dsimp only); (try k_fold)))
  k_with "isTrue Compare" => (k_here; (fail_if_success (rename InTest => xT')); (rename Fr _ _ _ _ => lF'); (rename News _ _ _ _ => lN'); (with_reducible refine joinB lF' lN' (InTest.go fun xT' => ?_) (fun h' tk' F' N' => ?_)) <;> ((try dsimp only); (try k_fold)))
  k_with "compareOp NotEq ref ref" => (k_here; (rename DeedAt _ _ _ _ => hDX'); (rename stemOf _ = deedOf _ => hSD'); k_dflt (obtain ⟨tX', uX', hXX'⟩ := DeedAt.get hDX' (by k_asm) (by k_asm) (by k_mem); refine' ne_tup (p := stemOf _) (q := deedOf _) ?qq44hX hXX' ?qq44hu (deed_ok _) hSD' ?_; (case qq44hX => exact News.get (by k_asm) (by k_mem)); (case qq44hu => ktr_units); k_whole))
  k_with "ite" => (k_here; with_reducible refine ite_ff ?_)
  k_with "eval ListComp" => (k_here; (with_reducible refine' ListComp_tup ?qq46F ?qq46c ?qq46l ?qq46k ?qq46n ?qq46x ?_ ?qq46s); k_dflt ((case qq46F => k_asm); (case qq46c => with_unfolding_all rfl); (case qq46l => decide +kernel); (case qq46k => rfl); (case qq46n => decide +kernel); (case qq46x => rfl); (case qq46s => (intro _; rfl)); k_whole))
  k_with "TupSrc" => (k_here; k_dflt (first | (refine TupSrc.base (by rfl) (by k_asm) (by k_asm) (by assumption) (by rfl) (by rfl) (by exact Nat.le_of_ble_eq_true rfl) ?_; intro g9; lcg_lit) | (refine TupSrc.ledger (by rfl) (by k_asm) (by k_asm) (by k_mem) (by rfl) (by rfl) (by exact Nat.le_of_ble_eq_true rfl) ?_; intro g9; lcg_lit)))
  k_with "call ref" => (k_here; (with_reducible show wpAny _ _ (call (Value.ref 142) _) _ _ _); (rename News _ _ _ _ => nN'); k_dflt ((first | (refine' form2_c _ _ _ _ _ _ _ _ _ ?qq48h0 ?qq48h1 _ _ _ _ _ _ _ _ _ _ _ _ _ _ _ _ _ _ _ _ ?qq48B ?qq48F ?qq48X ?qq48T ?qq48k ?qq48d ?qq48u ?qq48kd ?qq48kL ?_; (case qq48kd => exact News.get nN' (by k_mem)); (case qq48h0 => decide +kernel); (case qq48h1 => decide +kernel)) | (refine' form1_c _ _ _ _ _ _ _ ?qq48h0 _ _ _ _ _ _ _ _ _ _ _ _ _ _ _ _ _ _ _ _ ?qq48B ?qq48F ?qq48X ?qq48T ?qq48k ?qq48d ?qq48u ?qq48kd ?qq48kL ?_; (case qq48kd => exact News.get nN' (by k_mem)); (case qq48h0 => decide +kernel)) | (refine' form0_c _ _ _ _ _   _ _ _ _ _ _ _ _ _ _ _ _ _ _ _ _ _ _ _ _ ?qq48B ?qq48F ?qq48X ?qq48T ?qq48k ?qq48d ?qq48u ?qq48kd ?qq48kL ?_; (case qq48kd => exact News.get nN' (by k_mem)))); (case qq48B => k_asm); (case qq48F => k_asm); (case qq48X => k_asm); (case qq48T => k_asm); (case qq48k => first | rfl | assumption); (case qq48d => ktr_room); (case qq48u => ktr_units); (case qq48kL => exact (nN' (_, _) (by k_mem)).2.1); intro x9 h9 tk9 F9 kp9 fx9 xL9 hFA9; have N9 := (show News _ _ h9 _ from fun p hp => ⟨kp9 _ _ (nN' p hp).2.1 (nN' p hp).1, (nN' p hp).2⟩); clear kp9; (try dsimp only); (try k_fold)))
  k_with "call ref" => (k_here; (with_reducible show wpAny _ _ (call (Value.ref 153) _) _ _ _); k_dflt ((first | (refine' Pure.use (lock2_c _ _ (by assumption) _ _ _ _ _ _ ?qq49h0 ?qq49h1) ?qq49B ?qq49F ?qq49X ?qq49N ?qq49T ?qq49k ?qq49d ?qq49u ⟨?qq49fa, ?qq49kd⟩ ?_; (case qq49fa => assumption); (case qq49kd => exact News.get (by k_asm) (by k_mem)); (case qq49h0 => decide +kernel); (case qq49h1 => decide +kernel)) | (refine' Pure.use (lock1_c _ _ (by assumption) _ _ _ _ ?qq49h0) ?qq49B ?qq49F ?qq49X ?qq49N ?qq49T ?qq49k ?qq49d ?qq49u ⟨?qq49fa, ?qq49kd⟩ ?_; (case qq49fa => assumption); (case qq49kd => exact News.get (by k_asm) (by k_mem)); (case qq49h0 => decide +kernel)) | (refine' Pure.use (lock0_c _ _ (by assumption) _ _  ) ?qq49B ?qq49F ?qq49X ?qq49N ?qq49T ?qq49k ?qq49d ?qq49u ⟨?qq49fa, ?qq49kd⟩ ?_; (case qq49fa => assumption); (case qq49kd => exact News.get (by k_asm) (by k_mem)))); (case qq49B => k_asm); (case qq49F => k_asm); (case qq49X => k_asm); (case qq49N => k_asm); (case qq49T => k_asm); (case qq49k => first | rfl | assumption); (case qq49d => ktr_room); (case qq49u => ktr_units); intro r9 h9 tk9 F9 N9 st9 fr9 hO9; subst hO9; clear fr9 st9; (try dsimp only); (try k_fold)))
  k_with "compareOp In str ref" => (k_here; k_dflt (refine' in_list_strs (Fr.lst (by k_asm) ?qq50k1) ?qq50k2 ?_; (case qq50k1 => assumption); (case qq50k2 => assumption); k_whole))
  k_with "CompEnd" => k_dflt ((refine LCg.CompEnd.intro (by assumption) (by assumption) _ (fun _ hp => hp) ?qq51off ?qq51src ?_); (case qq51off => first | assumption | (simp only [LCg.Off3, and_true]; assumption)); (case qq51src => first | exact Or.inl (by assumption) | exact Or.inr (by k_mem)))
  k_with "compareOp NotEq ref ref" => (k_here; k_dflt (refine' ne_bool4 ?qq52e ⟨_, News.get (by k_asm) (by k_mem), rfl, _, rfl⟩ ⟨_, News.get (by k_asm) (by k_mem), rfl, _, rfl⟩ ?qq52u ?_; (case qq52e => exact ⟨can_hot _ (by decide +kernel), can_hot _ (by decide +kernel), can_cold _ (by decide +kernel), can_cold _ (by decide +kernel)⟩); (case qq52u => ktr_units); k_whole))
  k_with "call ref" => (k_here; (with_reducible show wpAny _ _ (call (Value.ref 42) _) _ _ _); k_dflt ((refine' Pure.use (aliases_of_c _ _ _ (by assumption)) ?qq53B ?qq53F ?qq53X ?qq53N ?qq53T ?qq53k ?qq53d ?qq53u True.intro ?_); (case qq53B => k_asm); (case qq53F => k_asm); (case qq53X => k_asm); (case qq53N => k_asm); (case qq53T => k_asm); (case qq53k => first | rfl | assumption); (case qq53d => ktr_room); (case qq53u => ktr_units); intro r9 h9 tk9 F9 N9 st9 fr9 hO9; obtain ⟨L9, hp9, hs9, l9, vs9, n9, hr9, hget9, hnone9, hA9⟩ := hO9; subst hr9; replace N9 := news_add N9 fr9 hget9 hnone9; clear fr9 st9; (try dsimp only); (try k_fold)))
  k_with "eval ListComp" => (k_here; (with_reducible refine' ListComp_dictT (strKind _ _) ?qq54F ?qq54c ?qq54l ?qq54k ?qq54n ?qq54x ?_ ?qq54s); k_dflt ((case qq54F => k_asm); (case qq54c => with_unfolding_all rfl); (case qq54l => decide +kernel); (case qq54k => rfl); (case qq54n => decide +kernel); (case qq54x => rfl); (case qq54s => (intro _; rfl)); k_whole))
  k_with "DictSrcT" => (k_here; k_dflt (refine Stop.go ?_))
  k_with "subscriptTail" => (k_here; (with_reducible show wpAny _ _ (subscriptTail _ _ (Value.ref _) (Value.str _ _)) _ _ _); (rename (look _ _ = some _) => hv9); k_dflt (refine' item_look ?qq56T hv9 ?_; (case qq56T => exact TabAt.ofFr (by assumption) (by k_asm)); k_whole; intro t9))
  k_with "call builtin:sorted" => (k_here; (with_reducible show wpAny _ _ (call (Value.builtin _) [Value.ref _]) _ _ _); (rename StrsAre _ (List.map _ _) => hSA'); (rename (List.length _ < 64) => hLn'); k_dflt (refine' sorted_N_str ?qq57F ?qq57N ?qq57l hSA' hLn' ?_; (case qq57F => k_asm); (case qq57N => k_asm); (case qq57l => exact News.isList (by k_asm) (by k_mem)); k_whole; intro h' vs' ss' e' F' N' hA' hp' hs'))
  k_with "compareOp Eq ref ref" => (k_here; (rename StrsAre _ _ => hA2'); (rename (List.Perm _ (List.map _ _)) => hp2'); (rename (List.Perm _ (foundOf _)) => hp1'); k_dflt (refine' eq_strs ?qq58e ?qq58ha ?qq58hx ?qq58hb hA2' ?qq58ok ?qq58hu ?_; (case qq58ha => exact News.isList (by k_asm) (by k_mem)); (case qq58hx => assumption); (case qq58hb => exact News.isList (by k_asm) (by k_mem)); (case qq58e => exact sorted_same (ali_perm hp1' hp2') (by assumption) (by assumption)); (case qq58ok => exact ali_ok hp2'); (case qq58hu => ktr_units); k_whole))
  trivial
set_option maxRecDepth 100000 in
set_option maxHeartbeats 8000000 in
theorem right_c (w : World) (nm : Str) (tk : Tok) (tb c st fl lk al : Addr) (vlk : List Value) (kvs : List (Str × Value)) (hlen : nm.length ≤ 1000)
    (lawC : condOf nm = endOf nm) (hSD : stemOf nm = deedOf nm) (hDW : DeedWays nm) (hNS : NameSays nm nm ((look condT nm).getD (Str.ofString "") != Str.ofString "")) :
    Pure w 20 228 [.str nm tk, .ref tb] (fun h => TablesAt w h tb c st fl lk al vlk kvs ∧ (st == sysModules) = false ∧ PairsAt h kvs stringT) (fun _ r _ => r = .bool true) := by
  unfold Pure
  k_fill
  intro mean mg mb dp un gd cn cs a ccd cl outer A₀ base h₀ L m s Q E B F X T hk hd hu hP hret
  refine wpAny_call ?_
  k_dflt (refine' enterC (binds := [(Str.ofString "name", Value.str nm tk), (Str.ofString "tables", Value.ref tb)]) ?k1 ?k2 ?k3 ?k5 ?kA ?kF ?kK ?k6 ?k7 ?k8 ?k9 ?kB ?kD ?_ ?c2 ?c3 ?c4; (case kA => exact rfl); (case kF => exact rfl); (case kK => assumption); (case k1 => k_asm); (case k2 => k_asm); (case k3 => k_asm); (case k5 => k_asm); (case k6 => k_is); (case k7 => k_is); (case k8 => ktr_room); (case k9 => exact BindsTo.of_eq rfl); (case kB => exact rfl); (case kD => decide +kernel); (case c2 => exact rfl); (case c3 => exact rfl); (case c4 => exact rfl); k_whole; intro g' L' h' tk' cells' hG hG2 FG' F' N' Y' B' X' T'; k_cells Y'; (try simp only [List.cons_append, List.nil_append] at N'); (try dsimp only); (try k_lift B'); (try k_fold))
  have hTA : TablesAt w g' tb c st fl lk al vlk kvs := hP.1.keep fun b o e => hG b o e (by simp)
  have hPA : PairsAt g' kvs stringT := hP.2.2.keep fun b o e => hG b o e (by simp)
  have hsysT := hP.2.1
  obtain ⟨htb, hc, hst, hfl, hlk, hvlk, hal⟩ := hTA
  k_steps
  all_goals first
    | exact NoB.intro rfl (by assumption) (by assumption) (by k_sub)
    | exact NoB.intro (by rw [lawC]; exact bne_self_eq_false _) (by assumption) (by assumption) (by k_sub)
    | exact absurd ‹(condOf nm != _) = true› (by rw [lawC]; simp [endOf])
    | exact NoB.intro (by rw [lawF]; exact bne_self_eq_false _) (by assumption) (by assumption) (by k_sub)
    | exact absurd ‹(whereNext nm != _) = true› (by rw [lawF]; simp)
    | exact OneS.intro (by symm; unfold flowDef endOf; (repeat (first | refine (cond_t (by assumption)).trans ?_ | refine (cond_f (by assumption)).trans ?_ | refine (if_t (by assumption)).trans ?_ | refine (if_f (by assumption)).trans ?_)); rfl) (by assumption) (by assumption) (by k_sub)
    | (refine Stop.mk ?_
       (rename TabAt _ _ _ al (dOf aliasesT) => hal7)
       obtain ⟨hsysA, kvsA, hdA, hfA⟩ := hal7
       have hal7 : TabAt (strKind PySem.Challenge.rw_pq0793_01.row.prog w) PyData.str g' al (dOf aliasesT) := ⟨hsysA, kvsA, hdA, hfA⟩
       obtain ⟨oA, hoA, hdoA⟩ := Heap.dictOf_iff.mp hdA
       (rename News _ _ _ _ => N7)
       (rename Fr _ _ _ _ => F7)
       refine ⟨al, oA, kvsA, _, rfl, rfl, F7, N7, hsysA, .inl hoA, hdoA, (by rw [flat_length hfA]; exact Nat.le_of_ble_eq_true rfl), ?_⟩
       rintro s₂ ⟨g7, rfl⟩
       refine restT_inv (fun i ys => StrsAre ys (((aliasesT.take i).filter fun p => p.2 == nm).map (·.1))) ?_ ?_ _ 0 [] (Nat.zero_add _) StrsAre.nil
       · intro ys hJ
         rw [flat_length hfA, List.take_length] at hJ
         have hLn : ys.length < 64 := by
           rw [StrsAre.length hJ, List.length_map]
           exact Nat.lt_of_le_of_lt (List.length_filter_le _ _) (show aliasesT.length < 64 by decide +kernel)
         clear F7 N7
         k_steps
         all_goals exact hret _ _ _ (keep_of hG (by assumption)) rfl
       · intro i v ys I oI C oC D m₂ h tk E' hi hJ hPP hC hx FF NN off ne
         have xT7 : InTest := ⟨⟩
         obtain ⟨k, y, hk, hv⟩ := hPP
         obtain ⟨p, hp, rfl⟩ := flat_key hfA hk
         obtain ⟨t, rfl⟩ := is_str hv
         have hv9 := look_at (tbl := aliasesT) (by decide +kernel) hp
         obtain ⟨hl1, hl2⟩ := len_at (tbl := aliasesT) (by decide +kernel) hp
         clear F7 N7
         k_steps
         all_goals first
           | exact StrsAre.snoc hJ _ _
           | (rw [filter_take_t hp (by assumption), List.map_append]; exact StrsAre.snoc hJ _ _)
           | (rw [filter_take_f hp (by assumption)]; exact hJ)
           | rfl)
    | exact absurd ‹(canon nm == _) = false› (by rw [lawK]; simp)
    | exact hret _ _ _ (keep_of hG (by assumption)) rfl
theorem right_all (w : World) (nm : Str) (tk : Tok) (tb c st fl lk al : Addr) (vlk : List Value) (kvs : List (Str × Value)) (hlen : nm.length ≤ 1000) :
    Pure w 20 228 [.str nm tk, .ref tb] (fun h => TablesAt w h tb c st fl lk al vlk kvs ∧ (st == sysModules) = false ∧ PairsAt h kvs stringT) (fun _ r _ => r = .bool true) :=
  right_c w nm tk tb c st fl lk al vlk kvs hlen (lawC nm) (lawS nm) (deedWays nm) (nameSays nm)
end Mine
end
section
-- part Itm
open PySem PySem.W PySem.Calls PyProof.Rows PyProof.V PySem.Spec
namespace Mine
section
variable {prog : Program} {w : World} {A : Around} {E : Value → Shared → Prop} {s : Shared} {env : Env} {h₀ : Heap} {x : Str} {body : List Stmt} {Q : Flow → Shared → Prop}
noncomputable def JM (x : Str) (stored : List Str) (m₀ : Str → Option Value) (J : (Str → Option Value) → List (Addr × Obj) → Prop) (m' : Str → Option Value) (nx : List (Addr × Obj)) : Prop :=
  (∀ y, y ≠ x → stored.contains y = false → m' y = m₀ y) ∧ J m' nx
theorem iterGm {I ax : Addr} {lo : Obj} {n : Nat} {P : Nat → Value → Prop} {St : Nat → Heap → Prop} {m₀ : Str → Option Value} {news : List (Addr × Obj)} {hp : Heap} {tk0 : Nat} (stored : List Str) (J : Nat → (Str → Option Value) → List (Addr × Obj) → Prop)
    (W : Walks prog w A I [I, ax] [I] n P St) (hob : ∀ i h, St i h → ∃ o, h.get? I = some o) (hI0 : h₀.get? I = none) (hIL : env.locals ≠ I) (hnI : ∀ p ∈ news, p.1 < I) (haxL : ax ≠ env.locals)
    (hst : St 0 hp) (F : Fr h₀ env.locals hp m₀) (N : News h₀ env.locals hp news) (hj : J 0 m₀ news) (hsrc : ∀ i m' nx, J i m' nx → (ax, lo) ∈ nx ∨ h₀.get? ax = some lo)
    (turn : ∀ i v (u : Str → Option Value) news₁ h tk o, i < n → P i v → news₁.map (·.1) = news.map (·.1) → (∀ p ∈ news₁, p.1 < I) → J i u news₁ → Fr h₀ env.locals h (fun y => if y = x then some v else if stored.contains y then u y else m₀ y) → News h₀ env.locals h ((I, o) :: news₁) →
      wpAny (model prog w) A (execs body env) (InvPostN h₀ env.locals (JM x stored m₀ (J (i + 1))) [(I, o)] (news.map (·.1)) { s with heap := h, toks := tk } Q) E { s with heap := h, toks := tk })
    (done : ∀ (u : Str → Option Value) news₁ h tk, news₁.map (·.1) = news.map (·.1) → J n u news₁ → Fr h₀ env.locals h (fun y => if y = x then u y else if stored.contains y then u y else m₀ y) → News h₀ env.locals h news₁ → Q .next { s with heap := h, toks := tk }) :
    LoopAtV prog w A h₀ env x body Q E (.ref I) { s with heap := hp, toks := tk0 } := by
  let J' : Nat → (Str → Option Value) → List (Addr × Obj) → Prop := fun i m₁ news₁ => news₁.map (·.1) = news.map (·.1) ∧ (∀ y, y ≠ x → stored.contains y = false → m₁ y = m₀ y) ∧ J i m₁ news₁
  have wr0 : ∀ b ∈ [I], h₀.get? b = none := fun b hb => by rw [List.mem_singleton.mp hb]; exact hI0
  have offI : ∀ {nx : List (Addr × Obj)}, nx.map (·.1) = news.map (·.1) → ∀ p ∈ nx, p.1 < I := fun e p hp => by
    have h1 : p.1 ∈ news.map (·.1) := e ▸ List.mem_map.mpr ⟨p, hp, rfl⟩
    obtain ⟨q, hq, e'⟩ := List.mem_map.mp h1
    exact e' ▸ hnI q hq
  refine ⟨I, [I, ax], [I], n, P, St, m₀, news, J', rfl, W, ?_, wr0, (fun p hp hI => absurd (hnI p hp) (List.mem_singleton.mp hI ▸ Nat.lt_irrefl _)), hst, F, N, ⟨rfl, fun _ _ _ => rfl, hj⟩, ?_, ?_⟩
  · intro hm'
    rcases List.mem_cons.mp hm' with e | hm'
    · exact hIL e
    · exact haxL (List.mem_singleton.mp hm').symm
  · rintro i v m₁ news₁ s₁ own ⟨hh', tk', rfl⟩ hin hP ⟨hadr, hJm, hJ⟩ hoff hown hget hall hst' F₁ N₁
    obtain ⟨o, ho⟩ := hob _ _ hst'
    have hio : (I, o) ∈ own := hall I (by simp) hI0 o ho
    have e : (fun y => if y = x then some v else m₁ y) = fun y => if y = x then some v else if stored.contains y then m₁ y else m₀ y := by
      funext y
      by_cases h1 : y = x
      · simp [h1]
      · simp only [if_neg h1]
        cases h2 : stored.contains y with
        | true => simp
        | false => simp only [Bool.false_eq_true, if_false]; exact hJm y h1 h2
    rw [e] at F₁
    have N₂ : News h₀ env.locals hh' ((I, o) :: news₁) := fun p hp => by
      rcases List.mem_cons.mp hp with e | hp
      · exact N₁ p (List.mem_append_left _ (e ▸ hio))
      · exact N₁ p (List.mem_append_right _ hp)
    refine wpAny_mono (turn i v m₁ news₁ hh' tk' o hin hP hadr (offI hadr) hJ F₁ N₂) (fun f s₂ p => ?_) fun _ _ e => e
    have fin : InvEndN h₀ env.locals (JM x stored m₀ (J (i + 1))) [(I, o)] (news.map (·.1)) { s with heap := hh', toks := tk' } s₂ → LoopStepU h₀ env.locals [I] own (J' (i + 1)) { s with heap := hh', toks := tk' } .next s₂ := by
      rintro ⟨h', tk, m', news', nx, e, F', N', hn, ho', ha, hm', hJ'⟩
      refine ⟨rfl, h', tk, m', nx, e, F', fun p hp => ?_, fun p hp hI => absurd (offI ha p hp) (List.mem_singleton.mp hI ▸ Nat.lt_irrefl _), ha, hm', hJ'⟩
      rcases List.mem_append.mp hp with h1 | h1
      · have h2 := N₁ p (List.mem_append_left _ h1)
        rcases List.mem_cons.mp (hown p h1) with e1 | e1
        · have e2 : p = (I, o) := by
            have := h2.1
            rw [e1, ho] at this
            exact Prod.ext e1 (Option.some.inj this).symm
          exact N' p (ho' p (e2 ▸ List.mem_singleton.mpr rfl))
        · have e1 := List.mem_singleton.mp e1
          rcases hsrc _ _ _ hJ with h3m | h3b
          · have h3 := N₁ (ax, lo) (List.mem_append_right _ h3m)
            have e2 : p = (ax, lo) := by
              have := h2.1
              rw [e1, h3.1] at this
              exact Prod.ext e1 (Option.some.inj this).symm
            rcases hsrc _ _ _ hJ' with h4 | h4
            · exact N' p (hn p (e2 ▸ h4))
            · exact absurd h3.2.2 (by rw [h4]; exact fun q => nomatch q)
          · exact absurd h2.2.2 (by rw [e1, h3b]; exact fun q => nomatch q)
      · exact N' p (hn p h1)
    cases f with
    | ret v => exact .ret p
    | brk => exact .brk p
    | next => exact .next (fin p)
    | cont => exact .cont (fin p)
  · rintro h' tk m' news' F' N' _ ⟨ha, hm', hJ⟩
    refine done m' news' h' tk ha hJ ?_ N'
    have e : (fun y => if y = x then m' y else if stored.contains y then m' y else m₀ y) = m' := by
      funext y
      by_cases h1 : y = x
      · simp [h1]
      · simp only [if_neg h1]
        cases h2 : stored.contains y with
        | true => simp
        | false => simp only [Bool.false_eq_true, if_false]; exact (hm' y h1 h2).symm
    rw [e]; exact F'
theorem iterLm {ax : Addr} {lo : Obj} {vs : List Value} {n : Nat} {m₀ : Str → Option Value} {news : List (Addr × Obj)} (stored : List Str) (J : List (Addr × Obj) → Nat → (Str → Option Value) → List (Addr × Obj) → Prop)
    (hh : A.handled = none) (F : Fr h₀ env.locals s.heap m₀) (N : News h₀ env.locals s.heap news) (hm : (ax, lo) ∈ news) (hc : lo.cls = .type "list") (hd : lo.data = .seq vs.toArray n) (hj : J news 0 m₀ news) (hsrc : ∀ i m' nx, J news i m' nx → (ax, lo) ∈ nx)
    (turn : ∀ i v (u : Str → Option Value) news₁ h tk I o, vs[i]? = some v → news₁.map (·.1) = news.map (·.1) → (∀ p ∈ news₁, p.1 < I) → J news i u news₁ → Fr h₀ env.locals h (fun y => if y = x then some v else if stored.contains y then u y else m₀ y) → News h₀ env.locals h ((I, o) :: news₁) →
      wpAny (model prog w) A (execs body env) (InvPostN h₀ env.locals (JM x stored m₀ (J news (i + 1))) [(I, o)] (news.map (·.1)) { s with heap := h, toks := tk } Q) E { s with heap := h, toks := tk })
    (done : ∀ (u : Str → Option Value) news₁ h tk, news₁.map (·.1) = news.map (·.1) → J news vs.length u news₁ → Fr h₀ env.locals h (fun y => if y = x then u y else if stored.contains y then u y else m₀ y) → News h₀ env.locals h news₁ → Q .next { s with heap := h, toks := tk }) :
    wpAny (model prog w) A (pyIter (.ref ax)) (fun it s₂ => LoopAtV prog w A h₀ env x body Q E it s₂) E s := by
  have hax := N _ hm
  have hl : s.heap.IsList ax vs.toArray := ⟨lo, hax.1, hc, n, hd⟩
  have hlt : ax < s.heap.objs.size := Heap.lt_size hax.1
  have hne : ax ≠ s.heap.objs.size := Nat.ne_of_lt hlt
  refine wpAny_pyIter_list hl ?_
  have W := Walks.list (prog := prog) (w := w) hh s.heap.objs.size ax hne vs.toArray
  refine iterGm (s := s) (lo := lo) stored (J news) W (fun i h st => ?_) (next_is_new F) (fun e => absurd F.ns.lt (e ▸ Nat.lt_irrefl _)) (fun p hp => Heap.lt_size (N p hp).1) hax.2.1 ?_ (F.push _) (fun p hp => ⟨Heap.get?_push_of_some _ (N p hp).1, (N p hp).2⟩) hj (fun i m' nx h => .inl (hsrc i m' nx h))
    (fun i v u news₁ h tk o _ hP => turn i v u news₁ h tk _ o (by simpa using hP)) (by simpa using done)
  · obtain ⟨o, ho, _⟩ := st.1; exact ⟨o, ho⟩
  · exact ⟨⟨_, Heap.get?_push_size _ rfl, rfl, rfl⟩, hl.at fun o e => Heap.get?_push_of_some _ e⟩
end
section
variable {h₀ h' : Heap} {L : Addr} {m₀ m' : Str → Option Value} {x : Str} {stored : List Str} {J : (Str → Option Value) → List (Addr × Obj) → Prop} {p : Addr × Obj} {nx : List (Addr × Obj)} {adr : List Addr} {s₁ : Shared} {tk : Nat}
theorem endJM (F : Fr h₀ L h' m') (N : News h₀ L h' (p :: nx)) (hm : ∀ y, y ≠ x → stored.contains y = false → m' y = m₀ y) (ha : nx.map (·.1) = adr) (hJ : J m' nx) : InvEndN h₀ L (JM x stored m₀ J) [p] adr s₁ { s₁ with heap := h', toks := tk } :=
  InvEndN.intro (nx := nx) F N ⟨hm, hJ⟩ ha (fun q hq => .tail _ hq) (fun q hq => by rw [List.mem_singleton.mp hq]; exact .head _)
end
theorem mulOk {a b : Int} {k : Nat} (ha : a.natAbs < 2 ^ k) (hb : b.natAbs < 2 ^ k) (hk : k ≤ 100000) : IntMulOk a b := by
  have h1 := intBits_le ha
  have h2 := intBits_le hb
  unfold IntMulOk Builtin.Int.intTooBig
  have h3 : ¬ ((Builtin.Int.intBits a : Int) + (Builtin.Int.intBits b : Int) > (bitsLine : Int)) := by
    have : bitsLine = bitsLine := rfl
    unfold bitsLine
    omega
  intro q
  rw [Bool.and_eq_true] at q
  exact h3 (of_decide_eq_true q.2)
end Mine
end
section
-- part PenA
open PySem PySem.W PySem.Calls PyProof.Rows PyProof.V PySem.Spec
namespace Mine
theorem lines_PenA_1 : True := by
  w_top off
  k_with_none
  trivial
set_option maxRecDepth 100000 in
set_option maxHeartbeats 8000000 in
theorem law_base_c (w : World) : Pure w 3 188 [] (fun _ => True) (fun _ r _ => ∃ t, r = .int 1000000000000000000000000000057 t) := by
  unfold Pure
  k_fill
  intro mean mg mb dp un gd cn cs a ccd cl outer A₀ base h₀ L m s Q E B F X T hk hd hu hP hret
  refine wpAny_call ?_
  k_dflt (refine' enterG (binds := []) ?k1 ?k2 ?k3 News.nil ?k5 ?kA ?kF ?kK ?k6 ?k7 ?k8 ?k9 ?kB ?_ ?c2 ?c3 ?c4 ?c5; (case kA => exact rfl); (case kF => exact rfl); (case kK => assumption); (case k1 => k_asm); (case k2 => k_asm); (case k3 => k_asm); (case k5 => k_asm); (case k6 => k_is); (case k7 => k_is); (case k8 => ktr_room); (case k9 => exact BindsTo.of_eq rfl); (case c5 => decide); (case kB => exact locs rfl); (case c2 => exact rfl); (case c3 => exact rfl); (case c4 => exact rfl); k_whole; intro g' L' h' hG hG2 FG' F' N' B' X' T'; (try dsimp only); (try k_lift B'); (try k_fold))
  k_steps
  all_goals exact hret _ _ _ (keep_of hG (by assumption)) ⟨_, rfl⟩
noncomputable def penObj (a b c : Int) (t u v : Tok) (n : Nat) : Obj := listOf #[.int a t, .int b u, .int c v] n
structure PenOk (k : Nat) (a b c : Int) : Prop where
  a0 : 0 ≤ a
  a1 : a < 2 ^ 4000
  b0 : 0 ≤ b
  b1 : b < 2147483647
  c0 : 0 ≤ c
  c1 : c ≤ k
noncomputable def PenJ (i : Nat) (m' : Str → Option Value) : Prop := ∃ s t, m' (Str.ofString "store") = some (.int s t) ∧ 0 ≤ s ∧ s < 2 ^ (100 * i)
noncomputable def PenJJ (news : List (Addr × Obj)) (i : Nat) (m' : Str → Option Value) (nx : List (Addr × Obj)) : Prop := PenJ i m' ∧ nx = news
theorem ints_at {vs : List Value} {ns : List Int} (h : IntsAre vs ns) : ∀ {i : Nat} {v : Value}, vs[i]? = some v → ∃ z t, v = .int z t ∧ i < ns.length := by
  induction h with
  | nil => intro i v e; cases e
  | cons z t _ ih =>
    intro i v e
    cases i with
    | zero => cases e; exact ⟨z, t, rfl, Nat.zero_lt_succ _⟩
    | succ j =>
      obtain ⟨z', t', e', h'⟩ := ih (i := j) (v := v) (by simpa using e)
      exact ⟨z', t', e', Nat.succ_lt_succ h'⟩
theorem one_stored {x st : Str} {v : Option Value} {a u m₀ : Str → Option Value} (hu : u st = v) : (fun y => if y = x then a y else if [st].contains y = true then u y else m₀ y) = fun y => if y = x then a y else if y = st then v else m₀ y := by
  funext y
  by_cases h1 : y = x
  · simp [h1]
  · by_cases h2 : y = st
    · subst h2; simp [hu]
    · simp [h1, h2]
theorem pen_step {s c : Int} {i : Nat} (h0 : 0 ≤ s) (h1 : s < 2 ^ (100 * i)) : 0 ≤ s * 1000000000000000000000000000057 + c.fmod 1000000000000000000000000000057 ∧ s * 1000000000000000000000000000057 + c.fmod 1000000000000000000000000000057 < 2 ^ (100 * (i + 1)) := by
  have h2 := Int.fmod_nonneg_of_pos c (show (0 : Int) < 1000000000000000000000000000057 by decide)
  have h3 := Int.fmod_lt_of_pos c (show (0 : Int) < 1000000000000000000000000000057 by decide)
  have e : (2 : Int) ^ (100 * (i + 1)) = 2 ^ (100 * i) * 2 ^ 100 := by rw [Nat.mul_add, Int.pow_add]
  rw [e]
  generalize (2 : Int) ^ (100 * i) = P at *
  have h4 : (s + 1) * 1000000000000000000000000000057 ≤ P * 1000000000000000000000000000057 := Int.mul_le_mul_of_nonneg_right (by omega) (by decide)
  have h5 : P * 1000000000000000000000000000057 ≤ P * 2 ^ 100 := Int.mul_le_mul_of_nonneg_left (by decide) (by omega)
  have h6 : 0 ≤ s * 1000000000000000000000000000057 := Int.mul_nonneg h0 (by decide)
  omega
theorem pen_top {s : Int} {i : Nat} (hi : i ≤ 40) (h1 : s < 2 ^ (100 * i)) : s < 2 ^ 4000 := by
  have h2 : (2 : Nat) ^ (100 * i) ≤ 2 ^ 4000 := Nat.pow_le_pow_right (by decide) (by omega)
  have h3 : ((2 ^ (100 * i) : Nat) : Int) ≤ ((2 ^ 4000 : Nat) : Int) := Int.ofNat_le.mpr h2
  rw [Int.natCast_pow, Int.natCast_pow] at h3
  exact Int.lt_of_lt_of_le h1 h3
theorem pen_mul {s : Int} {i : Nat} (hi : i ≤ 40) (h0 : 0 ≤ s) (h1 : s < 2 ^ (100 * i)) : IntMulOk s 1000000000000000000000000000057 := by
  have h2 := pen_top hi h1
  refine mulOk (k := 4000) ?_ (by decide +kernel) (by decide)
  have h3 : (s.natAbs : Int) < ((2 ^ 4000 : Nat) : Int) := by
    rw [Int.natAbs_of_nonneg h0, Int.natCast_pow]; exact h2
  exact Int.ofNat_lt.mp h3
noncomputable def PenOut (k : Nat) (h : Heap) (r : Value) (h' : Heap) : Prop := ∃ p a b c t u v n, r = .ref p ∧ h'.get? p = some (penObj a b c t u v n) ∧ h.get? p = none ∧ PenOk k a b c
local macro_rules | `(tactic| walk_at "pyIter ref") => `(tactic| (k_here; k_dflt (refine Stop.go ?_)))
theorem lines_PenA_2 : True := by
  k_with "call ref" => (k_here; (with_reducible show wpAny _ _ (call (Value.ref 188) _) _ _ _); k_dflt ((refine' Pure.use (law_base_c _) ?qq59B ?qq59F ?qq59X ?qq59N ?qq59T ?qq59k ?qq59d ?qq59u True.intro ?_); (case qq59B => k_asm); (case qq59F => k_asm); (case qq59X => k_asm); (case qq59N => k_asm); (case qq59T => k_asm); (case qq59k => first | rfl | assumption); (case qq59d => ktr_room); (case qq59u => ktr_units); intro r9 h9 tk9 F9 N9 st9 fr9 hO9; obtain ⟨t9, hr9⟩ := hO9; subst hr9; clear fr9 st9; (try dsimp only); (try k_fold)))
  k_with "callWith ref nil nil" => (k_here; k_dflt (refine' callWith_K0 ?qq60k1 ?qq60k2 ?_; (case qq60k1 => k_in); (case qq60k2 => k_is); k_whole))
  k_with "exec For Name Name cons nil" => (k_here; (rename Fr _ _ _ _ => lF'); k_dflt (with_unfolding_all refine' For_invVF lF' ?qq61k1 ?qq61k2 ?_; (case qq61k1 => exact rfl); (case qq61k2 => exact rfl); k_whole))
  k_with "exec For Name Tuple cons nil" => (k_here; (rename Fr _ _ _ _ => lF'); k_dflt (with_unfolding_all refine' For_invVF lF' ?qq62k1 ?qq62k2 ?_; (case qq62k1 => exact rfl); (case qq62k2 => exact rfl); k_whole))
  k_with "exec For Name Subscript cons nil" => (k_here; (rename Fr _ _ _ _ => lF'); k_dflt (with_unfolding_all refine' For_invVF lF' ?qq63k1 ?qq63k2 ?_; (case qq63k1 => exact rfl); (case qq63k2 => exact rfl); k_whole))
  k_with "exec For Name Call cons nil" => (k_here; (rename Fr _ _ _ _ => lF'); k_dflt (with_unfolding_all refine' For_invVF lF' ?qq64k1 ?qq64k2 ?_; (case qq64k1 => exact rfl); (case qq64k2 => exact rfl); k_whole))
  trivial
set_option maxRecDepth 100000 in
set_option maxHeartbeats 8000000 in
theorem law_pen_c (w : World) (ax : Addr) (vs : List Value) (ns : List Int) (hi : IntsAre vs ns) (hn : ns.length ≤ 63) :
    Pure w 6 195 [.ref ax] (fun h => h.IsList ax vs.toArray) (PenOut 0) := by
  unfold Pure
  k_fill
  intro mean mg mb dp un gd cn cs a ccd cl outer A₀ base h₀ L m s Q E B F X T hk hd hu hP hret
  refine wpAny_call ?_
  k_dflt (refine' enterG (binds := [(Str.ofString "script", Value.ref ax)]) ?k1 ?k2 ?k3 News.nil ?k5 ?kA ?kF ?kK ?k6 ?k7 ?k8 ?k9 ?kB ?_ ?c2 ?c3 ?c4 ?c5; (case kA => exact rfl); (case kF => exact rfl); (case kK => assumption); (case k1 => k_asm); (case k2 => k_asm); (case k3 => k_asm); (case k5 => k_asm); (case k6 => k_is); (case k7 => k_is); (case k8 => ktr_room); (case k9 => exact BindsTo.of_eq rfl); (case c5 => decide); (case kB => exact locs rfl); (case c2 => exact rfl); (case c3 => exact rfl); (case c4 => exact rfl); k_whole; intro g' L' h' hG hG2 FG' F' N' B' X' T'; (try dsimp only); (try k_lift B'); (try k_fold))
  have hl : g'.IsList ax vs.toArray := hP.at fun o e => hG _ _ e (by simp)
  k_steps
  refine Stop.mk ?_
  rename (News _ _ _ [(_, listOf _ _), (_, listOf _ _)]) => N1
  rename (IntsAre _ (List.take 40 ns).reverse) => hI1
  rename (Fr _ _ _ _) => F1
  have hln : (List.take 40 ns).reverse.length ≤ 40 := by simp; omega
  with_unfolding_all refine' iterLm [Str.ofString "store"] PenJJ ?hh F1 N1 (.head _) rfl rfl ?hj ?src ?turn ?done
  case hh => rfl
  case hj => exact ⟨⟨_, _, rfl, Int.le_refl _, by decide⟩, rfl⟩
  case src => rintro i m' nx ⟨_, rfl⟩; exact .head _
  case turn =>
    intro i v u news₁ h tk I oI hv hadr hI hJ F2 N2
    obtain ⟨⟨s9, t9, hu, h0, h1⟩, rfl⟩ := hJ
    obtain ⟨z, tz, rfl, hiz⟩ := ints_at hI1 hv
    have hiz : i < 40 := by omega
    have hmul := pen_mul (Nat.le_of_lt hiz) h0 h1
    rw [one_stored hu] at F2
    clear hadr F1 N1
    k_lt hI
    (try dsimp only)
    (try k_fold)
    k_steps
    all_goals ((rename (News _ _ _ _) => N9); (rename (Fr _ _ _ _) => F9); refine endJM F9 N9 (by intro y h1 h2; simp at h2; simp [h1, h2]) rfl ⟨⟨_, _, rfl, ?_⟩, rfl⟩)
    exact pen_step h0 h1
  case done =>
    intro u news₁ h tk hadr hJ F2 N2
    obtain ⟨⟨s9, t9, hu, h0, h1⟩, rfl⟩ := hJ
    rw [one_stored hu] at F2
    have hlw : _ ≤ 40 := (IntsAre.length hI1) ▸ hln
    clear hadr F1 N1
    (try dsimp only)
    (try k_fold)
    k_steps
    rename (News g' _ _ _) => N9
    rename (Fr g' _ _ _) => F9
    have f0 := Int.fmod_nonneg_of_pos (ns.length : Int) (show (0 : Int) < 1000 by decide)
    have f1 := Int.fmod_lt_of_pos (ns.length : Int) (show (0 : Int) < 1000 by decide)
    have hN := N9 _ (.head _)
    exact hret _ _ _ (keep_of hG F9) ⟨_, _, _, _, _, _, _, _, rfl, hN.1, fresh_of hG hN.2.2, h0, pen_top hlw h1, by omega, by omega, by decide, by decide⟩
end Mine
end
section
-- part TakeA
open PySem PySem.W PySem.Calls PyProof.Rows PyProof.V PySem.Spec
namespace Mine
noncomputable def Moves (w : World) (d : Nat) (f p : Addr) (args : List Value) (o : Obj) (P : Heap → Prop) (Out : Heap → Value → Heap → Prop) : Prop :=
  ∀ (mean : ExcName → Option Value) (mg mb : Str → Option Value) (dp un : Nat) (gd : Option (List Code)) (cn : Str) (cs : Scope) (a : Addr) (ccd : Value) (cl : List (Str × Addr)) (outer : List Env) (A₀ : Around) (base h₀ : Heap) (L : Addr) (m : Str → Option Value) (s : Shared) (Q E : Value → Shared → Prop),
    Below A₀ base outer h₀ → Fr h₀ L s.heap m → (hd.heap_39 w.params).In h₀ → Top hd.view_39 (looseW hd.view_39 []) mean mg mb h₀ → cs.kind = .function → dp + d < recursionLimit → un + 10 * d < cLine → News h₀ L s.heap [(p, o)] → P s.heap →
    (∀ r h' tk', (∀ b o, b ≠ p → s.heap.get? b = some o → h'.get? b = some o) → Out s.heap r h' → Q r { s with heap := h', toks := tk' }) →
    wpAny (model PySem.Challenge.rw_pq0793_01.row.prog w) (ktrTop dp un gd cn cs L a ccd cl outer) (call (.ref f) args) Q E s
noncomputable def PenAfter (k : Nat) (p : Addr) (h' : Heap) : Prop := ∃ a b c t u v n, h'.get? p = some (penObj a b c t u v n) ∧ PenOk k a b c
theorem upd_split {p : Addr} {o o' : Obj} {news : List (Addr × Obj)} : (p, o) ∈ news → (∀ q ∈ news, q.1 = p → q = (p, o)) → True := fun _ _ => trivial
theorem Moves.use {w : World} {d : Nat} {f p : Addr} {args : List Value} {o : Obj} {P : Heap → Prop} {Out : Heap → Value → Heap → Prop} {mean : ExcName → Option Value} {mg mb : Str → Option Value} {dp un : Nat} {gd : Option (List Code)} {cn : Str} {cs : Scope} {a : Addr} {ccd : Value} {cl : List (Str × Addr)} {outer : List Env} {A₀ : Around} {base h₀ : Heap} {L : Addr} {m : Str → Option Value} {news : List (Addr × Obj)} {s : Shared} {Q E : Value → Shared → Prop} {upd : Obj → List (Addr × Obj)}
    (C : Moves w d f p args o P Out) (B : Below A₀ base outer h₀) (F : Fr h₀ L s.heap m) (X : (hd.heap_39 w.params).In h₀) (N : News h₀ L s.heap news) (U : ∀ o', Upd p o o' news (upd o')) (T : Top hd.view_39 (looseW hd.view_39 []) mean mg mb h₀) (hk : cs.kind = .function) (hd : dp + d < recursionLimit) (hu : un + 10 * d < cLine) (hP : P s.heap)
    (ret : ∀ r h' tk', Fr h₀ L h' m → (∀ o', h'.get? p = some o' → News h₀ L h' (upd o')) → (∀ b o, b ≠ p → s.heap.get? b = some o → h'.get? b = some o) → Out s.heap r h' → Q r { s with heap := h', toks := tk' }) :
    wpAny (model PySem.Challenge.rw_pq0793_01.row.prog w) (ktrTop dp un gd cn cs L a ccd cl outer) (call (.ref f) args) Q E s := by
  obtain ⟨pre, post, e1, e2, ha, hb⟩ := (U o).split
  have hpo := N (p, o) (by rw [e1]; exact List.mem_append.mpr (.inr (.head _)))
  refine C _ _ _ _ _ _ _ _ _ _ _ _ _ _ _ _ _ _ _ _ B F X T hk hd hu (fun q hq => by rw [List.mem_singleton.mp hq]; exact hpo) hP fun r h' tk' st ho => ?_
  obtain ⟨oL, es, ep, hL, hLd, hLk, hLf⟩ := F.ns
  refine ret r h' tk' ⟨⟨oL, es, ep, st _ _ (Ne.symm hpo.2.1) hL, hLd, hLk, hLf⟩, fun b o e => st _ _ (fun q => by rw [q, hpo.2.2] at e; cases e) (F.keep b o e), F.above⟩ ?_ st ho
  intro o' ho'
  obtain ⟨pre, post, e1, e2, ha, hb⟩ := (U o').split
  rw [e2]
  intro q hq
  rcases List.mem_append.mp hq with hq | hq
  · have z := N q (by rw [e1]; exact List.mem_append.mpr (.inl hq))
    exact ⟨st _ _ (ha q hq) z.1, z.2⟩
  · rcases List.mem_cons.mp hq with rfl | hq
    · exact ⟨ho', hpo.2⟩
    · have z := N q (by rw [e1]; exact List.mem_append.mpr (.inr (.tail _ hq)))
      exact ⟨st _ _ (hb q hq) z.1, z.2⟩
theorem lines_TakeA_1 : True := by
  w_top off
  k_with_none
  k_with "binaryOp Mult int int" => (k_here; k_dflt ((refine' mul_int ?_ ?qq65hm); (case qq65hm => exact IntMulOk.of_right (intBits_le_64 (by simp; omega) (by simp; omega))); k_whole))
  trivial
set_option maxRecDepth 100000 in
set_option maxHeartbeats 8000000 in
theorem law_take_c (w : World) (p : Addr) (k : Nat) (hk60 : k ≤ 100) (a0 b0 c0 : Int) (t0 u0 v0 : Tok) (n0 : Nat) (hp : PenOk k a0 b0 c0) (many : Int) (tm : Tok) (hm0 : 0 < many) (hm1 : many < 1000) :
    Moves w 6 202 p [.ref p, .int many tm] (penObj a0 b0 c0 t0 u0 v0 n0) (fun _ => True) (fun _ r h' => (∃ x t, r = .int x t ∧ 0 ≤ x ∧ x < many) ∧ PenAfter (k + 1) p h') := by
  unfold Moves
  k_fill
  intro mean mg mb dp un gd cn cs a ccd cl outer A₀ base h₀ L m s Q E B F X T hk hd hu hNP hP hret
  refine wpAny_call ?_
  k_dflt (refine' enterG (binds := [(Str.ofString "pen", Value.ref p), (Str.ofString "many", Value.int many tm)]) ?k1 ?k2 ?k3 hNP ?k5 ?kA ?kF ?kK ?k6 ?k7 ?k8 ?k9 ?kB ?_ ?c2 ?c3 ?c4 ?c5; (case kA => exact rfl); (case kF => exact rfl); (case kK => assumption); (case k1 => k_asm); (case k2 => k_asm); (case k3 => k_asm); (case k5 => k_asm); (case k6 => k_is); (case k7 => k_is); (case k8 => ktr_room); (case k9 => exact BindsTo.of_eq rfl); (case c5 => decide); (case kB => exact locs rfl); (case c2 => exact rfl); (case c3 => exact rfl); (case c4 => exact rfl); k_whole; intro g' L' h' hG hG2 FG' F' N' B' X' T'; (try dsimp only); (try k_lift B'); (try k_fold))
  obtain ⟨ha0, ha1, hb0, hb1, hc0, hc1⟩ := hp
  k_steps
  all_goals (
    rename (News g' _ _ _) => N9
    rename (Fr g' _ _ _) => F9
    have hN := (N9 _ (.head _)).1)
  · have q0 : 0 ≤ a0.fdiv many := by rw [Int.fdiv_eq_ediv_of_nonneg _ (Int.le_of_lt hm0)]; exact Int.ediv_nonneg ha0 (Int.le_of_lt hm0)
    have q1 : a0.fdiv many ≤ a0 := by rw [Int.fdiv_eq_ediv_of_nonneg _ (Int.le_of_lt hm0)]; exact Int.ediv_le_self _ ha0
    exact hret _ _ _ (fun b o hb e => F9.keep b o (hG b o e (by simpa using hb))) ⟨⟨_, _, rfl, Int.fmod_nonneg_of_pos _ hm0, Int.fmod_lt_of_pos _ hm0⟩, _, _, _, _, _, _, _, hN, q0, Int.lt_of_le_of_lt q1 ha1, hb0, hb1, hc0, Int.le_trans hc1 (by omega)⟩
  · have q0 := Int.fmod_nonneg_of_pos (b0 * 48271 + (c0 + 1) * (c0 + 1)) (show (0 : Int) < 2147483647 by decide)
    have q1 := Int.fmod_lt_of_pos (b0 * 48271 + (c0 + 1) * (c0 + 1)) (show (0 : Int) < 2147483647 by decide)
    exact hret _ _ _ (fun b o hb e => F9.keep b o (hG b o e (by simpa using hb))) ⟨⟨_, _, rfl, Int.fmod_nonneg_of_pos _ hm0, Int.fmod_lt_of_pos _ hm0⟩, _, _, _, _, _, _, _, hN, ha0, ha1, q0, q1, (show 0 ≤ c0 + 1 by omega), (show c0 + 1 ≤ ((k + 1 : Nat) : Int) by omega)⟩
end Mine
end
section
-- part NameA
open PySem PySem.W PySem.Calls PyProof.Rows PyProof.V PySem.Spec
namespace Mine
section
variable {prog : Program} {w : World} {A : Around} {E : Value → Shared → Prop} {s : Shared}
theorem strs_get {vs : List Value} {L : List Str} (h : StrsAre vs L) : ∀ {i : Nat}, i < L.length → ∃ x t, vs[i]? = some (.str x t) ∧ x ∈ L := by
  induction h with
  | nil => intro i hi; cases hi
  | cons y t _ ih =>
    intro i hi
    cases i with
    | zero => exact ⟨y, t, rfl, .head _⟩
    | succ j =>
      obtain ⟨x, t', e, hx⟩ := ih (i := j) (by simpa using hi)
      exact ⟨x, t', by simpa using e, .tail _ hx⟩
theorem item_strs {value slice : PySem.Expr} {l : Addr} {vs : List Value} {L : List Str} {k : Int} {u : Tok} {Q : Value → Shared → Prop} (hl : s.heap.IsList l vs.toArray) (hS : StrsAre vs L) (h0 : 0 ≤ k) (h1 : k < (L.length : Int)) (h2 : L.length ≤ 1000) (h : ∀ x t, x ∈ L → Q (.str x t) s)
    (hs : subscripted slice false (.ref l) (.int k u) = operate [.ref l, .int k u] (getItem (.ref l) (.int k u)) := by with_unfolding_all rfl) :
    wpAny (model prog w) A (subscriptTail value slice (.ref l) (.int k u)) Q E s := by
  obtain ⟨x, t, e, hx⟩ := strs_get hS (i := k.toNat) (by omega)
  exact tail_any hl.typeIs slot_list_getitem.lookup (wpAny_getItem_list hl h0 (by omega) (by simpa using e) (h x t hx)) hs
theorem item_found {value slice : PySem.Expr} {X Y z : Str} {t u : Tok} {i : Int} {Q : Value → Shared → Prop} (hX : X.length = 26) (hY : Y.length = 26)
    (h : (1 ≤ (Txt.item X (Txt.find Y (Txt.item z i))).length ∧ (Txt.item X (Txt.find Y (Txt.item z i))).length ≤ 1) → Q (.str (Txt.item X (Txt.find Y (Txt.item z i))) s.toks) { s with toks := s.toks + 1 })
    (hs : subscripted slice false (.str X t) (.int (Txt.find Y (Txt.item z i)) u) = operate [.str X t, .int (Txt.find Y (Txt.item z i)) u] (getItem (.str X t) (.int (Txt.find Y (Txt.item z i)) u)) := by with_unfolding_all rfl)
    (ht : ∀ r, letTemporaryGo value (.str X t) r = pure () := by intro _; with_unfolding_all rfl) :
    wpAny (model prog w) A (subscriptTail value slice (.str X t) (.int (Txt.find Y (Txt.item z i)) u)) Q E s := by
  have hf := fact_find Y (Txt.item z i)
  have h1 := len_item z i
  have hb : -26 ≤ Txt.find Y (Txt.item z i) ∧ Txt.find Y (Txt.item z i) < 26 := by omega
  refine item_str ?_ (by omega) (by omega) h hs ht
  unfold fitsSsize
  simp only [Bool.not_eq_true', Bool.or_eq_false_iff, decide_eq_false_iff_not]
  omega
theorem slice_rev {value slice : PySem.Expr} {x : Str} {t : Tok} {h₀ : Heap} {L : Addr} {m : Str → Option Value} {news : List (Addr × Obj)} {Q : Value → Shared → Prop} {k : Int} {uk : Tok} (hF : Fr h₀ L s.heap m) (hN : News h₀ L s.heap news) (hk : (k == 0) = false)
    (h : ∀ h' t' c y, Fr h₀ L h' m → News h₀ L h' news → Str.length y ≤ x.length → Q (.str y t') { s with heap := h', toks := c }) (hsz : x.length ≤ sizeLine)
    (hs : subscripted slice false (.str x t) (.ref s.heap.objs.size) = operate [.ref s.heap.objs.size, .str x t] (getItem (.str x t) (.ref s.heap.objs.size)) := by with_unfolding_all rfl)
    (ht : ∀ r, letTemporaryGo value (.str x t) r = pure () := by intro _; with_unfolding_all rfl) :
    wpAny (model prog w) A (subscriptTail value slice (.str x t) (.ref s.heap.objs.size)) Q E { s with heap := s.heap.push { cls := .type "slice", data := .fields #[.none, .none, .int k uk] } } :=
  slice_strK_nn hF hN hk (fun h' t' c F' N' => h h' t' c _ F' N' (Txt.sliceBy_le x none none (k, uk) (by simpa using hk))) hs ht hsz
end
theorem PenOk.mono {k k' : Nat} {a b c : Int} (h : PenOk k a b c) (hk : k ≤ k') : PenOk k' a b c := ⟨h.a0, h.a1, h.b0, h.b1, h.c0, Int.le_trans h.c1 (Int.ofNat_le.mpr hk)⟩
theorem penAfter_of {k k' : Nat} {p : Addr} {h' : Heap} {a b c : Int} {t u v : Tok} {n : Nat} (h : PenOk k a b c) (hk : k ≤ k') (hN : h'.get? p = some (penObj a b c t u v n)) : PenAfter k' p h' := ⟨a, b, c, t, u, v, n, hN, h.mono hk⟩
theorem ln_app {a b : Str} {m n : Nat} (h1 : a.length ≤ m) (h2 : b.length ≤ n) : (a ++ b).length ≤ m + n := by rw [Str.length_append]; omega
theorem ln_sl {x : Str} {l u : Option Int} (h : x.length ≤ 16) : (Txt.slice x l u).length ≤ 16 := Nat.le_trans (Txt.slice_le _ _ _) h
theorem ln_it (x : Str) (i : Int) : (Txt.item x i).length ≤ 16 := by rw [len_item]; decide
theorem lnA {x : Str} (h : x.length ≤ 16) : x.length ≤ 100 := Nat.le_trans h (by decide)
theorem lnB {x : Str} {l u : Option Int} (h : x.length ≤ 16) : (Txt.slice x l u).length ≤ 100 := Nat.le_trans (ln_sl h) (by decide)
theorem lnC {x y : Str} {i : Int} (h : x.length ≤ 16) : (x ++ Txt.item y i).length ≤ 100 := Nat.le_trans (ln_app h (ln_it _ _)) (by decide)
theorem lnD {x : Str} {l u l' u' : Option Int} (h : x.length ≤ 16) : (Txt.slice x l u ++ Txt.slice x l' u').length ≤ 100 := Nat.le_trans (ln_app (ln_sl h) (ln_sl h)) (by decide)
theorem lnE {x y : Str} {i : Int} {l u l' u' : Option Int} (h : x.length ≤ 16) : (Txt.slice x l u ++ Txt.item y i ++ Txt.slice x l' u').length ≤ 100 := Nat.le_trans (ln_app (ln_app (ln_sl h) (ln_it _ _)) (ln_sl h)) (by decide)
theorem lnF {x y : Str} {l u l' u' l9 u9 : Option Int} (h : x.length ≤ 16) (hy : y.length ≤ (Txt.slice x l9 u9).length) : (Txt.slice x l u ++ y ++ Txt.slice x l' u').length ≤ 100 := Nat.le_trans (ln_app (ln_app (ln_sl h) (Nat.le_trans hy (ln_sl h))) (ln_sl h)) (by decide)
theorem ln_rev {x y : Str} {l u : Option Int} (h : x.length ≤ 16) (hy : y.length ≤ (Txt.slice x l u).length) : y.length ≤ 16 := Nat.le_trans hy (ln_sl h)
theorem lines_NameA_1 : True := by
  w_top off
  k_with_none
  k_with "call ref" => (k_here; (with_reducible show wpAny _ _ (call (Value.ref 202) _) _ _ _); (rename PenOk _ _ _ _ => hpk'); k_dflt ((refine' Moves.use (law_take_c _ _ _ ?qq66k60 _ _ _ _ _ _ _ hpk' _ _ ?qq66m0 ?qq66m1) ?qq66B ?qq66F ?qq66X ?qq66N ?qq66U ?qq66T ?qq66k ?qq66d ?qq66u True.intro ?_); (case qq66B => k_asm); (case qq66F => k_asm); (case qq66X => k_asm); (case qq66N => k_asm); (case qq66U => (intro o'; k_upd)); (case qq66T => k_asm); (case qq66k => first | rfl | assumption); (case qq66d => ktr_room); (case qq66u => ktr_units); (case qq66k60 => omega); (case qq66m0 => omega); (case qq66m1 => omega); intro r9 h9 tk9 F9 N9 st9 hO9; obtain ⟨⟨x9, t9, hr9, hx0, hx1⟩, a9, b9, c9, u9, v9, w9, n9, hg9, hpk9⟩ := hO9; subst hr9; replace N9 := N9 _ hg9; clear st9 hg9 hpk'; (try dsimp only); (try k_fold)))
  k_with "subscriptTail" => (k_here; (with_reducible show wpAny _ _ (subscriptTail _ _ (Value.ref _) (Value.int _ _)) _ _ _); (rename Heap.IsList _ _ _ => hnl'); (rename StrsAre _ _ => hns'); (rename (∀ x ∈ _, 1 ≤ Str.length x ∧ Str.length x ≤ 16) => hnL'); k_dflt (refine' item_strs (hnl'.at ?qq67kk) hns' ?qq67h0 ?qq67h1 ?qq67h2 ?_; (case qq67kk => exact Fr.keep (by k_asm) _); (case qq67h0 => omega); (case qq67h1 => omega); (case qq67h2 => omega); k_whole; intro x9 t9 hx9; obtain ⟨hxa9, hxb9⟩ := hnL' x9 hx9))
  k_with "subscriptTail" => (k_here; (with_reducible show wpAny _ _ (subscriptTail _ _ (Value.str _ _) (Value.int (Txt.find _ (Txt.item _ _)) _)) _ _ _); k_dflt (refine' item_found ?qq68a ?qq68b ?_; (case qq68a => decide +kernel); (case qq68b => decide +kernel); k_whole; intro hg9))
  k_with "subscriptTail Subscript" => ((with_reducible show wpAny _ _ (subscriptTail _ (Expr.Slice none none (some _) _) _ _) _ _ _); (with_reducible rename Fr _ _ _ _ => F'); (with_reducible rename News _ _ _ _ => N'); (refine slice_rev (s := ⟨_, _, _, _, _⟩) F' N' rfl ?_ ?qq69hsz); (case qq69hsz => size_fits); intro h' t' c' y' F' N' hy')
  trivial
set_option maxRecDepth 100000 in
set_option maxHeartbeats 8000000 in
theorem law_name_c (w : World) (p : Addr) (k : Nat) (hk60 : k ≤ 90) (a0 b0 c0 : Int) (t0 u0 v0 : Tok) (n0 : Nat) (hp : PenOk k a0 b0 c0) (nl : Addr) (vs : List Value) (NL : List Str) (hns : StrsAre vs NL) (hn0 : 0 < NL.length) (hn1 : NL.length < 1000) (hNL : ∀ x ∈ NL, 1 ≤ Str.length x ∧ Str.length x ≤ 16) :
    Moves w 10 223 p [.ref p, .ref nl] (penObj a0 b0 c0 t0 u0 v0 n0) (fun h => h.IsList nl vs.toArray ∧ nl ≠ p) (fun _ r h' => (∃ x t, r = .str x t ∧ Str.length x ≤ 100) ∧ PenAfter (k + 4) p h') := by
  unfold Moves
  k_fill
  intro mean mg mb dp un gd cn cs a ccd cl outer A₀ base h₀ L m s Q E B F X T hk hd hu hNP hP hret
  refine wpAny_call ?_
  k_dflt (refine' enterG (binds := [(Str.ofString "pen", Value.ref p), (Str.ofString "names", Value.ref nl)]) ?k1 ?k2 ?k3 hNP ?k5 ?kA ?kF ?kK ?k6 ?k7 ?k8 ?k9 ?kB ?_ ?c2 ?c3 ?c4 ?c5; (case kA => exact rfl); (case kF => exact rfl); (case kK => assumption); (case k1 => k_asm); (case k2 => k_asm); (case k3 => k_asm); (case k5 => k_asm); (case k6 => k_is); (case k7 => k_is); (case k8 => ktr_room); (case k9 => exact BindsTo.of_eq rfl); (case c5 => decide); (case kB => exact locs rfl); (case c2 => exact rfl); (case c3 => exact rfl); (case c4 => exact rfl); k_whole; intro g' L' h' hG hG2 FG' F' N' B' X' T'; (try dsimp only); (try k_lift B'); (try k_fold))
  have hnl : g'.IsList nl vs.toArray := by
    obtain ⟨o, ho, r⟩ := hP.1
    exact ⟨o, hG _ _ ho (by simpa using hP.2), r⟩
  have hvl := StrsAre.length hns
  k_steps
  all_goals (
    rename (News g' _ _ _) => N9
    rename (Fr g' _ _ _) => F9
    rename (PenOk _ _ _ _) => hpk9
    refine hret _ _ _ (fun b o hb e => F9.keep b o (hG b o e (by simpa using hb))) ⟨⟨_, _, rfl, ?_⟩, ?_⟩
    rotate_left
    first
      | exact penAfter_of hpk9 (by omega) (N9 _ (.head _)).1
      | exact penAfter_of hpk9 (by omega) (N9 _ (.tail _ (.head _))).1
      | exact penAfter_of hpk9 (by omega) (N9 _ (.tail _ (.tail _ (.head _)))).1
    rename (Str.length _ ≤ 16) => hx16
    first
      | with_reducible exact lnE hx16
      | with_reducible exact lnF hx16 (by assumption)
      | with_reducible exact lnD hx16
      | with_reducible exact lnC hx16
      | with_reducible exact lnB hx16
      | with_reducible exact lnA hx16)
end Mine
end
section
-- part ZipA
open PySem PySem.W PySem.Calls PyProof.Rows PyProof.V PySem.Spec
set_option maxRecDepth 100000
namespace Mine
section
variable {prog : Program} {w : World} {A : Around} {E : Value → Shared → Prop} {s : Shared}
theorem getAttrBy_miss_list {a : Addr} {xs : Array Value} {k : Nat} {sl : Array (Option Value)} {name : Str} {u : Tok} {Q : Value → Shared → Prop}
    (hx : s.heap.get? a = some { cls := .type "list", dict := none, data := .seq xs k, slots := sl }) (hmiss : typeLookup (.type "list") name = pure none) (hname : (["__module__", "__name__", "__qualname__", "__doc__", "__annotations__"] : List Str).contains name = false) (hA : A.handled = none)
    (h : ∀ h' tk e, Heap.NewExcOf s.heap h' e "AttributeError" → E (.ref e) { s with heap := h', toks := tk }) (hsz : name.length + 100 ≤ sizeLine := by size_fits) :
    wpAny (model prog w) A (getAttrBy (.ref a) (.str name u) false) Q E s := by
  obtain ⟨hp, g, d, tk, os⟩ := s
  have hT : ∀ tk', (⟨hp, g, d, tk', os⟩ : Shared).TypeIs (.ref a) "list" := fun _ => ⟨_, hx, rfl⟩
  have f1 := sub_AttributeError
  have f3 := F.slot_list_getattribute.lookup
  have f4 := F.slot_list_getattribute.bind (.ref a)
  have f5 := am_list_getattr_none
  unfold getAttrBy
  repeat (any_goals (first | assumption | exact hT _ | ((with_reducible show wpAny _ _ (call (Value.builtin "list.__getattribute__") _ _) _ _ _); refine call_meets F.slot_list_getattribute (hT _) am_entry_list_getattribute (F.args_list_getattribute_2 _ _) (meets_getattribute_miss_list a xs k sl name _ hmiss hname hsz) ⟨hx, hA, fun h' tk' e hx' => ?_⟩) | wp_step))
  obtain ⟨t', u', he⟩ := hx'.there
  show wpAny _ _ (getattributeRaised _ _ _ _ _ _ _) _ _ _
  unfold getattributeRaised
  repeat (any_goals (first | assumption | wp_step))
  exact h _ _ _ hx'.of
theorem getAttr?_miss_list {a : Addr} {xs : Array Value} {k : Nat} {sl : Array (Option Value)} {name : Str} {Q : Option Value → Shared → Prop}
    (hx : s.heap.get? a = some { cls := .type "list", dict := none, data := .seq xs k, slots := sl }) (hmiss : typeLookup (.type "list") name = pure none) (hname : (["__module__", "__name__", "__qualname__", "__doc__", "__annotations__"] : List Str).contains name = false) (hA : A.handled = none)
    (h : ∀ h' tk, (∀ b o, s.heap.get? b = some o → h'.get? b = some o) → Q none { s with heap := h', toks := tk }) (hsz : name.length + 100 ≤ sizeLine := by size_fits) :
    wpAny (model prog w) A (getAttr? (.ref a) name) Q E s := by
  obtain ⟨hp, g, d, tk, os⟩ := s
  have f1 := sub_AttributeError
  unfold getAttr? mkText
  refine wpAny_bind (wpAny_bind (wpAny_fresh (wpAny_pure ?_)))
  unfold getAttrBy?
  refine wpAny_bind (wpAny_attempt (getAttrBy_miss_list hx hmiss hname hA (fun h' tk' e hx' => ?_) hsz))
  obtain ⟨o, ho, hc⟩ : ∃ o, h'.get? e = some o ∧ o.cls = .type "AttributeError" := by obtain ⟨_, _, q1, q2, _⟩ := hx'.there; exact ⟨_, q1, q2⟩
  refine wpAny_bind (wpAny_isInstance (T := "AttributeError") (b := true) ⟨o, ho, hc⟩ f1 ?_)
  exact wpAny_pure (h h' tk' hx'.keeps)
noncomputable def pairObj (a : Str) (t : Tok) (b : Str) (u : Tok) : Obj := { cls := .type "tuple", data := .seq #[.str a t, .str b u] }
noncomputable def TupsAt (h : Heap) : List Value → List (Str × Str) → Prop
  | [], [] => True
  | v :: r, p :: l => (∃ a t u, v = .ref a ∧ h.get? a = some (pairObj p.1 t p.2 u)) ∧ TupsAt h r l
  | _, _ => False
theorem TupsAt.keep {h h' : Heap} : ∀ {vs : List Value} {l : List (Str × Str)}, TupsAt h vs l → (∀ b o, h.get? b = some o → o.cls = .type "tuple" → h'.get? b = some o) → TupsAt h' vs l
  | [], [], _, _ => trivial
  | _ :: _, _ :: _, ⟨⟨a, t, u, e, g⟩, r⟩, k => ⟨⟨a, t, u, e, k _ _ g rfl⟩, TupsAt.keep r k⟩
theorem TupsAt.get {h : Heap} : ∀ {vs : List Value} {l : List (Str × Str)}, TupsAt h vs l → ∀ {i : Nat} {v : Value}, vs[i]? = some v → ∃ p a t u, l[i]? = some p ∧ v = .ref a ∧ h.get? a = some (pairObj p.1 t p.2 u)
  | [], [], _, i, v, e => by cases e
  | _ :: _, p :: _, ⟨⟨a, t, u, e, g⟩, r⟩, 0, v, e' => by cases e'; exact ⟨p, a, t, u, rfl, e, g⟩
  | _ :: _, _ :: _, ⟨_, r⟩, i + 1, v, e' => by
    obtain ⟨p, a, t, u, h1, h2, h3⟩ := TupsAt.get r (i := i) (v := v) (by simpa using e')
    exact ⟨p, a, t, u, by simpa using h1, h2, h3⟩
theorem TupsAt.length {h : Heap} : ∀ {vs : List Value} {l : List (Str × Str)}, TupsAt h vs l → vs.length = l.length
  | [], [], _ => rfl
  | _ :: _, _ :: _, ⟨_, r⟩ => by rw [List.length_cons, List.length_cons, TupsAt.length r]
theorem dict_move {K : Type} [DecidableEq K] {prog : Program} {w : World} {knd : KeyKind prog w K} {h h' : Heap} {d : Addr} {kvs : List (K × Value)} (hD : h.DictOf knd d kvs) (k : ∀ o, h.get? d = some o → h'.get? d = some o) : h'.DictOf knd d kvs := by
  obtain ⟨o, ho, hd⟩ := Heap.dictOf_iff.mp hD
  exact Heap.dictOf_iff.mpr ⟨o, k o ho, hd⟩
theorem entry_update_loop : entryFor table "dict.update.loop" = some Builtin.«dict.update.loop» := entryFor_of_tree (by kernel_rfl)
theorem plain_update_loop : plainId "dict.update.loop" = true := by decide +kernel
theorem dict_loop {d I src : Addr} {vs : List Value} {tbl : List (Str × Str)} {h₁ : Heap} {R : Result → Shared → Prop} (hh : A.handled = none) (hsI : src ≠ I) (hdI : d ≠ I) (hds : d ≠ src) (hvl : vs.length = tbl.length) (hsz : tbl.length ≤ 1000)
    (hR : ∀ h' tk kvs, (∀ b o, b ≠ d → b ≠ I → h₁.get? b = some o → h'.get? b = some o) → h'.DictOf (strKind prog w) d kvs → FlatPairs PyData.str kvs (putAll tbl) → R (.ok (.ret .none)) { s with heap := h', toks := tk }) :
    ∀ (k i : Nat) (h : Heap) (tk : Nat) (kvs : List (Str × Value)), tbl.length - i = k → i ≤ tbl.length → h.IsListIter I src i → h.IsList src vs.toArray → TupsAt h vs tbl → h.DictOf (strKind prog w) d kvs → FlatPairs PyData.str kvs (putAll (tbl.take i)) →
      (∀ b o, b ≠ d → b ≠ I → h₁.get? b = some o → h.get? b = some o) →
      codeAny (model prog w) A (.builtin "dict.update.loop" ⟨[.ref d, .ref I, rawInt i, .none], []⟩) R { s with heap := h, toks := tk } := by
  have W := Walks.list (prog := prog) (w := w) (A := A.in1) hh I src hsI vs.toArray
  intro k
  induction k with
  | zero =>
    intro i h tk kvs hk hi hit hl hT hD hF hkeep
    have hin : i = tbl.length := by omega
    refine codeAny_builtin entry_update_loop ?_
    rw [Around.under_plainId plain_update_loop _]
    show wpAny _ A.in1 (pyNext (.ref I) >>= _) _ _ _
    refine wpAny_bind (W.done _ _ _ ?_ fun h' tk' hk' => ?_)
    · rw [List.size_toArray, hvl, ← hin]; exact ⟨hit, hl⟩
    · exact wpAny_bind (wpAny_pure (wpAny_pure (hR h' tk' kvs (fun b o h1 h2 e => hk' b o (by simpa using h2) (hkeep b o h1 h2 e)) (dict_move hD (fun o e => hk' d o (by simpa using hdI) e)) (by rwa [hin, List.take_length] at hF))))
  | succ k ih =>
    intro i h tk kvs hk hi hit hl hT hD hF hkeep
    have hlt : i < tbl.length := by omega
    refine codeAny_builtin entry_update_loop ?_
    rw [Around.under_plainId plain_update_loop _]
    show wpAny _ A.in1 (pyNext (.ref I) >>= _) _ _ _
    refine wpAny_bind (W.item i _ _ _ ?_ ⟨hit, hl⟩ fun v h' tk' hv hst' hk' => ?_)
    · rw [List.size_toArray, hvl]; exact hlt
    · obtain ⟨p, a, t, u, hp, rfl, hg⟩ := hT.get (i := i) (v := v) (by simpa using hv)
      have hax : ∀ b o, h.get? b = some o → o.cls = .type "tuple" → b ≠ I ∧ b ≠ d := by
        intro b o e hc
        constructor
        · rintro rfl
          obtain ⟨o', e', hc', _⟩ := hit
          rw [e] at e'; cases e'; rw [hc] at hc'; exact absurd hc' (by decide)
        · rintro rfl
          obtain ⟨o', e', hc'⟩ := Heap.DictOf.typeIs (s := { s with heap := h }) hD
          rw [show ({ s with heap := h } : Shared).heap.get? b = h.get? b from rfl, e] at e'; cases e'; rw [hc] at hc'; exact absurd hc' (by decide)
      have hg' : h'.get? a = some (pairObj p.1 t p.2 u) := hk' a _ (by simpa using (hax a _ hg rfl).1) hg
      have hD' := dict_move hD (fun o e => hk' d o (by simpa using hdI) e)
      have hkl : kvs.length ≤ sizeLine := by
        have h1 := hF.length
        have h2 := putAll_length (tbl.take i)
        rw [List.length_take] at h2
        rw [sizeLine_eq]
        omega
      refine wpAny_bind (wpAny_holding (wpAny_bind (wpAny_tryCatch ?_)))
      unfold Builtin.Dict.pairItems
      refine wpAny_bind (wpAny_typeOf (T := "tuple") ⟨_, hg', rfl⟩ ?_)
      rw [if_pos (by decide)]
      refine wpAny_bind (wpAny_seqItems hg' rfl (wpAny_pure ?_))
      refine wpAny_holding (wpAny_dictSet_pairs (knd := strKind prog w) (strKind_is _ _ _ _) hD' (fun h'' hd'' hs'' => ?_) hkl)
      refine wpAny_pure ⟨plainId_quiet plain_update_loop _, ?_⟩
      have e1 : rawInt ((i : Int) + 1) = rawInt ((i + 1 : Nat) : Int) := by rw [Int.natCast_succ]
      rw [e1]
      refine ih (i + 1) h'' _ _ (by omega) hlt (hst'.1.extBut hs''.extBut (Ne.symm hdI)) (hst'.2.extBut hs''.extBut (Ne.symm hds)) ?_ hd'' ?_ ?_
      · exact hT.keep fun b o e hc => hs''.extBut _ _ (hax b o e hc).2 (hk' b o (by simpa using (hax b o e hc).1) e)
      · rw [List.take_add_one, hp]
        simp only [Option.toList_some, putAll_snoc]
        exact PyProof.V.FlatPairs.stored PyProof.V.same_str hF p.1 (Flat.str _ _)
      · exact fun b o h1 h2 e => hs''.extBut _ _ h1 (hk' b o (by simpa using h2) (hkeep b o h1 h2 e))
theorem call_dict_pairs {src : Addr} {vs : List Value} {n : Nat} {tbl : List (Str × Str)} {Q : Value → Shared → Prop} (hh : A.handled = none) (hl : s.heap.get? src = some (listOf vs.toArray n)) (hT : TupsAt s.heap vs tbl) (hsz : tbl.length ≤ 1000)
    (h : ∀ h' tk kvs, (∀ b o, s.heap.get? b = some o → h'.get? b = some o) → h'.DictOf (strKind prog w) s.heap.objs.size kvs → FlatPairs PyData.str kvs (putAll tbl) → Q (.ref s.heap.objs.size) { s with heap := h', toks := tk }) :
    wpAny (model prog w) A (call (.type "dict") [.ref src]) Q E s := by
  refine callType_codes (Q₁ := fun obj s₁ => obj = .ref s.heap.objs.size ∧ s₁ = { s with heap := s.heap.push { cls := .type "dict", data := .dict #[] } }) F.kt_called_dict (F.kt_typeCall_dict_1 _) F.entry_dict_init (kt_code_dict_new _ ⟨rfl, rfl⟩) ?_
  rintro obj s₁ ⟨rfl, rfl⟩
  have hnew : (s.heap.push { cls := .type "dict", data := .dict #[] }).DictOf (strKind prog w) s.heap.objs.size [] := Heap.DictOf.new s.heap
  have hl1 : (s.heap.push { cls := .type "dict", data := .dict #[] }).get? src = some (listOf vs.toArray n) := Heap.get?_push_of_some _ hl
  have hlt : src < s.heap.objs.size := Heap.lt_size hl
  refine ⟨hnew.typeIs, F.args_dict_init_2 _ _, ?_⟩
  unfold Builtin.«dict.__init__»
  refine wpAny_bind ?_
  unfold Builtin.Dict.selfAndRest
  refine wpAny_bind (wpAny_notOrdered_dict hnew.typeIs ?_)
  show wpAny _ _ (pure (s.heap.objs.size, [Value.ref src])) _ _ _
  refine wpAny_pure ?_
  show wpAny _ _ (Builtin.Dict.updateFrom "dict.__init__" s.heap.objs.size (.ref src) [] .none) _ _ _
  unfold Builtin.Dict.updateFrom
  refine wpAny_bind (wpAny_typeOf (T := "list") ⟨_, hl1, rfl⟩ ?_)
  rw [if_pos (by decide)]
  refine wpAny_bind (getAttr?_miss_list hl1 (am_miss_of_fast (by decide +kernel)) (by decide +kernel) hh (fun h' tk' hk' => ?_) (by decide +kernel))
  have hl2 : h'.get? src = some (listOf vs.toArray n) := hk' _ _ hl1
  have hnew2 := dict_move hnew (fun o e => hk' _ o e)
  have hls : h'.IsList src vs.toArray := ⟨_, hl2, rfl, n, rfl⟩
  have hlt2 : src < h'.objs.size := Heap.lt_size hl2
  have hdlt : s.heap.objs.size < h'.objs.size := by
    obtain ⟨o, ho, _⟩ := Heap.DictOf.typeIs (s := { s with heap := h' }) hnew2
    exact Heap.lt_size ho
  have hk2 : ∀ b o, s.heap.get? b = some o → h'.get? b = some o := fun b o e => hk' b o (Heap.get?_push_of_some _ e)
  refine wpAny_ite_split (fun _ => ?_) (fun hn => absurd rfl hn)
  refine wpAny_bind (wpAny_rule ?_)
  refine wpAny_bind (wpAny_pyIter_list hls ?_)
  have up : ∀ (ob : Obj) b o, h'.get? b = some o → (h'.push ob).get? b = some o := fun ob b o e => Heap.get?_push_of_some _ e
  refine wpAny_pure ⟨plainId_quiet plain_update_loop _, ?_⟩
  refine dict_loop (s := s) (A := A.in1) (h₁ := h') (vs := vs) hh (Nat.ne_of_lt hlt2) (Nat.ne_of_lt hdlt) (Nat.ne_of_gt hlt) hT.length hsz (fun h3 tk3 kvs k3 d3 f3 => ?_) tbl.length 0 _ _ [] (Nat.sub_zero _) (Nat.zero_le _) ⟨_, Heap.get?_push_size _ rfl, rfl, rfl⟩ (hls.at fun o e => up _ _ o e) (hT.keep fun b o e _ => up _ _ o (hk2 b o e)) (dict_move hnew2 fun o e => up _ _ o e) FlatPairs.nil (fun b o _ _ e => up _ _ o e)
  exact ⟨rfl, h h3 tk3 kvs (fun b o e => k3 b o (Nat.ne_of_lt (Heap.lt_size e)) (Nat.ne_of_lt (Heap.lt_size (hk2 b o e))) (hk2 b o e)) d3 f3⟩
end
end Mine
end
section
-- part ZipB
open PySem PySem.W PySem.Calls PyProof.Rows PyProof.V PySem.Spec
set_option maxRecDepth 100000
namespace Mine
abbrev IsZipX (h : Heap) (z TI TO : Addr) (f0 f1 : Value) : Prop :=
  h.get? z = some { cls := .type "zip", dict := none, data := .fields #[f0, f1, .bool false, .ref TI, .ref TO], slots := #[] }
section
variable {prog : Program} {w : World} {A : Around} {E : Value → Shared → Prop} {s : Shared}
theorem zip_taken {z TI TO T : Addr} {f : Bool} {oT : Obj} {Q : Bool → Shared → Prop} (hz : IsZipX s.heap z TI TO (rawInt T) (.bool f)) (hT : s.heap.get? T = some oT)
    (h : ∀ h', IsZipX h' z TI TO (rawInt T) (.bool true) → Heap.SameBut z s.heap h' → Q false { s with heap := h' }) :
    wpAny (model prog w) A (Builtin.SmallTypes.ownedTupleIsFree (.ref z)) Q E s := by
  unfold Builtin.SmallTypes.ownedTupleIsFree
  refine wpAny_bind (wpAny_field hz rfl (x := rawInt T) rfl ?_)
  show wpAny _ _ (loadIfAlive (T : Int).toNat >>= _) _ _ _
  refine wpAny_bind (kdx_alive (o := oT) (by simpa using hT) ?_)
  refine wpAny_ite_split (fun hn => absurd hn (by simp)) (fun _ => ?_)
  refine wpAny_bind (wpAny_field hz rfl (x := .bool f) rfl ?_)
  cases f with
  | true =>
    refine wpAny_ite_split (fun hn => absurd hn (by decide)) (fun _ => ?_)
    exact wpAny_pure (h _ hz ⟨rfl, fun _ _ => rfl⟩)
  | false =>
    refine wpAny_ite_split (fun _ => ?_) (fun hn => absurd (by decide) hn)
    refine wpAny_bind (wpAny_setField_rec hz (by simp) fun h₁ hz₁ hs₁ => ?_)
    exact wpAny_pure (h _ hz₁ hs₁)
theorem zip_next_out {z TI TO i1 i2 l1 l2 T : Addr} {k1 k2 : Nat} {xs ys : Array Value} {x y : Value} {f : Bool} {oT : Obj} {Q : Value → Shared → Prop} (D : ZipApart z TI TO i1 i2 l1 l2)
    (hz : IsZipX s.heap z TI TO (rawInt T) (.bool f)) (hT : s.heap.get? T = some oT) (hTI : IsPair s.heap TI (.ref i1) (.ref i2))
    (h1 : s.heap.IsListIter i1 l1 k1) (h2 : s.heap.IsListIter i2 l2 k2) (hl1 : s.heap.IsList l1 xs) (hl2 : s.heap.IsList l2 ys) (hx : xs[k1]? = some x) (hy : ys[k2]? = some y)
    (hQ : ∀ h', IsZipX h' z TI TO (rawInt T) (.bool true) → h'.IsListIter i1 l1 (k1 + 1) → h'.IsListIter i2 l2 (k2 + 1) → IsPair h' s.heap.objs.size x y →
      (∀ c o, c ≠ z → c ≠ i1 → c ≠ i2 → s.heap.get? c = some o → h'.get? c = some o) → Q (.ref s.heap.objs.size) { s with heap := h' }) :
    wpAny (model prog w) A (Builtin.«zip.__next__» ⟨[.ref z], []⟩) (fun fin s' => ∃ v, fin = .done (.ret v) ∧ Q v s') E s := by
  show wpAny _ _ (field (.ref z) 2 >>= _) _ _ _
  refine wpAny_bind (wpAny_field hz rfl (x := .bool false) rfl ?_)
  show wpAny _ _ (field (.ref z) 3 >>= _) _ _ _
  refine wpAny_bind (wpAny_field hz rfl (x := .ref TI) rfl ?_)
  refine wpAny_bind (wpAny_seqItems hTI rfl ?_)
  show wpAny _ _ (Builtin.SmallTypes.ownedTupleIsFree (.ref z) >>= _) _ _ _
  refine wpAny_bind (zip_taken hz hT fun h₁ hz₁ hs₁ => ?_)
  refine wpAny_ite_split (fun hn => absurd hn (by decide)) (fun _ => ?_)
  refine wpAny_bind ?_
  rw [show (#[Value.ref i1, Value.ref i2] : Array Value) = [Value.ref i1, Value.ref i2].toArray from rfl]
  simp only [List.forIn_toArray, List.forIn_cons, List.forIn_nil]
  refine wpAny_bind (wpAny_bind (wpAny_holding ?_))
  show wpAny _ _ (Builtin.SmallTypes.nextOf (.ref i1) >>= _) _ _ _
  refine wpAny_bind (wpAny_nextOf_list_item (h1.extBut hs₁.extBut D.i1z) (hl1.extBut hs₁.extBut D.l1z) hx fun h₂ h1₂ hs₂ => wpAny_pure ?_)
  refine wpAny_pure ?_
  refine wpAny_bind (wpAny_bind (wpAny_holding ?_))
  show wpAny _ _ (Builtin.SmallTypes.nextOf (.ref i2) >>= _) _ _ _
  refine wpAny_bind (wpAny_nextOf_list_item ((h2.extBut hs₁.extBut D.i2z).extBut hs₂.extBut D.i12.symm) ((hl2.extBut hs₁.extBut D.l2z).extBut hs₂.extBut D.l2i1) hy fun h₃ h2₃ hs₃ => wpAny_pure ?_)
  refine wpAny_pure (wpAny_pure ?_)
  show wpAny _ _ (newTuple [x, y] >>= _) _ _ _
  refine wpAny_bind (wpAny_newTuple ?_)
  have hsz : h₃.objs.size = s.heap.objs.size := by rw [hs₃.1, hs₂.1, hs₁.1]
  have hz₃ : IsZipX h₃ z TI TO (rawInt T) (.bool true) := hs₃.extBut _ _ D.i2z.symm (hs₂.extBut _ _ D.i1z.symm hz₁)
  have up : ∀ c o, h₃.get? c = some o → (h₃.push { cls := .type "tuple", data := .seq #[x, y] }).get? c = some o := fun c o e => Heap.get?_push_of_some _ e
  refine wpAny_pure ⟨_, rfl, ?_⟩
  show Q (.ref h₃.objs.size) _
  have hp : IsPair (h₃.push { cls := .type "tuple", data := .seq #[x, y] }) h₃.objs.size x y := Heap.get?_push_size _ rfl
  rw [hsz] at hp ⊢
  exact hQ _ (up _ _ hz₃) ((h1₂.extBut hs₃.extBut D.i12).at fun o e => up _ o e) (h2₃.at fun o e => up _ o e) hp fun c o c1 c2 c3 e => up _ _ (hs₃.extBut _ _ c3 (hs₂.extBut _ _ c2 (hs₁.extBut _ _ c1 e)))
theorem zip_end_out {z TI TO i1 i2 l1 l2 T : Addr} {k1 k2 : Nat} {xs ys : Array Value} {f : Bool} {oT : Obj} {Q : PySem.Fin → Shared → Prop} (hh : A.handled = none) (D : ZipApart z TI TO i1 i2 l1 l2)
    (hz : IsZipX s.heap z TI TO (rawInt T) (.bool f)) (hT : s.heap.get? T = some oT) (hTI : IsPair s.heap TI (.ref i1) (.ref i2))
    (h1 : s.heap.IsListIter i1 l1 k1) (hl1 : s.heap.IsList l1 xs) (hx : xs[k1]? = none)
    (hE : ∀ h' e, (∀ c o, c ≠ z → c ≠ i1 → c ≠ i2 → s.heap.get? c = some o → h'.get? c = some o) → (∃ o, h'.get? e = some o ∧ o.cls = .type "StopIteration") → E (.ref e) { s with heap := h' }) :
    wpAny (model prog w) A (Builtin.«zip.__next__» ⟨[.ref z], []⟩) Q E s := by
  show wpAny _ _ (field (.ref z) 2 >>= _) _ _ _
  refine wpAny_bind (wpAny_field hz rfl (x := .bool false) rfl ?_)
  show wpAny _ _ (field (.ref z) 3 >>= _) _ _ _
  refine wpAny_bind (wpAny_field hz rfl (x := .ref TI) rfl ?_)
  refine wpAny_bind (wpAny_seqItems hTI rfl ?_)
  show wpAny _ _ (Builtin.SmallTypes.ownedTupleIsFree (.ref z) >>= _) _ _ _
  refine wpAny_bind (zip_taken hz hT fun h₁ hz₁ hs₁ => ?_)
  refine wpAny_ite_split (fun hn => absurd hn (by decide)) (fun _ => ?_)
  refine wpAny_bind ?_
  rw [show (#[Value.ref i1, Value.ref i2] : Array Value) = [Value.ref i1, Value.ref i2].toArray from rfl]
  simp only [List.forIn_toArray, List.forIn_cons, List.forIn_nil]
  refine wpAny_bind (wpAny_bind (wpAny_holding ?_))
  show wpAny _ _ (Builtin.SmallTypes.nextOf (.ref i1) >>= _) _ _ _
  refine wpAny_bind (wpAny_nextOf_list_end hh (h1.extBut hs₁.extBut D.i1z) (hl1.extBut hs₁.extBut D.l1z) hx fun h₂ e hs₂ he => ?_)
  exact hE h₂ e (fun c o c1 c2 _ x => hs₂ _ _ c2 (hs₁.extBut _ _ c1 x)) he
theorem pyNext_zip_out {z TI TO i1 i2 l1 l2 T : Addr} {k1 k2 : Nat} {xs ys : Array Value} {x y : Value} {f : Bool} {oT : Obj} {Q : Option Value → Shared → Prop} (D : ZipApart z TI TO i1 i2 l1 l2)
    (hz : IsZipX s.heap z TI TO (rawInt T) (.bool f)) (hT : s.heap.get? T = some oT) (hTI : IsPair s.heap TI (.ref i1) (.ref i2))
    (h1 : s.heap.IsListIter i1 l1 k1) (h2 : s.heap.IsListIter i2 l2 k2) (hl1 : s.heap.IsList l1 xs) (hl2 : s.heap.IsList l2 ys) (hx : xs[k1]? = some x) (hy : ys[k2]? = some y)
    (hQ : ∀ h', IsZipX h' z TI TO (rawInt T) (.bool true) → h'.IsListIter i1 l1 (k1 + 1) → h'.IsListIter i2 l2 (k2 + 1) → IsPair h' s.heap.objs.size x y →
      (∀ c o, c ≠ z → c ≠ i1 → c ≠ i2 → s.heap.get? c = some o → h'.get? c = some o) → Q (some (.ref s.heap.objs.size)) { s with heap := h' }) :
    wpAny (model prog w) A (pyNext (.ref z)) Q E s := by
  have hT' : s.TypeIs (.ref z) "zip" := ⟨_, hz, rfl⟩
  unfold pyNext
  exact wpAny_bind (wpAny_attempt (wpAny_callSpecial?_slot (name := Str.ofString "__next__") hT' F.slot_zip_next
    (wpAny_call_entry F.slot_zip_next hT' F.entry_zip_next
      (zip_next_out D hz hT hTI h1 h2 hl1 hl2 hx hy fun h' a1 a2 a3 a4 a5 => wpAny_pure (hQ h' a1 a2 a3 a4 a5)) (F.args_zip_next_1 _))))
theorem pyNext_zip_done {z TI TO i1 i2 l1 l2 T : Addr} {k1 k2 : Nat} {xs ys : Array Value} {f : Bool} {oT : Obj} {Q : Option Value → Shared → Prop} (hh : A.handled = none) (D : ZipApart z TI TO i1 i2 l1 l2)
    (hz : IsZipX s.heap z TI TO (rawInt T) (.bool f)) (hT : s.heap.get? T = some oT) (hTI : IsPair s.heap TI (.ref i1) (.ref i2))
    (h1 : s.heap.IsListIter i1 l1 k1) (hl1 : s.heap.IsList l1 xs) (hx : xs[k1]? = none)
    (hQ : ∀ h', (∀ c o, c ≠ z → c ≠ i1 → c ≠ i2 → s.heap.get? c = some o → h'.get? c = some o) → Q none { s with heap := h' }) :
    wpAny (model prog w) A (pyNext (.ref z)) Q E s := by
  have hT' : s.TypeIs (.ref z) "zip" := ⟨_, hz, rfl⟩
  unfold pyNext
  refine wpAny_bind (wpAny_attempt (wpAny_callSpecial?_slot (name := Str.ofString "__next__") hT' F.slot_zip_next
    (wpAny_call_entry F.slot_zip_next hT' F.entry_zip_next (zip_end_out (k2 := k2) (l2 := l2) (ys := ys) hh D hz hT hTI h1 hl1 hx fun h' e hk he => ?_) (F.args_zip_next_1 _))))
  obtain ⟨o, ho, hc⟩ := he
  refine wpAny_bind (wpAny_isInstance (T := "StopIteration") (b := true) ⟨o, ho, hc⟩ isSubtype_stop ?_)
  exact wpAny_pure (hQ _ hk)
end
end Mine
end
section
-- part ZipC
open PySem PySem.W PySem.Calls PyProof.Rows PyProof.V PySem.Spec
set_option maxRecDepth 100000
namespace Mine
theorem zip_len_none : typeLookup (.type "zip") "__len__" = pure none := am_miss_of_fast (by decide +kernel)
theorem zip_hint_none : typeLookup (.type "zip") "__length_hint__" = pure none := am_miss_of_fast (by decide +kernel)
structure ZSt (h : Heap) (z TI TO i1 i2 l1 l2 : Addr) (xs ys : Array Value) (i : Nat) : Prop where
  ti : IsPair h TI (.ref i1) (.ref i2)
  it1 : h.IsListIter i1 l1 i
  it2 : h.IsListIter i2 l2 i
  li1 : h.IsList l1 xs
  li2 : h.IsList l2 ys
  own : (i = 0 ∧ IsZip h z TI TO .none ∧ ∃ a b, IsPair h TO a b) ∨ (0 < i ∧ ∃ (T : Addr) (f : Bool) (oT : Obj), IsZipX h z TI TO (rawInt T) (.bool f) ∧ h.get? T = some oT ∧ oT.cls = .type "tuple")
theorem ZSt.keep {h h' : Heap} {z TI TO i1 i2 l1 l2 S : Addr} {xs ys : Array Value} {i : Nat} (Z : ZSt h z TI TO i1 i2 l1 l2 xs ys i) (hk : ∀ b o, b ≠ S → h.get? b = some o → h'.get? b = some o) (hS : ∀ o, h.get? S = some o → o.cls = .type "list")
    (hSl1 : l1 ≠ S) (hSl2 : l2 ≠ S) : ZSt h' z TI TO i1 i2 l1 l2 xs ys i := by
  have off : ∀ b o, h.get? b = some o → o.cls ≠ .type "list" → h'.get? b = some o := fun b o e hc => hk b o (by rintro rfl; exact hc (hS _ e)) e
  refine ⟨off _ _ Z.ti (by simp), ?_, ?_, ?_, ?_, ?_⟩
  · obtain ⟨o, e, hc, hd⟩ := Z.it1; exact ⟨o, off _ _ e (by rw [hc]; decide), hc, hd⟩
  · obtain ⟨o, e, hc, hd⟩ := Z.it2; exact ⟨o, off _ _ e (by rw [hc]; decide), hc, hd⟩
  · obtain ⟨o, e, r⟩ := Z.li1; exact ⟨o, hk _ _ hSl1 e, r⟩
  · obtain ⟨o, e, r⟩ := Z.li2; exact ⟨o, hk _ _ hSl2 e, r⟩
  · rcases Z.own with ⟨e0, hz, a, b, ho⟩ | ⟨e0, T, f, oT, hz, hT, hc⟩
    · exact .inl ⟨e0, off _ _ hz (by simp), a, b, off _ _ ho (by simp)⟩
    · exact .inr ⟨e0, T, f, oT, off _ _ hz (by simp), off _ _ hT (by rw [hc]; decide), hc⟩
section
variable {prog : Program} {w : World} {A : Around} {E : Value → Shared → Prop} {s : Shared} {z TI TO i1 i2 l1 l2 : Addr} {xs ys : Array Value} {i : Nat}
theorem zst_item {x y : Value} {Q : Option Value → Shared → Prop} (D : ZipApart z TI TO i1 i2 l1 l2) (Z : ZSt s.heap z TI TO i1 i2 l1 l2 xs ys i) (hx : xs[i]? = some x) (hy : ys[i]? = some y)
    (hQ : ∀ h', ZSt h' z TI TO i1 i2 l1 l2 xs ys (i + 1) → IsPair h' s.heap.objs.size x y → (∀ c o, c ≠ z → c ≠ TO → c ≠ i1 → c ≠ i2 → s.heap.get? c = some o → h'.get? c = some o) → Q (some (.ref s.heap.objs.size)) { s with heap := h' }) :
    wpAny (model prog w) A (pyNext (.ref z)) Q E s := by
  have hl : ∀ {l : Addr} {vs : Array Value} {h' : Heap}, s.heap.IsList l vs → (∀ o, s.heap.get? l = some o → h'.get? l = some o) → h'.IsList l vs := fun hl k => by obtain ⟨o, e, r⟩ := hl; exact ⟨o, k _ e, r⟩
  rcases Z.own with ⟨e0, hz, a, b, ho⟩ | ⟨e0, T, f, oT, hz, hT, hc⟩
  · refine wpAny_pyNext_zip_item D hz Z.ti ho Z.it1 Z.it2 Z.li1 Z.li2 hx hy fun h' a1 a2 a3 a4 a5 _ hk => ?_
    exact hQ h' ⟨hk _ _ D.TIz D.TITO D.TIi1 D.TIi2 Z.ti, a3, a4, hl Z.li1 fun o e => hk _ o D.l1z D.l1TO D.l1i1 D.l1i2 e, hl Z.li2 fun o e => hk _ o D.l2z D.l2TO D.l2i1 D.l2i2 e, .inr ⟨Nat.succ_pos _, _, false, _, a1, a5, rfl⟩⟩ a5 hk
  · refine pyNext_zip_out D hz hT Z.ti Z.it1 Z.it2 Z.li1 Z.li2 hx hy fun h' a1 a2 a3 a4 hk => ?_
    have hTz : T ≠ z := by rintro rfl; rw [hz] at hT; cases hT; simp at hc
    have hT1 : T ≠ i1 := by rintro rfl; obtain ⟨o, e, hc', _⟩ := Z.it1; rw [e] at hT; cases hT; rw [hc] at hc'; exact absurd hc' (by decide)
    have hT2 : T ≠ i2 := by rintro rfl; obtain ⟨o, e, hc', _⟩ := Z.it2; rw [e] at hT; cases hT; rw [hc] at hc'; exact absurd hc' (by decide)
    exact hQ h' ⟨hk _ _ D.TIz D.TIi1 D.TIi2 Z.ti, a2, a3, hl Z.li1 fun o e => hk _ o D.l1z D.l1i1 D.l1i2 e, hl Z.li2 fun o e => hk _ o D.l2z D.l2i1 D.l2i2 e, .inr ⟨Nat.succ_pos _, T, true, oT, a1, hk _ _ hTz hT1 hT2 hT, hc⟩⟩ a4 fun c o c1 _ c3 c4 e => hk c o c1 c3 c4 e
theorem zst_done {Q : Option Value → Shared → Prop} (hh : A.handled = none) (D : ZipApart z TI TO i1 i2 l1 l2) (Z : ZSt s.heap z TI TO i1 i2 l1 l2 xs ys i) (h0 : 0 < i) (hx : xs[i]? = none)
    (hQ : ∀ h', (∀ c o, c ≠ z → c ≠ TO → c ≠ i1 → c ≠ i2 → s.heap.get? c = some o → h'.get? c = some o) → Q none { s with heap := h' }) :
    wpAny (model prog w) A (pyNext (.ref z)) Q E s := by
  rcases Z.own with ⟨e0, _⟩ | ⟨_, T, f, oT, hz, hT, hc⟩
  · omega
  · exact pyNext_zip_done (k2 := i) (ys := ys) hh D hz hT Z.ti Z.it1 Z.li1 hx fun h' hk => hQ h' fun c o c1 _ c3 c4 e => hk c o c1 c3 c4 e
noncomputable def PairVals (xs ys : Array Value) (tbl : List (Str × Str)) : Prop := xs.size = tbl.length ∧ ys.size = tbl.length ∧ ∀ (i : Nat) (p : Str × Str), tbl[i]? = some p → ∃ t u, xs[i]? = some (Value.str p.1 t) ∧ ys[i]? = some (Value.str p.2 u)
theorem TupsAt.snoc {h : Heap} : ∀ {vs : List Value} {l : List (Str × Str)} {a : Addr} {p : Str × Str} {t u : Tok}, TupsAt h vs l → h.get? a = some (pairObj p.1 t p.2 u) → TupsAt h (vs ++ [.ref a]) (l ++ [p])
  | [], [], a, p, t, u, _, g => ⟨⟨a, t, u, rfl, g⟩, trivial⟩
  | _ :: _, _ :: _, _, _, _, _, ⟨h1, r⟩, g => ⟨h1, TupsAt.snoc r g⟩
theorem TupsAt.keep2 {h h' : Heap} : ∀ {vs : List Value} {l : List (Str × Str)}, TupsAt h vs l → (∀ a o, Value.ref a ∈ vs → h.get? a = some o → h'.get? a = some o) → TupsAt h' vs l
  | [], [], _, _ => trivial
  | _ :: _, _ :: _, ⟨⟨a, t, u, e, g⟩, r⟩, k => ⟨⟨a, t, u, e, k _ _ (e ▸ .head _) g⟩, TupsAt.keep2 r fun a o hm => k a o (.tail _ hm)⟩
theorem zip_list_loop {S : Addr} {tbl : List (Str × Str)} {h₁ : Heap} {R : Result → Shared → Prop} (hh : A.handled = none) (D : ZipApart z TI TO i1 i2 l1 l2) (hS : S ≠ z ∧ S ≠ TO ∧ S ≠ i1 ∧ S ≠ i2) (hSl : l1 ≠ S ∧ l2 ≠ S) (hn0 : 0 < tbl.length) (hn : tbl.length ≤ 1000) (hP : PairVals xs ys tbl) (res : Value)
    (hR : ∀ h' tk acc c, (∀ b o, b ≠ S → b ≠ z → b ≠ TO → b ≠ i1 → b ≠ i2 → h₁.get? b = some o → h'.get? b = some o) → h'.get? S = some { cls := .type "list", dict := none, data := .seq acc c, slots := #[] } → TupsAt h' acc.toList tbl → R (.ok (.ret res)) { s with heap := h', toks := tk }) :
    ∀ (k i : Nat) (h : Heap) (tk c : Nat) (acc : Array Value), tbl.length - i = k → i ≤ tbl.length → ZSt h z TI TO i1 i2 l1 l2 xs ys i → (∀ b o, b ≠ S → b ≠ z → b ≠ TO → b ≠ i1 → b ≠ i2 → h₁.get? b = some o → h.get? b = some o) →
      h.get? S = some { cls := .type "list", dict := none, data := .seq acc c, slots := #[] } → TupsAt h acc.toList (tbl.take i) →
      (∀ a, Value.ref a ∈ acc.toList → a ≠ S ∧ a ≠ z ∧ a ≠ TO ∧ a ≠ i1 ∧ a ≠ i2) → (z < h.objs.size ∧ TO < h.objs.size ∧ i1 < h.objs.size ∧ i2 < h.objs.size) →
      codeAny (model prog w) A (.builtin "list.extend.loop" ⟨[.ref S, .ref z, res], []⟩) R { s with heap := h, toks := tk } := by
  intro k
  induction k with
  | zero =>
    intro i h tk c acc hk hi Z hkeep hSg hT hoff hlt
    have hin : i = tbl.length := by omega
    refine codeAny_builtin PySem.F.entry_extend_loop ?_
    rw [Around.under_plainId PySem.F.plain_extend_loop _]
    show wpAny _ A.in1 (pyNext (.ref z) >>= _) _ _ _
    refine wpAny_bind (zst_done (s := { s with heap := h, toks := tk }) (A := A.in1) hh D Z (by omega) (by rw [hin, ← hP.1]; exact Array.getElem?_eq_none (Nat.le_refl _)) fun h' he => ?_)
    refine wpAny_pure (hR h' tk acc c (fun b o b1 b2 b3 b4 b5 e => he b o b2 b3 b4 b5 (hkeep b o b1 b2 b3 b4 b5 e)) (he S _ hS.1 hS.2.1 hS.2.2.1 hS.2.2.2 hSg) ?_)
    rw [hin, List.take_length] at hT
    exact hT.keep2 fun a o hm e => he a o (hoff a hm).2.1 (hoff a hm).2.2.1 (hoff a hm).2.2.2.1 (hoff a hm).2.2.2.2 e
  | succ k ih =>
    intro i h tk c acc hk hi Z hkeep hSg hT hoff hlt
    have hil : i < tbl.length := by omega
    have hp : tbl[i]? = some tbl[i] := List.getElem?_eq_getElem hil
    obtain ⟨t, u, hx, hy⟩ := hP.2.2 i _ hp
    have hsz : acc.size = i := by rw [← Array.length_toList, hT.length, List.length_take]; omega
    refine codeAny_builtin PySem.F.entry_extend_loop ?_
    rw [Around.under_plainId PySem.F.plain_extend_loop _]
    show wpAny _ A.in1 (pyNext (.ref z) >>= _) _ _ _
    refine wpAny_bind (zst_item (s := { s with heap := h, toks := tk }) D Z hx hy fun h' Z' hpr hkp => ?_)
    dsimp only at hpr hkp ⊢
    have hS' := hkp S _ hS.1 hS.2.1 hS.2.2.1 hS.2.2.2 hSg
    have hSl' : S < h.objs.size := Heap.lt_size hSg
    have up : ∀ b o, b ≠ S → h'.get? b = some o → (h'.update S (Obj.mapSeq (·.push (Value.ref h.objs.size)))).get? b = some o := fun b o hb e => (Heap.get?_update_other _ _ (Ne.symm hb)).trans e
    have hnew := up _ _ (Nat.ne_of_gt hSl') hpr
    show wpAny _ A.in1 (updateSeq S (·.push (Value.ref h.objs.size)) >>= _) _ _ _
    refine wpAny_bind ?_
    refine wpAny_updateSeq hS' rfl (wpAny_pure ⟨plainId_quiet PySem.F.plain_extend_loop _, ih (i + 1) _ tk _ (acc.push (Value.ref h.objs.size)) (by omega) hil (Z'.keep up (fun o e => by rw [hS'] at e; cases e; rfl) hSl.1 hSl.2)
      (fun b o b1 b2 b3 b4 b5 e => up b o b1 (hkp b o b2 b3 b4 b5 (hkeep b o b1 b2 b3 b4 b5 e))) (Heap.get?_update_self _ hS' rfl) ?_ ?_ ?_⟩) (by rw [hsz, sizeLine_eq]; omega) (by show (acc.push (Value.ref h.objs.size)).size ≤ sizeLine + 1; rw [Array.size_push, hsz, sizeLine_eq]; omega)
    · rw [Array.toList_push, List.take_add_one, hp, Option.toList_some]
      refine TupsAt.snoc (hT.keep2 fun a o hm e => ?_) (t := t) (u := u) hnew
      have q := hoff a hm
      exact up a o q.1 (hkp a o q.2.1 q.2.2.1 q.2.2.2.1 q.2.2.2.2 e)
    · intro a hm
      rw [Array.toList_push] at hm
      rcases List.mem_append.mp hm with hm | hm
      · exact hoff a hm
      · have : a = h.objs.size := by simpa using hm
        subst this
        exact ⟨Nat.ne_of_gt hSl', Nat.ne_of_gt hlt.1, Nat.ne_of_gt hlt.2.1, Nat.ne_of_gt hlt.2.2.1, Nat.ne_of_gt hlt.2.2.2⟩
    · have q := Heap.lt_size hnew
      exact ⟨Nat.lt_trans hlt.1 q, Nat.lt_trans hlt.2.1 q, Nat.lt_trans hlt.2.2.1 q, Nat.lt_trans hlt.2.2.2 q⟩
theorem zip_hint (hT : s.TypeIs (.ref z) "zip") {Q : Bool → Shared → Prop} (h : Q true s) : wpAny (model prog w) A (Builtin.List.listLengthHint (.ref z)) Q E s := by
  unfold Builtin.List.listLengthHint
  refine wpAny_bind (wpAny_specialOf hT zip_len_none ?_)
  refine wpAny_ite_split (fun hn => absurd hn (by decide)) (fun _ => ?_)
  refine wpAny_ite_split (fun hn => absurd hn (by decide)) (fun _ => ?_)
  refine wpAny_bind (wpAny_specialOf hT zip_hint_none ?_)
  exact wpAny_pure h
theorem zip_list_call {tbl : List (Str × Str)} {Q : Value → Shared → Prop} (hh : A.handled = none) (D : ZipApart z TI TO i1 i2 l1 l2) (Z : ZSt s.heap z TI TO i1 i2 l1 l2 xs ys 0) (hlt : z < s.heap.objs.size ∧ TO < s.heap.objs.size ∧ i1 < s.heap.objs.size ∧ i2 < s.heap.objs.size) (hn0 : 0 < tbl.length) (hn : tbl.length ≤ 1000) (hP : PairVals xs ys tbl)
    (hQ : ∀ h' tk acc c, (∀ b o, b ≠ z → b ≠ TO → b ≠ i1 → b ≠ i2 → s.heap.get? b = some o → h'.get? b = some o) → h'.get? s.heap.objs.size = some (listOf acc c) → TupsAt h' acc.toList tbl → Q (.ref s.heap.objs.size) { s with heap := h', toks := tk }) :
    wpAny (model prog w) A (call (.type "list") [.ref z]) Q E s := by
  have hz : s.TypeIs (.ref z) "zip" := by
    rcases Z.own with ⟨_, hz, _⟩ | ⟨_, _, _, _, hz, _⟩
    · exact ⟨_, hz, rfl⟩
    · exact ⟨_, hz, rfl⟩
  have hl1 : l1 < s.heap.objs.size := by obtain ⟨o, e, _⟩ := Z.li1; exact Heap.lt_size e
  have hl2 : l2 < s.heap.objs.size := by obtain ⟨o, e, _⟩ := Z.li2; exact Heap.lt_size e
  have key : ∀ (h : Heap) (c₁ tk : Nat) (res : Value) (R : Result → Shared → Prop), (∀ b o, b ≠ s.heap.objs.size → s.heap.get? b = some o → h.get? b = some o) → h.get? s.heap.objs.size = some { cls := .type "list", dict := none, data := .seq #[] c₁, slots := #[] } →
      (∀ h' tk acc c, (∀ b o, b ≠ z → b ≠ TO → b ≠ i1 → b ≠ i2 → s.heap.get? b = some o → h'.get? b = some o) → h'.get? s.heap.objs.size = some (listOf acc c) → TupsAt h' acc.toList tbl → R (.ok (.ret res)) { s with heap := h', toks := tk }) →
      codeAny (model prog w) A.in1 (.builtin "list.extend.loop" ⟨[.ref s.heap.objs.size, .ref z, res], []⟩) R { s with heap := h, toks := tk } := by
    intro h c₁ tk res R hk hS₁ hR
    have off : ∀ b o, s.heap.get? b = some o → h.get? b = some o := fun b o e => hk b o (Nat.ne_of_lt (Heap.lt_size e)) e
    have hSS := Heap.lt_size hS₁
    refine zip_list_loop (A := A.in1) (s := s) (S := s.heap.objs.size) (h₁ := s.heap) (tbl := tbl) hh D ⟨Nat.ne_of_gt hlt.1, Nat.ne_of_gt hlt.2.1, Nat.ne_of_gt hlt.2.2.1, Nat.ne_of_gt hlt.2.2.2⟩ ⟨Nat.ne_of_lt hl1, Nat.ne_of_lt hl2⟩ hn0 hn hP res
      (fun h' tk' acc c k' hS' hT => hR h' tk' acc c (fun b o b2 b3 b4 b5 e => k' b o (Nat.ne_of_lt (Heap.lt_size e)) b2 b3 b4 b5 e) hS' hT) tbl.length 0 h tk c₁ #[] (Nat.sub_zero _) (Nat.zero_le _) ?_ (fun b o _ _ _ _ _ e => off b o e) hS₁ trivial (fun _ hm => by simp at hm) ⟨Nat.lt_trans hlt.1 hSS, Nat.lt_trans hlt.2.1 hSS, Nat.lt_trans hlt.2.2.1 hSS, Nat.lt_trans hlt.2.2.2 hSS⟩
    exact Z.keep (S := h.objs.size) (fun b o _ e => off b o e) (fun o e => absurd (off _ _ e) (by rw [show h.get? h.objs.size = none from Heap.get?_none_of_le (Nat.le_refl _)]; exact fun q => nomatch q)) (Nat.ne_of_lt (Nat.lt_trans hl1 hSS)) (Nat.ne_of_lt (Nat.lt_trans hl2 hSS))
  refine callType_codes (Q₁ := fun obj s₁ => obj = .ref s.heap.objs.size ∧ s₁ = { s with heap := s.heap.push { cls := .type "list", data := .seq #[] } }) PySem.F.called_list (PySem.F.typeCall_list_1 _) PySem.F.entry_list_init
    (code_list_new _ ⟨rfl, rfl⟩) fun obj s₁ h₁ => ?_
  obtain ⟨rfl, rfl⟩ := h₁
  have hS : (s.heap.push { cls := .type "list", data := .seq #[] }).get? s.heap.objs.size = some { cls := .type "list", data := .seq #[] } := Heap.get?_push_size _ rfl
  refine ⟨⟨_, hS, rfl⟩, PySem.F.args_list_init_2 _ _, ?_⟩
  show wpAny _ _ (do let old ← Builtin.List.listItems (.ref s.heap.objs.size); Builtin.List.listUpdate (.ref s.heap.objs.size) (fun _ => #[]); letGo old.toList.reverse; Builtin.List.listExtendWith (.ref s.heap.objs.size) (.ref z) .none) _ _ _
  refine wpAny_bind ?_
  unfold Builtin.List.listItems
  refine wpAny_bind (wpAny_seqItems hS rfl (wpAny_pure ?_))
  show wpAny _ _ (updateSeq s.heap.objs.size (fun _ => #[]) >>= fun _ => letGo (#[] : Array Value).toList.reverse >>= fun _ => Builtin.List.listExtendWith (.ref s.heap.objs.size) (.ref z) .none) _ _ _
  refine wpAny_bind (wpAny_updateSeq hS rfl ?_)
  have hS₂ := Heap.get?_update_self (Obj.mapSeq (fun _ => (#[] : Array Value))) hS rfl
  have oth : ∀ b o, b ≠ s.heap.objs.size → s.heap.get? b = some o → ((s.heap.push { cls := .type "list", data := .seq #[] }).update s.heap.objs.size (Obj.mapSeq (fun _ => (#[] : Array Value)))).get? b = some o :=
    fun b o hb e => (Heap.get?_update_other _ _ (Ne.symm hb)).trans (Heap.get?_push_of_some _ e)
  refine wpAny_bind (wpAny_letGo ?_)
  obtain ⟨oz, hoz, hcz⟩ := hz
  have hz' := oth z _ (Nat.ne_of_lt hlt.1) hoz
  unfold Builtin.List.listExtendWith
  refine wpAny_bind (wpAny_typeOf (T := "zip") ⟨_, hz', hcz⟩ ?_)
  have q1 : Builtin.List.listSameRef (.ref s.heap.objs.size) (.ref z) = false := by simp [Builtin.List.listSameRef, Nat.ne_of_gt hlt.1]
  have q2 : (Value.type "zip" == Value.type "list") = false := by decide
  have q3 : (Value.type "zip" == Value.type "tuple") = false := by decide
  simp only [q1, q2, q3, Bool.or_false, Bool.false_eq_true, if_false]
  have hz0 : IsZip s.heap z TI TO .none := by
    rcases Z.own with ⟨_, h, _⟩ | ⟨h, _⟩
    · exact h
    · exact absurd h (Nat.lt_irrefl _)
  refine wpAny_bind (wpAny_pyIter_zip (oth _ _ (Nat.ne_of_lt hlt.1) hz0) ?_)
  refine wpAny_bind (wpAny_holding (zip_hint ⟨_, hz', hcz⟩ ?_))
  refine wpAny_ite_split (fun _ => ?_) (fun hn => absurd (by rw [Bool.true_or]) hn)
  refine wpAny_bind (wpAny_rule ?_)
  refine wpAny_bind ?_
  show wpAny _ _ (updateSeq s.heap.objs.size (·.push .none) >>= fun _ => updateSeq s.heap.objs.size (·.pop)) _ _ _
  refine wpAny_bind (wpAny_updateSeq hS₂ rfl ?_)
  have hS₃ := Heap.get?_update_self (Obj.mapSeq (·.push Value.none)) hS₂ rfl
  refine wpAny_updateSeq (hz := by seq_fits) hS₃ rfl ?_
  have hS₄ := Heap.get?_update_self (Obj.mapSeq (·.pop)) hS₃ rfl
  refine wpAny_pure ⟨plainId_quiet PySem.F.plain_extend_loop _, key _ _ _ _ _ (fun b o hb e => ?_) hS₄ fun h' tk' acc c k' hS' hT => ⟨rfl, hQ h' tk' acc c k' hS' hT⟩⟩
  exact (Heap.get?_update_other _ _ (Ne.symm hb)).trans ((Heap.get?_update_other _ _ (Ne.symm hb)).trans (oth b o hb e))
end
end Mine
end
section
-- part ZipD
open PySem PySem.W PySem.Calls PyProof.Rows PyProof.V PySem.Spec
set_option maxRecDepth 100000
namespace Mine
structure ZipK (h₀ h : Heap) (L : Addr) (news : List (Addr × Obj)) (z : Addr) (xs ys : Array Value) : Prop where
  made : ∃ TI TO i1 i2 l1 l2, ZipApart z TI TO i1 i2 l1 l2 ∧ ZSt h z TI TO i1 i2 l1 l2 xs ys 0 ∧ (z < h.objs.size ∧ TO < h.objs.size ∧ i1 < h.objs.size ∧ i2 < h.objs.size) ∧
    (∀ b, b = z ∨ b = TO ∨ b = i1 ∨ b = i2 → b ≠ L ∧ h₀.get? b = none ∧ ∀ p ∈ news, p.1 ≠ b)
noncomputable def PairV : List Value → List Value → List (Str × Str) → Prop
  | [], [], [] => True
  | .str a _ :: r, .str b _ :: q, p :: l => a = p.1 ∧ b = p.2 ∧ PairV r q l
  | _, _, _ => False
theorem PairV.vals : ∀ {xs ys : List Value} {tbl : List (Str × Str)}, PairV xs ys tbl → PairVals xs.toArray ys.toArray tbl
  | [], [], [], _ => ⟨rfl, rfl, fun i p e => by simp at e⟩
  | .str a t :: r, .str b u :: q, p :: l, ⟨h1, h2, h3⟩ => by
    obtain ⟨e1, e2, e3⟩ := PairV.vals h3
    refine ⟨by simpa using e1, by simpa using e2, ?_⟩
    intro i p' e
    cases i with
    | zero =>
      have : p = p' := by simpa using e
      subst this
      exact ⟨t, u, by simp [h1], by simp [h2]⟩
    | succ j =>
      obtain ⟨t', u', g1, g2⟩ := e3 j p' (by simpa using e)
      exact ⟨t', u', by simpa using g1, by simpa using g2⟩
structure ForTbl (tbl : List (Str × Str)) : Prop where
  pos : 0 < tbl.length
  le : tbl.length ≤ 1000
section
variable {prog : Program} {w : World} {A : Around} {E : Value → Shared → Prop} {s : Shared} {h₀ : Heap} {L : Addr} {m : Str → Option Value} {news : List (Addr × Obj)}
theorem zip_K {l1 l2 : Addr} {xs ys : List Value} {n1 n2 : Nat} {Q : Value → Shared → Prop} (F : Fr h₀ L s.heap m) (N : News h₀ L s.heap news) (m1 : (l1, listOf xs.toArray n1) ∈ news) (m2 : (l2, listOf ys.toArray n2) ∈ news)
    (h : ∀ z h', Fr h₀ L h' m → News h₀ L h' news → ZipK h₀ h' L news z xs.toArray ys.toArray → Q (.ref z) { s with heap := h' }) :
    wpAny (model prog w) A (call (.type "zip") [.ref l1, .ref l2]) Q E s := by
  have hl1 : s.heap.IsList l1 xs.toArray := News.isList N m1
  have hl2 : s.heap.IsList l2 ys.toArray := News.isList N m2
  have hlt1 : l1 < s.heap.objs.size := Heap.lt_size (N _ m1).1
  have hlt2 : l2 < s.heap.objs.size := Heap.lt_size (N _ m2).1
  refine call_zip_2 hl1 hl2 fun h' hz hTI hTO hi1 hi2 hsz hk => ?_
  refine h _ h' (F.keeps hk) (N.grown hk) ⟨_, _, _, _, l1, l2, zipApart_new hlt1 hlt2, ⟨hTI, hi1, hi2, hl1.at fun o e => hk _ o e, hl2.at fun o e => hk _ o e, .inl ⟨rfl, hz, _, _, hTO⟩⟩, ⟨by rw [hsz]; exact Nat.add_lt_add_left (by decide) _, by rw [hsz]; exact Nat.add_lt_add_left (by decide) _, by rw [hsz]; exact Nat.lt_add_of_pos_right (by decide), by rw [hsz]; exact Nat.add_lt_add_left (by decide) _⟩, ?_⟩
  intro b hb
  have hge : s.heap.objs.size ≤ b := by rcases hb with rfl | rfl | rfl | rfl <;> first | exact Nat.le_refl _ | exact Nat.le_add_right _ _
  have hLs : L < s.heap.objs.size := F.ns.lt
  refine ⟨fun e => absurd (Nat.lt_of_lt_of_le hLs hge) (e ▸ Nat.lt_irrefl _), ?_, fun p hp e => ?_⟩
  · cases q : h₀.get? b with
    | none => rfl
    | some o => exact absurd (Nat.lt_of_lt_of_le (Heap.lt_size (F.keep _ _ q)) hge) (Nat.lt_irrefl _)
  · have := Heap.lt_size (N p hp).1
    rw [e] at this; exact absurd (Nat.lt_of_lt_of_le this hge) (Nat.lt_irrefl _)
theorem list_zip_K {z : Addr} {xs ys : List Value} {tbl : List (Str × Str)} {Q : Value → Shared → Prop} (hh : A.handled = none) (hM : ForTbl tbl) (F : Fr h₀ L s.heap m) (N : News h₀ L s.heap news) (Z : ZipK h₀ s.heap L news z xs.toArray ys.toArray) (hP : PairV xs ys tbl)
    (h : ∀ D acc c h' tk, Fr h₀ L h' m → News h₀ L h' ((D, listOf (List.toArray acc) c) :: news) → (∀ p ∈ news, p.1 < D) → TupsAt h' acc tbl → Q (.ref D) { s with heap := h', toks := tk }) :
    wpAny (model prog w) A (call (.type "list") [.ref z]) Q E s := by
  obtain ⟨TI, TO, i1, i2, l1, l2, D, Zs, hlt, off⟩ := Z.made
  refine zip_list_call hh D Zs hlt hM.pos hM.le hP.vals fun h' tk acc c hk hS hT => ?_
  obtain ⟨oL, es, ep, hL, hLd, hLk, hLf⟩ := F.ns
  have keepL : ∀ b o, (∀ c, c = z ∨ c = TO ∨ c = i1 ∨ c = i2 → b ≠ c) → s.heap.get? b = some o → h'.get? b = some o := fun b o q e =>
    hk b o (q z (.inl rfl)) (q TO (.inr (.inl rfl))) (q i1 (.inr (.inr (.inl rfl)))) (q i2 (.inr (.inr (.inr rfl)))) e
  have hF' : Fr h₀ L h' m := ⟨⟨oL, es, ep, keepL _ _ (fun c hc e => (off c hc).1 e.symm) hL, hLd, hLk, hLf⟩, fun b o e => keepL _ _ (fun c hc q => by have := (off c hc).2.1; rw [← q, e] at this; cases this) (F.keep b o e), F.above⟩
  refine h _ acc.toList c h' tk hF' ?_ (fun p hp => Heap.lt_size (N p hp).1) hT
  intro p hp
  rcases List.mem_cons.mp hp with rfl | hp
  · refine ⟨by simpa using hS, ?_, ?_⟩
    · exact fun e => absurd (F.ns.lt) (e ▸ Nat.lt_irrefl _)
    · exact next_is_new F
  · exact ⟨keepL _ _ (fun c hc e => (off c hc).2.2 p hp e) (N p hp).1, (N p hp).2⟩
theorem dict_pairs_K {D : Addr} {acc : List Value} {c : Nat} {tbl : List (Str × Str)} {Q : Value → Shared → Prop} (hh : A.handled = none) (hM : ForTbl tbl) (F : Fr h₀ L s.heap m) (N : News h₀ L s.heap news) (hbig : sysModules < h₀.objs.size) (hm : (D, listOf (List.toArray acc) c) ∈ news) (hT : TupsAt s.heap acc tbl)
    (h : ∀ d o kvs h' tk, Fr h₀ L h' m → News h₀ L h' ((d, o) :: news) → (∀ p ∈ news, p.1 < d) → (d == sysModules) = false → o.IsDictOf (strKind prog w) kvs → FlatPairs PyData.str kvs (putAll tbl) → Q (.ref d) { s with heap := h', toks := tk }) :
    wpAny (model prog w) A (call (.type "dict") [.ref D]) Q E s := by
  refine call_dict_pairs hh (N _ hm).1 hT hM.le fun h' tk kvs hk hd hf => ?_
  obtain ⟨o, ho, hdo⟩ := Heap.dictOf_iff.mp hd
  refine h _ o kvs h' tk (F.keeps hk) ?_ (fun p hp => Heap.lt_size (N p hp).1) (F.notModules hbig) hdo hf
  intro p hp
  rcases List.mem_cons.mp hp with rfl | hp
  · exact ⟨ho, fun e => absurd (F.ns.lt) (e ▸ Nat.lt_irrefl _), next_is_new F⟩
  · exact ⟨hk _ _ (N p hp).1, (N p hp).2⟩
end
end Mine
end
section
-- part LpA
open PySem PySem.W PySem.Calls PyProof.Rows PyProof.V PySem.Spec
namespace Mine
noncomputable def pairCheck (ws : List Str) : List Nat → List Nat → List (Str × Str) → Bool
  | [], [], [] => true
  | e :: es, o :: os, p :: l => decide (ws[e]? = some p.1) && (decide (ws[o]? = some p.2) && pairCheck ws es os l)
  | _, _, _ => false
theorem values_get {l : List (Str × Tok)} {ws : List Str} (h : l.map (·.1) = ws) {i : Nat} {x : Str} (hx : ws[i]? = some x) : ∃ t, (strValues l).toArray[i]? = some (Value.str x t) := by
  subst h
  rw [List.getElem?_map] at hx
  cases e : l[i]? with
  | none => rw [e] at hx; cases hx
  | some q =>
    rw [e] at hx
    have : q.1 = x := by simpa using hx
    subst this
    exact ⟨q.2, by simp [strValues, e]⟩
theorem values_size {l : List (Str × Tok)} {ws : List Str} (h : l.map (·.1) = ws) : (strValues l).toArray.size = ws.length := by
  subst h; simp [strValues]
theorem pairV_of {l : List (Str × Tok)} {ws : List Str} (h : l.map (·.1) = ws) : ∀ {es os : List Nat} {tbl : List (Str × Str)}, pairCheck ws es os tbl = true → PairV (es.filterMap fun x => (strValues l).toArray[x]?) (os.filterMap fun x => (strValues l).toArray[x]?) tbl
  | [], [], [], _ => trivial
  | e :: es, o :: os, p :: r, c => by
    simp only [pairCheck, Bool.and_eq_true, decide_eq_true_eq] at c
    obtain ⟨t, ht⟩ := values_get h c.1
    obtain ⟨u, hu⟩ := values_get h c.2.1
    rw [List.filterMap_cons_some ht, List.filterMap_cons_some hu]
    exact ⟨rfl, rfl, pairV_of h c.2.2⟩
noncomputable def pairVb : List Value → List Value → List (Str × Str) → Bool
  | [], [], [] => true
  | .str a _ :: r, .str b _ :: q, p :: l => decide (a = p.1) && (decide (b = p.2) && pairVb r q l)
  | _, _, _ => false
theorem PairV.of_check : ∀ {xs ys : List Value} {tbl : List (Str × Str)}, pairVb xs ys tbl = true → PairV xs ys tbl
  | [], [], [], _ => trivial
  | .str a _ :: r, .str b _ :: q, p :: l, h => by
    simp only [pairVb, Bool.and_eq_true, decide_eq_true_eq] at h
    exact ⟨h.1, h.2.1, PairV.of_check h.2.2⟩
noncomputable def otherT : List (Str × Str) := [(Str.ofString "c", Str.ofString "b"), (Str.ofString "nae", Str.ofString "b"), (Str.ofString "nb", Str.ofString "ae"), (Str.ofString "nc", Str.ofString "ae"), (Str.ofString "z", Str.ofString "e"), (Str.ofString "nz", Str.ofString "ne"), (Str.ofString "na", Str.ofString "be"), (Str.ofString "nbe", Str.ofString "a"), (Str.ofString "pe", Str.ofString "p"), (Str.ofString "po", Str.ofString "np"), (Str.ofString "nge", Str.ofString "l"), (Str.ofString "nl", Str.ofString "ge"), (Str.ofString "ng", Str.ofString "le"), (Str.ofString "nle", Str.ofString "g")]
theorem lines_LpA_1 : True := by
  w_top off
  k_with_none
  k_with "call builtin:str.split" => (k_here; (with_reducible show wpAny _ _ (call (Value.builtin "str.split") [Value.str _ _, Value.str _ _]) _ _ _); (rename (Txt.split _ _ = _) => hsp'); (refine KSpl.split1 (by k_asm) (by k_asm) (by decide) ?_ (by rw [sizeLine_eq]; omega)); intro D' l' h' k' e' a' F' N' l1; (try k_lt l1); (rw [hsp'] at e'))
  k_with "call type:zip" => (k_here; (with_reducible show wpAny _ _ (call (Value.type "zip") [Value.ref _, Value.ref _]) _ _ _); k_dflt (refine' zip_K ?qq71F ?qq71N ?qq71a ?qq71b ?_; (case qq71F => k_asm); (case qq71N => k_asm); (case qq71a => k_mem); (case qq71b => k_mem); k_whole; intro z' h' F' N' Z'))
  k_with "call type:list" => (k_here; (with_reducible show wpAny _ _ (call (Value.type "list") [Value.ref _]) _ _ _); (rename ZipK _ _ _ _ _ _ _ => hZ'); (rename ForTbl _ => hM'); k_dflt (refine' list_zip_K ?qq72hh hM' ?qq72F ?qq72N hZ' ?qq72P ?_; (case qq72hh => rfl); (case qq72F => k_asm); (case qq72N => k_asm); (case qq72P => ((rename (List.map _ _ = _) => hml'); (rw [values_size hml']); exact pairV_of hml' (by kernel_rfl))); k_whole; intro D' acc' c' h' tk' F' N' l1' hT'; (try k_lt l1')))
  k_with "call type:dict" => (k_here; (with_reducible show wpAny _ _ (call (Value.type "dict") [Value.ref _]) _ _ _); (rename TupsAt _ _ _ => hT'); (rename ForTbl _ => hM'); k_dflt (refine' dict_pairs_K ?qq73hh hM' ?qq73F ?qq73N ?qq73b ?qq73m hT' ?_; (case qq73hh => rfl); (case qq73F => k_asm); (case qq73N => k_asm); (case qq73b => exact modules_low (Top.nolimit (by k_asm))); (case qq73m => k_mem); k_whole; intro d' o' kvs' h' tk' F' N' l1' hs' hd' hf'; (try k_lt l1')))
  trivial
set_option maxRecDepth 100000 in
set_option maxHeartbeats 8000000 in
theorem law_pairs_o (w : World) (tk : Tok) : Pure w 6 209 [.str (Str.ofString "sal shl loopz loope loopnz loopne repe rep repz rep repnz repne") tk] (fun _ => True) (DictOut w (dOf othersT)) := by
  have hM : ForTbl othersT := ⟨by decide +kernel, by decide +kernel⟩
  have hsp : Txt.split (Str.ofString "sal shl loopz loope loopnz loopne repe rep repz rep repnz repne") (Str.ofString " ") = [Str.ofString "sal", Str.ofString "shl", Str.ofString "loopz", Str.ofString "loope", Str.ofString "loopnz", Str.ofString "loopne", Str.ofString "repe", Str.ofString "rep", Str.ofString "repz", Str.ofString "rep", Str.ofString "repnz", Str.ofString "repne"] := by decide +kernel
  have htx : Str.length (Str.ofString "sal shl loopz loope loopnz loopne repe rep repz rep repnz repne") ≤ 1000 := by decide +kernel
  unfold Pure
  k_fill
  intro mean mg mb dp un gd cn cs a ccd cl outer A₀ base h₀ L m s Q E B F X T hk hd hu hP hret
  refine wpAny_call ?_
  k_dflt (refine' enterG (binds := [(Str.ofString "text", Value.str (Str.ofString "sal shl loopz loope loopnz loopne repe rep repz rep repnz repne") tk)]) ?k1 ?k2 ?k3 News.nil ?k5 ?kA ?kF ?kK ?k6 ?k7 ?k8 ?k9 ?kB ?_ ?c2 ?c3 ?c4 ?c5; (case kA => exact rfl); (case kF => exact rfl); (case kK => assumption); (case k1 => k_asm); (case k2 => k_asm); (case k3 => k_asm); (case k5 => k_asm); (case k6 => k_is); (case k7 => k_is); (case k8 => ktr_room); (case k9 => exact BindsTo.of_eq rfl); (case c5 => decide); (case kB => exact locs rfl); (case c2 => exact rfl); (case c3 => exact rfl); (case c4 => exact rfl); k_whole; intro g' L' h' hG hG2 FG' F' N' B' X' T'; (try dsimp only); (try k_lift B'); (try k_fold))
  k_steps
  rename (News g' _ _ _) => N1
  rename (Fr g' _ _ _) => F1
  rename (FlatPairs _ _ _) => hf1
  rw [show putAll othersT = dOf othersT from by kernel_rfl] at hf1
  have hN := N1 _ (.head _)
  exact hret _ _ _ (keep_of hG F1) ⟨_, _, _, rfl, hN.1, fresh_of hG hN.2.2, by assumption, by assumption, hf1⟩
set_option maxRecDepth 100000 in
set_option maxHeartbeats 8000000 in
theorem law_pairs_e (w : World) (tk : Tok) : Pure w 6 209 [.str (Str.ofString "c b nae b nb ae nc ae z e nz ne na be nbe a pe p po np nge l nl ge ng le nle g") tk] (fun _ => True) (DictOut w (dOf otherT)) := by
  have hM : ForTbl otherT := ⟨by decide +kernel, by decide +kernel⟩
  have hsp : Txt.split (Str.ofString "c b nae b nb ae nc ae z e nz ne na be nbe a pe p po np nge l nl ge ng le nle g") (Str.ofString " ") = [Str.ofString "c", Str.ofString "b", Str.ofString "nae", Str.ofString "b", Str.ofString "nb", Str.ofString "ae", Str.ofString "nc", Str.ofString "ae", Str.ofString "z", Str.ofString "e", Str.ofString "nz", Str.ofString "ne", Str.ofString "na", Str.ofString "be", Str.ofString "nbe", Str.ofString "a", Str.ofString "pe", Str.ofString "p", Str.ofString "po", Str.ofString "np", Str.ofString "nge", Str.ofString "l", Str.ofString "nl", Str.ofString "ge", Str.ofString "ng", Str.ofString "le", Str.ofString "nle", Str.ofString "g"] := by decide +kernel
  have htx : Str.length (Str.ofString "c b nae b nb ae nc ae z e nz ne na be nbe a pe p po np nge l nl ge ng le nle g") ≤ 1000 := by decide +kernel
  unfold Pure
  k_fill
  intro mean mg mb dp un gd cn cs a ccd cl outer A₀ base h₀ L m s Q E B F X T hk hd hu hP hret
  refine wpAny_call ?_
  k_dflt (refine' enterG (binds := [(Str.ofString "text", Value.str (Str.ofString "c b nae b nb ae nc ae z e nz ne na be nbe a pe p po np nge l nl ge ng le nle g") tk)]) ?k1 ?k2 ?k3 News.nil ?k5 ?kA ?kF ?kK ?k6 ?k7 ?k8 ?k9 ?kB ?_ ?c2 ?c3 ?c4 ?c5; (case kA => exact rfl); (case kF => exact rfl); (case kK => assumption); (case k1 => k_asm); (case k2 => k_asm); (case k3 => k_asm); (case k5 => k_asm); (case k6 => k_is); (case k7 => k_is); (case k8 => ktr_room); (case k9 => exact BindsTo.of_eq rfl); (case c5 => decide); (case kB => exact locs rfl); (case c2 => exact rfl); (case c3 => exact rfl); (case c4 => exact rfl); k_whole; intro g' L' h' hG hG2 FG' F' N' B' X' T'; (try dsimp only); (try k_lift B'); (try k_fold))
  k_steps
  rename (News g' _ _ _) => N1
  rename (Fr g' _ _ _) => F1
  rename (FlatPairs _ _ _) => hf1
  rw [show putAll otherT = dOf otherT from by kernel_rfl] at hf1
  have hN := N1 _ (.head _)
  exact hret _ _ _ (keep_of hG F1) ⟨_, _, _, rfl, hN.1, fresh_of hG hN.2.2, by assumption, by assumption, hf1⟩
set_option maxRecDepth 100000 in
set_option maxHeartbeats 8000000 in
theorem law_pairs_f (w : World) (tk : Tok) : Pure w 6 209 [.str (Str.ofString "jmp jump loop branch loope branch loopne branch jrcxz branch call call ret return hlt stop ud2 stop") tk] (fun _ => True) (DictOut w (dOf flowT)) := by
  have hM : ForTbl flowT := ⟨by decide +kernel, by decide +kernel⟩
  have hsp : Txt.split (Str.ofString "jmp jump loop branch loope branch loopne branch jrcxz branch call call ret return hlt stop ud2 stop") (Str.ofString " ") = [Str.ofString "jmp", Str.ofString "jump", Str.ofString "loop", Str.ofString "branch", Str.ofString "loope", Str.ofString "branch", Str.ofString "loopne", Str.ofString "branch", Str.ofString "jrcxz", Str.ofString "branch", Str.ofString "call", Str.ofString "call", Str.ofString "ret", Str.ofString "return", Str.ofString "hlt", Str.ofString "stop", Str.ofString "ud2", Str.ofString "stop"] := by decide +kernel
  have htx : Str.length (Str.ofString "jmp jump loop branch loope branch loopne branch jrcxz branch call call ret return hlt stop ud2 stop") ≤ 1000 := by decide +kernel
  unfold Pure
  k_fill
  intro mean mg mb dp un gd cn cs a ccd cl outer A₀ base h₀ L m s Q E B F X T hk hd hu hP hret
  refine wpAny_call ?_
  k_dflt (refine' enterG (binds := [(Str.ofString "text", Value.str (Str.ofString "jmp jump loop branch loope branch loopne branch jrcxz branch call call ret return hlt stop ud2 stop") tk)]) ?k1 ?k2 ?k3 News.nil ?k5 ?kA ?kF ?kK ?k6 ?k7 ?k8 ?k9 ?kB ?_ ?c2 ?c3 ?c4 ?c5; (case kA => exact rfl); (case kF => exact rfl); (case kK => assumption); (case k1 => k_asm); (case k2 => k_asm); (case k3 => k_asm); (case k5 => k_asm); (case k6 => k_is); (case k7 => k_is); (case k8 => ktr_room); (case k9 => exact BindsTo.of_eq rfl); (case c5 => decide); (case kB => exact locs rfl); (case c2 => exact rfl); (case c3 => exact rfl); (case c4 => exact rfl); k_whole; intro g' L' h' hG hG2 FG' F' N' B' X' T'; (try dsimp only); (try k_lift B'); (try k_fold))
  k_steps
  rename (News g' _ _ _) => N1
  rename (Fr g' _ _ _) => F1
  rename (FlatPairs _ _ _) => hf1
  rw [show putAll flowT = dOf flowT from by kernel_rfl] at hf1
  have hN := N1 _ (.head _)
  exact hret _ _ _ (keep_of hG F1) ⟨_, _, _, rfl, hN.1, fresh_of hG hN.2.2, by assumption, by assumption, hf1⟩
end Mine
end
section
-- part ItG
open PySem PySem.W PySem.Calls PyProof.Rows PyProof.V PySem.Spec
namespace Mine
section
variable {prog : Program} {w : World} {A : Around} {E : Value → Shared → Prop} {s : Shared} {env : Env} {h₀ : Heap} {x : Str} {body : List Stmt} {Q : Flow → Shared → Prop}
noncomputable def EndG (h₀ : Heap) (L : Addr) (x : Str) (stored : List Str) (m₀ : Str → Option Value) (J : List (Addr × Obj) → Prop) (p : Addr × Obj) (s₁ s₂ : Shared) : Prop :=
  ∃ h' tk m' nx, s₂ = { s₁ with heap := h', toks := tk } ∧ Fr h₀ L h' m' ∧ News h₀ L h' (p :: nx) ∧ (∀ q ∈ nx, q.1 ≠ p.1) ∧ (∀ y, y ≠ x → stored.contains y = false → m' y = m₀ y) ∧ J nx
noncomputable def PostG (h₀ : Heap) (L : Addr) (x : Str) (stored : List Str) (m₀ : Str → Option Value) (J : List (Addr × Obj) → Prop) (p : Addr × Obj) (s₁ : Shared) (Q : Flow → Shared → Prop) (f : Flow) (s₂ : Shared) : Prop :=
  match f with
  | .ret v => Q (.ret v) s₂
  | .brk => Q .next s₂
  | _ => EndG h₀ L x stored m₀ J p s₁ s₂
theorem iterTg {ax : Addr} {lo : Obj} {vs : List Value} {n : Nat} {m₀ : Str → Option Value} {news : List (Addr × Obj)} (stored : List Str) (J : List (Addr × Obj) → Nat → List (Addr × Obj) → Prop)
    (hh : A.handled = none) (F : Fr h₀ env.locals s.heap m₀) (N : News h₀ env.locals s.heap news) (hm : (ax, lo) ∈ news) (hc : lo.cls = .type "tuple") (hd : lo.data = .seq vs.toArray n) (hj : J news 0 news) (hsrc : ∀ i nx, J news i nx → (ax, lo) ∈ nx)
    (turn : ∀ i v (u : Str → Option Value) news₁ h tk I o, vs[i]? = some v → (∀ p ∈ news₁, p.1 ≠ I) → J news i news₁ → Fr h₀ env.locals h (fun y => if y = x then some v else if stored.contains y then u y else m₀ y) → News h₀ env.locals h ((I, o) :: news₁) →
      wpAny (model prog w) A (execs body env) (PostG h₀ env.locals x stored m₀ (J news (i + 1)) (I, o) { s with heap := h, toks := tk } Q) E { s with heap := h, toks := tk })
    (done : ∀ (u : Str → Option Value) news₁ h tk, J news vs.length news₁ → Fr h₀ env.locals h (fun y => if y = x then u y else if stored.contains y then u y else m₀ y) → News h₀ env.locals h news₁ → Q .next { s with heap := h, toks := tk }) :
    wpAny (model prog w) A (pyIter (.ref ax)) (fun it s₂ => LoopAtV prog w A h₀ env x body Q E it s₂) E s := by
  have hax := N _ hm
  have hl : s.heap.IsTuple ax vs.toArray := ⟨lo, hax.1, hc, n, hd⟩
  have hlt : ax < s.heap.objs.size := Heap.lt_size hax.1
  have hne : ax ≠ s.heap.objs.size := Nat.ne_of_lt hlt
  refine wpAny_pyIter_tuple hl ?_
  have W := Walks.tuple (prog := prog) (w := w) hh s.heap.objs.size ax hne vs.toArray
  let J' : Nat → (Str → Option Value) → List (Addr × Obj) → Prop := fun i m₁ news₁ => (∀ y, y ≠ x → stored.contains y = false → m₁ y = m₀ y) ∧ J news i news₁
  refine ⟨s.heap.objs.size, _, _, _, _, _, m₀, news, J', rfl, W, ?_, ?_, ?_, ⟨⟨_, Heap.get?_push_size _ rfl, rfl, rfl⟩, hl.at fun o e => Heap.get?_push_of_some _ e⟩, F.push _, (fun p hp => ⟨Heap.get?_push_of_some _ (N p hp).1, (N p hp).2⟩), ⟨fun _ _ _ => rfl, hj⟩, ?_, ?_⟩
  · intro hm'
    rcases List.mem_cons.mp hm' with e | hm'
    · exact absurd F.ns.lt (e ▸ Nat.lt_irrefl _)
    · exact hax.2.1 (List.mem_singleton.mp hm').symm
  · intro b hb
    rw [List.mem_singleton.mp hb]
    exact next_is_new F
  · intro p hp hI
    exact absurd (Heap.lt_size (N p hp).1) ((List.mem_singleton.mp hI) ▸ Nat.lt_irrefl _)
  · rintro i v m₁ news₁ s₁ own ⟨hh', tk', rfl⟩ hin hP ⟨hJm, hJ⟩ hoff hown hget hall hst' F₁ N₁
    obtain ⟨o, ho, _⟩ := hst'.1
    have hI0 := next_is_new F
    have hio : (s.heap.objs.size, o) ∈ own := hall s.heap.objs.size (by simp) hI0 o ho
    have e : (fun y => if y = x then some v else m₁ y) = fun y => if y = x then some v else if stored.contains y then m₁ y else m₀ y := by
      funext y
      by_cases h1 : y = x
      · simp [h1]
      · simp only [if_neg h1]
        cases h2 : stored.contains y with
        | true => simp
        | false => simp only [Bool.false_eq_true, if_false]; exact hJm y h1 h2
    rw [e] at F₁
    have N₂ : News h₀ env.locals hh' ((s.heap.objs.size, o) :: news₁) := fun p hp => by
      rcases List.mem_cons.mp hp with e | hp
      · exact N₁ p (List.mem_append_left _ (e ▸ hio))
      · exact N₁ p (List.mem_append_right _ hp)
    refine wpAny_mono (turn i v m₁ news₁ hh' tk' _ o (by simpa using hP) (fun p hp e => hoff p hp (List.mem_singleton.mpr e)) hJ F₁ N₂) (fun f s₂ p => ?_) fun _ _ e => e
    have fin : EndG h₀ env.locals x stored m₀ (J news (i + 1)) (s.heap.objs.size, o) { s with heap := hh', toks := tk' } s₂ → LoopStepU h₀ env.locals [s.heap.objs.size] own (J' (i + 1)) { s with heap := hh', toks := tk' } .next s₂ := by
      rintro ⟨h', tk, m', nx, e, F', N', hne', hm', hJ'⟩
      refine ⟨rfl, h', tk, m', nx, e, F', fun p hp => ?_, fun p hp hI => hne' p hp (List.mem_singleton.mp hI), hm', hJ'⟩
      rcases List.mem_append.mp hp with h1 | h1
      · have h2 := N₁ p (List.mem_append_left _ h1)
        rcases List.mem_cons.mp (hown p h1) with e1 | e1
        · have e2 : p = (s.heap.objs.size, o) := by
            have := h2.1
            rw [e1, ho] at this
            exact Prod.ext e1 (Option.some.inj this).symm
          exact N' p (e2 ▸ .head _)
        · have e1 := List.mem_singleton.mp e1
          have h3 := N₁ (ax, lo) (List.mem_append_right _ (hsrc _ _ hJ))
          have e2 : p = (ax, lo) := by
            have := h2.1
            rw [e1, h3.1] at this
            exact Prod.ext e1 (Option.some.inj this).symm
          exact N' p (.tail _ (e2 ▸ hsrc _ _ hJ'))
      · exact N' p (.tail _ h1)
    cases f with
    | ret v => exact .ret p
    | brk => exact .brk p
    | next => exact .next (fin p)
    | cont => exact .cont (fin p)
  · rintro h' tk m' news' F' N' _ ⟨hm', hJ⟩
    refine done m' news' h' tk (by simpa using hJ) ?_ N'
    have e : (fun y => if y = x then m' y else if stored.contains y then m' y else m₀ y) = m' := by
      funext y
      by_cases h1 : y = x
      · simp [h1]
      · simp only [if_neg h1]
        cases h2 : stored.contains y with
        | true => simp
        | false => simp only [Bool.false_eq_true, if_false]; exact (hm' y h1 h2).symm
    rw [e]; exact F'
end
noncomputable def PairsIn (nx : List (Addr × Obj)) : List (Str × Value) → List (Str × (Str × Int)) → Prop
  | [], [] => True
  | q :: r, p :: l => q.1 = p.1 ∧ (∃ a t u, q.2 = .ref a ∧ (a, tupObj p.2.1 t p.2.2 u) ∈ nx) ∧ PairsIn nx r l
  | _, _ => False
theorem PairsIn.mono {nx nx' : List (Addr × Obj)} (hk : ∀ p ∈ nx, p ∈ nx') : ∀ {kvs : List (Str × Value)} {l : List (Str × (Str × Int))}, PairsIn nx kvs l → PairsIn nx' kvs l
  | [], [], _ => trivial
  | _ :: _, _ :: _, ⟨h1, ⟨a, t, u, h2, h3⟩, h4⟩ => ⟨h1, ⟨a, t, u, h2, hk _ h3⟩, PairsIn.mono hk h4⟩
theorem PairsIn.absent {nx : List (Addr × Obj)} {k : Str} : ∀ {kvs : List (Str × Value)} {l : List (Str × (Str × Int))}, PairsIn nx kvs l → (∀ q ∈ l, q.1 ≠ k) → valueAt kvs k = none
  | [], [], _, _ => rfl
  | q :: r, p :: l, ⟨h1, _, h4⟩, hk => by
    have e : q.1 ≠ k := h1 ▸ hk p (.head _)
    have ih := PairsIn.absent h4 fun q hq => hk q (.tail _ hq)
    obtain ⟨a, b⟩ := q
    simpa [valueAt, e] using ih
theorem PairsIn.snoc {nx : List (Addr × Obj)} {a : Addr} {k : Str} {p : Str × Int} {t u : Tok} (ha : (a, tupObj p.1 t p.2 u) ∈ nx) : ∀ {kvs : List (Str × Value)} {l : List (Str × (Str × Int))}, PairsIn nx kvs l → PairsIn nx (kvs ++ [(k, .ref a)]) (l ++ [(k, p)])
  | [], [], _ => ⟨rfl, ⟨a, t, u, rfl, ha⟩, trivial⟩
  | _ :: _, _ :: _, ⟨h1, h2, h4⟩ => ⟨h1, h2, PairsIn.snoc ha h4⟩
theorem PairsIn.store {nx : List (Addr × Obj)} {kvs : List (Str × Value)} {l : List (Str × (Str × Int))} {a : Addr} {k : Str} {p : Str × Int} {t u : Tok} (h : PairsIn nx kvs l) (hk : ∀ q ∈ l, q.1 ≠ k) (ha : (a, tupObj p.1 t p.2 u) ∈ nx) : PairsIn nx (stored kvs k (.ref a)) (l ++ [(k, p)]) := by
  rw [stored_absent (h.absent hk)]
  exact h.snoc ha
theorem PairsIn.length {nx : List (Addr × Obj)} : ∀ {kvs : List (Str × Value)} {l : List (Str × (Str × Int))}, PairsIn nx kvs l → kvs.length = l.length
  | [], [], _ => rfl
  | _ :: _, _ :: _, ⟨_, _, h⟩ => by rw [List.length_cons, List.length_cons, PairsIn.length h]
theorem PairsIn.at {h₀ h : Heap} {L : Addr} {nx : List (Addr × Obj)} (N : News h₀ L h nx) : ∀ {kvs : List (Str × Value)} {l : List (Str × (Str × Int))}, PairsIn nx kvs l → PairsAt h kvs l
  | [], [], _ => trivial
  | (_, _) :: _, _ :: _, ⟨h1, ⟨a, t, u, h2, h3⟩, h4⟩ => ⟨h1, ⟨a, t, u, h2, (N _ h3).1⟩, PairsIn.at N h4⟩
noncomputable def fiveL : List Str := [Str.ofString "movs", Str.ofString "stos", Str.ofString "lods", Str.ofString "cmps", Str.ofString "scas"]
theorem string_four {i : Nat} {st : Str} (h : fiveL[i]? = some st) :
    stringT.take (4 * (i + 1)) = stringT.take (4 * i) ++ [(st ++ Str.ofString "b", (st, 8))] ++ [(st ++ Str.ofString "w", (st, 16))] ++ [(st ++ Str.ofString "d", (st, 32))] ++ [(st ++ Str.ofString "q", (st, 64))] ∧
    (∀ q ∈ stringT.take (4 * i), q.1 ≠ st ++ Str.ofString "b") ∧ (∀ q ∈ stringT.take (4 * i) ++ [(st ++ Str.ofString "b", (st, 8))], q.1 ≠ st ++ Str.ofString "w") ∧ (∀ q ∈ stringT.take (4 * i) ++ [(st ++ Str.ofString "b", (st, 8))] ++ [(st ++ Str.ofString "w", (st, 16))], q.1 ≠ st ++ Str.ofString "d") ∧
    (∀ q ∈ stringT.take (4 * i) ++ [(st ++ Str.ofString "b", (st, 8))] ++ [(st ++ Str.ofString "w", (st, 16))] ++ [(st ++ Str.ofString "d", (st, 32))], q.1 ≠ st ++ Str.ofString "q") := by
  have hi : i < 5 := (List.getElem?_eq_some_iff.mp h).1
  have : i = 0 ∨ i = 1 ∨ i = 2 ∨ i = 3 ∨ i = 4 := by omega
  rcases this with rfl | rfl | rfl | rfl | rfl <;> (cases h; decide +kernel)
theorem allNe_tail {I : Addr} {l : List (Addr × Obj)} (h : AllLt I l) : ∀ q ∈ l, q.1 ≠ I := by
  induction l with
  | nil => intro q hq; cases hq
  | cons p r ih =>
    intro q hq
    rcases List.mem_cons.mp hq with rfl | hq
    · exact Nat.ne_of_lt h.1
    · exact ih h.2 q hq
theorem kv_line {kvs : List (Str × Value)} (h : kvs.length ≤ 100) : kvs.length ≤ sizeLine := by rw [sizeLine_eq]; omega
theorem kv_line1 {kvs : List (Str × Value)} {k : Str} {v : Value} (h : kvs.length ≤ 100) : (stored kvs k v).length ≤ sizeLine := by have := stored_length_le kvs k v; rw [sizeLine_eq]; omega
theorem kv_line2 {kvs : List (Str × Value)} {k k2 : Str} {v v2 : Value} (h : kvs.length ≤ 100) : (stored (stored kvs k v) k2 v2).length ≤ sizeLine := by have := stored_length_le kvs k v; have := stored_length_le (stored kvs k v) k2 v2; rw [sizeLine_eq]; omega
theorem kv_line3 {kvs : List (Str × Value)} {k k2 k3 : Str} {v v2 v3 : Value} (h : kvs.length ≤ 100) : (stored (stored (stored kvs k v) k2 v2) k3 v3).length ≤ sizeLine := by have := stored_length_le kvs k v; have := stored_length_le (stored kvs k v) k2 v2; have := stored_length_le (stored (stored kvs k v) k2 v2) k3 v3; rw [sizeLine_eq]; omega
end Mine
end
section
-- part LtA
open PySem PySem.W PySem.Calls PyProof.Rows PyProof.V PySem.Spec
namespace Mine
section
variable {prog : Program} {w : World} {A : Around} {E : Value → Shared → Prop} {s : Shared} {h₀ : Heap} {L : Addr} {m : Str → Option Value} {news : List (Addr × Obj)} {Q : Value → Shared → Prop}
theorem split_const {x y : Str} {t u : Tok} {LL : List Str} (F : Fr h₀ L s.heap m) (N : News h₀ L s.heap news) (hy : (y.length == 0) = false) (e : Txt.split x y = LL) (hsz : x.length + 2 ≤ 1000)
    (h : ∀ D vs h' k, Fr h₀ L h' m → News h₀ L h' ((D, listOf (List.toArray vs) 0) :: news) → (∀ p ∈ news, p.1 < D) → StrsAre vs LL → Q (.ref D) { s with heap := h', toks := k }) :
    wpAny (model prog w) A (call (.builtin "str.split") [.str x t, .str y u]) Q E s :=
  KSpl.split1 F N hy (fun D l h' k el sl F' N' l1 => h D (strValues l) h' k F' N' l1 (e ▸ el ▸ sl)) (by rw [sizeLine_eq]; omega)
end
theorem ends_split : Txt.split (Str.ofString "o no b ae e ne be a s ns p np l ge le g") (Str.ofString " ") = condsL := by decide +kernel
theorem lock_split : Txt.split (Str.ofString "add adc and or sbb sub xor inc dec neg not xchg xadd cmpxchg bts btr btc") (Str.ofString " ") = lockedL := by decide +kernel
theorem strs_nth {vs : List Value} {L : List Str} (h : StrsAre vs L) : ∀ {i : Nat} {v : Value}, vs[i]? = some v → ∃ x t, v = .str x t ∧ L[i]? = some x := by
  induction h with
  | nil => intro i v hv; cases hv
  | cons y t _ ih =>
    intro i v hv
    cases i with
    | zero => exact ⟨y, t, (Option.some.inj hv).symm, rfl⟩
    | succ j => exact ih (by simpa using hv)
noncomputable def LtJ1 (w : World) (news : List (Addr × Obj)) (i : Nat) (nx : List (Addr × Obj)) : Prop :=
  ∃ D lo T lt da oa ds os dc oc0 oc kvs, news = [(D, lo), (T, lt), (da, oa), (ds, os), (dc, oc0)] ∧ nx = [(D, lo), (T, lt), (da, oa), (ds, os), (dc, oc)] ∧ oc.IsDictOf (strKind PySem.Challenge.rw_pq0793_01.row.prog w) kvs ∧ FlatPairs PyData.str kvs (putAll (condT.take (3 * i)))
noncomputable def LtJ3 (w : World) (news : List (Addr × Obj)) (i : Nat) (nx : List (Addr × Obj)) : Prop :=
  ∃ o a b c da oa0 oa f e tups kvs, news = o :: a :: b :: c :: (da, oa0) :: f :: e :: tups ∧ nx = o :: a :: b :: c :: (da, oa) :: f :: e :: tups ∧ oa.IsDictOf (strKind PySem.Challenge.rw_pq0793_01.row.prog w) kvs ∧ FlatPairs PyData.str kvs (putAll (aliasesT.take (6 + 3 * i)))
noncomputable def tabL (tb c st fl lk al : Addr) (n k : Nat) (vlk : List Value) (oc ost ofl oal : Obj) (tups : List (Addr × Obj)) : List (Addr × Obj) :=
  (tb, listOf #[.ref c, .ref st, .ref fl, .ref lk, .ref al] n) :: (lk, listOf (List.toArray vlk) k) :: (fl, ofl) :: (al, oal) :: (st, ost) :: (c, oc) :: tups
structure TabFacts (w : World) (c st fl al : Addr) (vlk : List Value) (oc ost ofl oal : Obj) (tups : List (Addr × Obj)) (kc kf ka kvs : List (Str × Value)) : Prop where
  hc : oc.IsDictOf (strKind PySem.Challenge.rw_pq0793_01.row.prog w) kc
  fc : FlatPairs PyData.str kc (dOf condT)
  sc : (c == sysModules) = false
  hst : ost.IsDictOf (strKind PySem.Challenge.rw_pq0793_01.row.prog w) kvs
  pst : PairsIn tups kvs stringT
  sst : (st == sysModules) = false
  hfl : ofl.IsDictOf (strKind PySem.Challenge.rw_pq0793_01.row.prog w) kf
  ff : FlatPairs PyData.str kf (dOf flowT)
  sfl : (fl == sysModules) = false
  hal : oal.IsDictOf (strKind PySem.Challenge.rw_pq0793_01.row.prog w) ka
  fa : FlatPairs PyData.str ka (dOf aliasesT)
  sal : (al == sysModules) = false
  hv : StrsAre vlk lockedL
theorem TabFacts.at {w : World} {g h : Heap} {L tb c st fl lk al : Addr} {n k : Nat} {vlk : List Value} {oc ost ofl oal : Obj} {tups : List (Addr × Obj)} {kc kf ka kvs : List (Str × Value)} (T : TabFacts w c st fl al vlk oc ost ofl oal tups kc kf ka kvs)
    (N : News g L h (tabL tb c st fl lk al n k vlk oc ost ofl oal tups)) : TablesAt w h tb c st fl lk al vlk kvs ∧ (st == sysModules) = false ∧ PairsAt h kvs stringT := by
  refine ⟨⟨?_, ?_, ?_, ?_, ?_, T.hv, ?_⟩, T.sst, ?_⟩
  · exact ⟨_, (N _ (.head _)).1, rfl, n, rfl⟩
  · exact TabAt.ofObj T.sc (N _ (.tail _ (.tail _ (.tail _ (.tail _ (.tail _ (.head _))))))).1 T.hc T.fc
  · exact Heap.dictOf_iff.mpr ⟨ost, (N _ (.tail _ (.tail _ (.tail _ (.tail _ (.head _)))))).1, T.hst⟩
  · exact TabAt.ofObj T.sfl (N _ (.tail _ (.tail _ (.head _)))).1 T.hfl T.ff
  · exact ⟨_, (N _ (.tail _ (.head _))).1, rfl, k, rfl⟩
  · exact TabAt.ofObj T.sal (N _ (.tail _ (.tail _ (.tail _ (.head _))))).1 T.hal T.fa
  · exact PairsIn.at (fun q hq => N q (.tail _ (.tail _ (.tail _ (.tail _ (.tail _ (.tail _ hq))))))) T.pst
noncomputable def TablesOut (w : World) (h : Heap) (r : Value) (h' : Heap) : Prop :=
  ∃ tb c st fl lk al n k vlk oc ost ofl oal tups kc kf ka kvs, r = .ref tb ∧ (∀ q ∈ tabL tb c st fl lk al n k vlk oc ost ofl oal tups, h'.get? q.1 = some q.2 ∧ h.get? q.1 = none) ∧ TabFacts w c st fl al vlk oc ost ofl oal tups kc kf ka kvs
theorem tables_out {w : World} {g h h0 : Heap} {L tb c st fl lk al : Addr} {n k : Nat} {vlk : List Value} {oc ost ofl oal : Obj} {j1 j2 j3 j4 : Addr × Obj} {tups : List (Addr × Obj)} {kc kf ka kvs : List (Str × Value)}
    (N : News g L h ((tb, listOf #[.ref c, .ref st, .ref fl, .ref lk, .ref al] n) :: (lk, listOf (List.toArray vlk) k) :: (fl, ofl) :: j1 :: j2 :: j3 :: j4 :: (al, oal) :: (st, ost) :: (c, oc) :: tups))
    (hc : oc.IsDictOf (strKind PySem.Challenge.rw_pq0793_01.row.prog w) kc) (fc : FlatPairs PyData.str kc (putAll condT)) (sc : (c == sysModules) = false)
    (hst : ost.IsDictOf (strKind PySem.Challenge.rw_pq0793_01.row.prog w) kvs) (pst : PairsIn tups kvs stringT) (sst : (st == sysModules) = false)
    (hfl : ofl.IsDictOf (strKind PySem.Challenge.rw_pq0793_01.row.prog w) kf) (ff : FlatPairs PyData.str kf (dOf flowT)) (sfl : (fl == sysModules) = false)
    (hal : oal.IsDictOf (strKind PySem.Challenge.rw_pq0793_01.row.prog w) ka) (fa : FlatPairs PyData.str ka (dOf aliasesT)) (sal : (al == sysModules) = false)
    (hv : StrsAre vlk lockedL) (hn : ∀ b, g.get? b = none → h0.get? b = none) : TablesOut w h0 (.ref tb) h := by
  rw [show putAll condT = dOf condT from by kernel_rfl] at fc
  refine ⟨tb, c, st, fl, lk, al, n, k, vlk, oc, ost, ofl, oal, tups, kc, kf, ka, kvs, rfl, fun q hq => ?_, ⟨hc, fc, sc, hst, pst, sst, hfl, ff, sfl, hal, fa, sal, hv⟩⟩
  have hq' : q ∈ (tb, listOf #[.ref c, .ref st, .ref fl, .ref lk, .ref al] n) :: (lk, listOf (List.toArray vlk) k) :: (fl, ofl) :: j1 :: j2 :: j3 :: j4 :: (al, oal) :: (st, ost) :: (c, oc) :: tups := by
    unfold tabL at hq
    rcases List.mem_cons.mp hq with h | hq
    · exact h ▸ .head _
    rcases List.mem_cons.mp hq with h | hq
    · exact h ▸ .tail _ (.head _)
    rcases List.mem_cons.mp hq with h | hq
    · exact h ▸ .tail _ (.tail _ (.head _))
    rcases List.mem_cons.mp hq with h | hq
    · exact h ▸ .tail _ (.tail _ (.tail _ (.tail _ (.tail _ (.tail _ (.tail _ (.head _)))))))
    rcases List.mem_cons.mp hq with h | hq
    · exact h ▸ .tail _ (.tail _ (.tail _ (.tail _ (.tail _ (.tail _ (.tail _ (.tail _ (.head _))))))))
    rcases List.mem_cons.mp hq with h | hq
    · exact h ▸ .tail _ (.tail _ (.tail _ (.tail _ (.tail _ (.tail _ (.tail _ (.tail _ (.tail _ (.head _)))))))))
    · exact .tail _ (.tail _ (.tail _ (.tail _ (.tail _ (.tail _ (.tail _ (.tail _ (.tail _ (.tail _ hq)))))))))
  exact ⟨(N q hq').1, hn _ (N q hq').2.2⟩
theorem alias_three {i : Nat} {p : Str × Str} (h : otherT[i]? = some p) : aliasesT.take (6 + 3 * (i + 1)) = aliasesT.take (6 + 3 * i) ++ [(Str.ofString "j" ++ p.1, Str.ofString "j" ++ p.2), (Str.ofString "set" ++ p.1, Str.ofString "set" ++ p.2), (Str.ofString "cmov" ++ p.1, Str.ofString "cmov" ++ p.2)] := by
  have hi : i < 14 := (List.getElem?_eq_some_iff.mp h).1
  have q : ((List.range 14).all fun i => match otherT[i]? with
    | some p => decide (aliasesT.take (6 + 3 * (i + 1)) = aliasesT.take (6 + 3 * i) ++ [(Str.ofString "j" ++ p.1, Str.ofString "j" ++ p.2), (Str.ofString "set" ++ p.1, Str.ofString "set" ++ p.2), (Str.ofString "cmov" ++ p.1, Str.ofString "cmov" ++ p.2)])
    | none => true) = true := by decide +kernel
  have := List.all_eq_true.mp q i (List.mem_range.mpr hi)
  rw [h] at this
  exact of_decide_eq_true this
noncomputable def LtJ2 (w : World) (news : List (Addr × Obj)) (i : Nat) (nx : List (Addr × Obj)) : Prop :=
  ∃ a b c d e ds os0 os tups kvs, news = [a, b, c, d, (ds, os0), e] ∧ nx = a :: b :: c :: d :: (ds, os) :: e :: tups ∧ os.IsDictOf (strKind PySem.Challenge.rw_pq0793_01.row.prog w) kvs ∧ PairsIn tups kvs (stringT.take (4 * i)) ∧ (∀ q ∈ tups, @Ne Nat q.1 ds) ∧ (∀ q ∈ tups, @Ne Nat q.1 d.1)
theorem allNe2 {I : Addr} : ∀ {l : List (Addr × Obj)}, (∀ p ∈ l, p.1 ≠ I) → AllNe I l
  | [], _ => trivial
  | p :: r, h => ⟨h p (.head _), allNe2 fun q hq => h q (.tail _ hq)⟩
structure LtAll (I : Addr) (l : List (Addr × Obj)) : Prop where
  h : ∀ p ∈ l, p.1 < I
structure OffTail (I : Addr) (l : List (Addr × Obj)) : Prop where
  h : ∀ p ∈ l, @Ne Nat p.1 I
structure NeAll (I : Addr) (l : List (Addr × Obj)) : Prop where
  h : ∀ p ∈ l, p.1 ≠ I
theorem off0 {I : Addr} {nx old : List (Addr × Obj)} (h : LtAll I old) (e : nx.map (·.1) = old.map (·.1)) : ∀ q ∈ nx, q.1 ≠ I := fun q hq => by
  have h1 : q.1 ∈ old.map (·.1) := e ▸ List.mem_map.mpr ⟨q, hq, rfl⟩
  obtain ⟨p, hp, e2⟩ := List.mem_map.mp h1
  exact e2 ▸ Nat.ne_of_lt (h.h p hp)
theorem off1 {I a : Addr} {nx old : List (Addr × Obj)} (h : LtAll I old) (e : nx.map (·.1) = a :: old.map (·.1)) (ha : a ≠ I) : ∀ q ∈ nx, q.1 ≠ I := fun q hq => by
  have h1 : q.1 ∈ a :: old.map (·.1) := e ▸ List.mem_map.mpr ⟨q, hq, rfl⟩
  rcases List.mem_cons.mp h1 with e1 | h1
  · exact e1 ▸ ha
  · obtain ⟨p, hp, e2⟩ := List.mem_map.mp h1
    exact e2 ▸ Nat.ne_of_lt (h.h p hp)
theorem off2 {I a b : Addr} {nx old : List (Addr × Obj)} (h : LtAll I old) (e : nx.map (·.1) = a :: b :: old.map (·.1)) (ha : a ≠ I) (hb : b ≠ I) : ∀ q ∈ nx, q.1 ≠ I := fun q hq => by
  have h1 : q.1 ∈ a :: b :: old.map (·.1) := e ▸ List.mem_map.mpr ⟨q, hq, rfl⟩
  rcases List.mem_cons.mp h1 with e1 | h1
  · exact e1 ▸ ha
  · rcases List.mem_cons.mp h1 with e1 | h1
    · exact e1 ▸ hb
    · obtain ⟨p, hp, e2⟩ := List.mem_map.mp h1
      exact e2 ▸ Nat.ne_of_lt (h.h p hp)
theorem off3 {I a b c : Addr} {nx old : List (Addr × Obj)} (h : LtAll I old) (e : nx.map (·.1) = a :: b :: c :: old.map (·.1)) (ha : a ≠ I) (hb : b ≠ I) (hc : c ≠ I) : ∀ q ∈ nx, q.1 ≠ I := fun q hq => by
  have h1 : q.1 ∈ a :: b :: c :: old.map (·.1) := e ▸ List.mem_map.mpr ⟨q, hq, rfl⟩
  rcases List.mem_cons.mp h1 with e1 | h1
  · exact e1 ▸ ha
  · rcases List.mem_cons.mp h1 with e1 | h1
    · exact e1 ▸ hb
    · rcases List.mem_cons.mp h1 with e1 | h1
      · exact e1 ▸ hc
      · obtain ⟨p, hp, e2⟩ := List.mem_map.mp h1
        exact e2 ▸ Nat.ne_of_lt (h.h p hp)
theorem LtAll.off {I : Addr} {l l' : List (Addr × Obj)} (h : LtAll I l) (s : ∀ q ∈ l', q ∈ l) : ∀ q ∈ l', q.1 ≠ I := fun q hq => Nat.ne_of_lt (h.h q (s q hq))
theorem NeAll.off {I : Addr} {l l' : List (Addr × Obj)} (h : NeAll I l) (s : ∀ q ∈ l', q ∈ l) : ∀ q ∈ l', q.1 ≠ I := fun q hq => h.h q (s q hq)
theorem allNe_tail2 {I : Addr} : ∀ {l : List (Addr × Obj)}, AllNe I l → ∀ q ∈ l, q.1 ≠ I
  | [], _, q, hq => nomatch hq
  | p :: r, h, q, hq => by
    rcases List.mem_cons.mp hq with rfl | hq
    · exact h.1
    · exact allNe_tail2 h.2 q hq
section
variable {h₀ h' : Heap} {L : Addr} {m₀ m' : Str → Option Value} {x : Str} {stored : List Str} {J : List (Addr × Obj) → Prop} {t1 t2 t3 t4 j1 j2 j3 j4 j5 p a b c d f e : Addr × Obj} {tups : List (Addr × Obj)} {s₁ : Shared} {tk : Nat}
theorem endFour (F : Fr h₀ L h' m') (N : News h₀ L h' (t4 :: t3 :: t2 :: t1 :: j1 :: j2 :: j3 :: j4 :: j5 :: p :: a :: b :: c :: d :: f :: e :: tups)) (hm : ∀ y, y ≠ x → stored.contains y = false → m' y = m₀ y)
    (off : ∀ q ∈ a :: b :: c :: d :: f :: e :: t4 :: t3 :: t2 :: t1 :: tups, q.1 ≠ p.1) (hJ : J (a :: b :: c :: d :: f :: e :: t4 :: t3 :: t2 :: t1 :: tups)) : EndG h₀ L x stored m₀ J p s₁ { s₁ with heap := h', toks := tk } := by
  refine ⟨h', tk, m', _, rfl, F, fun q hq => N q ?_, off, hm, hJ⟩
  simp only [List.mem_cons] at hq ⊢
  rcases hq with h | h | h | h | h | h | h | h | h | h | h | h <;> simp [h]
end
theorem cond_three {i : Nat} {e : Str} (h : condsL[i]? = some e) : condT.take (3 * (i + 1)) = condT.take (3 * i) ++ [(Str.ofString "j" ++ e, e), (Str.ofString "set" ++ e, e), (Str.ofString "cmov" ++ e, e)] := by
  have hi : i < 16 := (List.getElem?_eq_some_iff.mp h).1
  have k : ∀ i < 16, ∀ e, condsL[i]? = some e → condT.take (3 * (i + 1)) = condT.take (3 * i) ++ [(Str.ofString "j" ++ e, e), (Str.ofString "set" ++ e, e), (Str.ofString "cmov" ++ e, e)] := by
    have q : ((List.range 16).all fun i => match condsL[i]? with
      | some e => decide (condT.take (3 * (i + 1)) = condT.take (3 * i) ++ [(Str.ofString "j" ++ e, e), (Str.ofString "set" ++ e, e), (Str.ofString "cmov" ++ e, e)])
      | none => true) = true := by decide +kernel
    intro i hi e he
    have := List.all_eq_true.mp q i (List.mem_range.mpr hi)
    rw [he] at this
    exact of_decide_eq_true this
  exact k i hi e h
theorem News.tl {h₀ h : Heap} {L : Addr} {a : Addr × Obj} {l : List (Addr × Obj)} (N : News h₀ L h (a :: l)) : News h₀ L h l := fun q hq => N q (.tail _ hq)
theorem put_three (t : List (Str × Str)) (a b c : Str × Str) : putAll (t ++ [a, b, c]) = putD (.str c.1) (.str c.2) (putD (.str b.1) (.str b.2) (putD (.str a.1) (.str a.2) (putAll t))) := by simp [putAll]
theorem put_line0 {D : List (PyData × PyData)} (h : D.length ≤ 100) : D.length ≤ sizeLine := by rw [sizeLine_eq]; omega
theorem put_line1 {D : List (PyData × PyData)} {a b : PyData} (h : D.length ≤ 100) : (putD a b D).length ≤ sizeLine := by have := putD_length_le a b D; rw [sizeLine_eq]; omega
theorem put_line2 {D : List (PyData × PyData)} {a b c d : PyData} (h : D.length ≤ 100) : (putD a b (putD c d D)).length ≤ sizeLine := by have := putD_length_le c d D; have := putD_length_le a b (putD c d D); rw [sizeLine_eq]; omega
structure ForFour : Prop where
structure ForThree : Prop where
section
variable {h₀ h' : Heap} {L : Addr} {m' : Str → Option Value} {p : Addr × Obj} {nx keep : List (Addr × Obj)} {s₁ : Shared} {tk : Nat} {rest : (Str → Option Value) → List (Addr × Obj) → Prop}
theorem unrEnd0 {L₂ : Addr} (hL : L₂ = L) (F : Fr h₀ L₂ h' m') (N : News h₀ L₂ h' (p :: nx)) (offs : ∀ q ∈ nx, q.1 ≠ p.1) (kp : SubL keep nx) (r : rest m' nx) : UnrEndW h₀ L s₁ [p] (fun m' n' => SubL keep n' ∧ rest m' n') { s₁ with heap := h', toks := tk } := by
  subst hL
  exact ⟨h', tk, m', nx, rfl, F, fun q hq => by
    rcases List.mem_append.mp hq with hq | hq
    · rw [List.mem_singleton.mp hq]; exact N _ (.head _)
    · exact N _ (.tail _ hq), fun q hq q' hq' => by rw [List.mem_singleton.mp hq']; exact offs q hq, kp, r⟩
end
section
variable {h₀ h' : Heap} {L : Addr} {m' : Str → Option Value} {t p : Addr × Obj} {nx keep : List (Addr × Obj)} {s₁ : Shared} {tk : Nat} {rest : (Str → Option Value) → List (Addr × Obj) → Prop}
theorem unrEnd1 {L₂ : Addr} (hL : L₂ = L) (F : Fr h₀ L₂ h' m') (N : News h₀ L₂ h' (t :: p :: nx)) (o1 : t.1 ≠ p.1) (offs : ∀ q ∈ nx, q.1 ≠ p.1) (kp : SubL keep (t :: nx)) (r : rest m' (t :: nx)) : UnrEndW h₀ L s₁ [p] (fun m' n' => SubL keep n' ∧ rest m' n') { s₁ with heap := h', toks := tk } := by
  subst hL
  exact ⟨h', tk, m', t :: nx, rfl, F, fun q hq => by
    rcases List.mem_append.mp hq with hq | hq
    · rw [List.mem_singleton.mp hq]; exact N _ (.tail _ (.head _))
    · rcases List.mem_cons.mp hq with rfl | hq
      · exact N _ (.head _)
      · exact N _ (.tail _ (.tail _ hq)), fun q hq q' hq' => by
    rw [List.mem_singleton.mp hq']
    rcases List.mem_cons.mp hq with rfl | hq
    · exact o1
    · exact offs q hq, kp, r⟩
end
local macro_rules | `(tactic| walk_at "pyIter ref") => `(tactic| (k_here; (fail_if_success (rename InTest => xT')); (with_reducible show wpAny _ _ (pyIter (Value.ref _)) (fun it s₂ => LoopAtV _ _ _ _ _ _ _ _ _ it s₂) _ _); k_dflt (refine Stop.go ?_)))
local macro_rules | `(tactic| walk_at "pyIter ref") => `(tactic| (k_here; (with_reducible show wpAny _ _ (pyIter (Value.ref _)) (fun it s₂ => TurnsAt _ _ _ _ _ _ _ _ _ it s₂) _ _); (rename ForFour => x4'); (rename Fr _ _ _ _ => lF'); (rename News _ _ _ _ => lN'); k_dflt ((with_unfolding_all refine iter_tupTurns (vs := [_, _, _, _]) (by rfl) lF' lN' (by k_mem) (by rfl) (by rfl) ?_); clear lF'; intro i' l1; have lA' := LtAll.mk l1; (try k_lt l1))))
local macro_rules | `(tactic| k_all) => `(tactic| first | ((fail_if_success (with_reducible refine List.forall_mem_cons.mpr ?_)); (rename OffTail _ _ => lA'); exact lA'.h) | fail "k_all tail")
local macro_rules | `(tactic| walk_at "pyIter ref") => `(tactic| (k_here; (with_reducible show wpAny _ _ (pyIter (Value.ref _)) (fun it s₂ => TurnsAt _ _ _ _ _ _ _ _ _ it s₂) _ _); (rename ForThree => x3'); (rename Fr _ _ _ _ => lF'); (rename News _ _ _ _ => lN'); k_dflt ((with_unfolding_all refine iter_tupTurns (vs := [_, _, _]) (by rfl) lF' lN' (by k_mem) (by rfl) (by rfl) ?_); clear lF'; intro i' l1; have lA' := LtAll.mk l1; (try k_lt l1))))
theorem lines_LtA_1 : True := by
  w_top off
  k_with_none
  k_with "call ref" => (k_here; (with_reducible show wpAny _ _ (call (Value.ref 209) _) _ _ _); k_dflt ((rename News _ _ _ _ => nOld); (first | refine' Pure.use (law_pairs_o _ _) ?qq74B ?qq74F ?qq74X ?qq74N ?qq74T ?qq74k ?qq74d ?qq74u True.intro ?_ | refine' Pure.use (law_pairs_e _ _) ?qq74B ?qq74F ?qq74X ?qq74N ?qq74T ?qq74k ?qq74d ?qq74u True.intro ?_ | refine' Pure.use (law_pairs_f _ _) ?qq74B ?qq74F ?qq74X ?qq74N ?qq74T ?qq74k ?qq74d ?qq74u True.intro ?_); (case qq74B => k_asm); (case qq74F => k_asm); (case qq74X => k_asm); (case qq74N => k_asm); (case qq74T => k_asm); (case qq74k => first | rfl | assumption); (case qq74d => ktr_room); (case qq74u => ktr_units); intro r9 h9 tk9 F9 N9 st9 fr9 hO9; obtain ⟨d9, o9, kvs9, hr9, hget9, hnone9, hsys9, hdo9, hfp9⟩ := hO9; subst hr9; have ap9 := allNe_of nOld hnone9; simp only [AllNe, and_true] at ap9; replace N9 := news_add N9 fr9 hget9 hnone9; clear fr9 st9; (try dsimp only); (try k_fold)))
  k_with "setItem ref str" => (k_here; (rename (List.length (putAll _) ≤ 100) => hL9'); k_dflt (refine' setItem_K PyProof.V.same_str (strKind_is _ _ _ _) ?qq75v ?qq75F ?qq75N ?qq75U ?qq75d ?qq75f ?_ ?qq75z; (case qq75F => k_asm); (case qq75N => k_asm); (case qq75U => k_updF); (case qq75d => k_asm); (case qq75f => k_asm); (case qq75z => ((rename (List.length _ ≤ 100) => hL'); first | exact put_line0 hL' | exact put_line1 hL' | exact put_line2 hL')); (case qq75v => k_flat)); intro h' o' F' N' hd' hf'; (try dsimp only at N'))
  k_with "exec For Name Call cons nil" => (k_here; (fail_if_success (rename InTest => xT')); (rename Fr _ _ _ _ => lF'); k_dflt (with_unfolding_all refine' For_invVF lF' ?qq76k1 ?qq76k2 ?_; (case qq76k1 => exact rfl); (case qq76k2 => exact rfl); k_whole))
  k_with "exec For Name Name cons nil" => (k_here; (fail_if_success (rename InTest => xT')); (rename Fr _ _ _ _ => lF'); k_dflt (with_unfolding_all refine' For_invVF lF' ?qq77k1 ?qq77k2 ?_; (case qq77k1 => exact rfl); (case qq77k2 => exact rfl); k_whole))
  k_with "exec For Name Tuple cons nil" => (k_here; (fail_if_success (rename InTest => xT')); (rename Fr _ _ _ _ => lF'); k_dflt (with_unfolding_all refine' For_invVF lF' ?qq78k1 ?qq78k2 ?_; (case qq78k1 => exact rfl); (case qq78k2 => exact rfl); k_whole))
  k_with "exec For Tuple Tuple cons nil" => (k_here; (rename Fr _ _ _ _ => lF'); (with_reducible refine' For_turns lF' ?_ ?qq79hs ?qq79hE); k_dflt ((case qq79hs => (intro _; rfl)); (case qq79hE => passes_own); k_whole))
  k_with "UnrEndW" => ((rename ForFour => x4'); (rename News _ _ _ _ => lN'); (rename Fr _ _ _ _ => lF'); (with_reducible refine' unrEnd1 ?qq80L lF' lN' ?qq80o ?qq80s ?qq80kp ?_); k_dflt ((case qq80L => rfl); (case qq80o => k_ne); (case qq80s => ((rename LtAll _ _ => lA'); first | exact off0 lA' rfl | (refine off1 lA' rfl ?_; k_ne) | (refine off2 lA' rfl ?_ ?_; all_goals k_ne) | (refine off3 lA' rfl ?_ ?_ ?_; all_goals k_ne))); (case qq80kp => k_subL)))
  k_with "setItem ref str ref" => (k_here; (rename ForFour => x4'); (rename (List.length _ ≤ 100) => hL'); k_dflt ((refine' kda_set (knd := PySem.strKind _ _) ?qq81F ?qq81N ?qq81U ?qq81d (strKind_is _ _ _ _) ?qq81z ?_); (case qq81F => k_asm); (case qq81N => k_asm); (case qq81U => k_updF); (case qq81d => k_asm); (case qq81z => first | exact kv_line hL' | exact kv_line1 hL' | exact kv_line2 hL' | exact kv_line3 hL'); k_whole; intro h' o' F' N' hd'))
  k_with "exec For Name Tuple cons nil" => (k_here; (rename ForThree => x3'); (rename Fr _ _ _ _ => lF'); (with_reducible refine' For_turns lF' ?_ ?qq82hs ?qq82hE); k_dflt ((case qq82hs => (intro _; rfl)); (case qq82hE => passes_own); k_whole))
  k_with "UnrEndW" => ((rename ForThree => x3'); (rename News _ _ _ _ => lN'); (rename Fr _ _ _ _ => lF'); (with_reducible refine' unrEnd0 ?qq83L lF' lN' ?qq83s ?qq83kp ?_); k_dflt ((case qq83L => rfl); (case qq83s => ((rename LtAll _ _ => lA'); exact off0 lA' rfl)); (case qq83kp => k_subL)))
  k_with "subscriptTail" => (k_here; (with_reducible show wpAny _ _ (subscriptTail _ _ (Value.ref _) (Value.str _ _)) _ _ _); (rename (look _ _ = some _) => hv9); k_dflt (refine' item_look ?qq84T hv9 ?_; (case qq84T => k_tabat); k_whole; intro t9))
  k_with "call builtin:str.split" => (k_here; k_dflt (refine' split_const ?qq85zzF ?qq85zzN ?qq85zzy ?qq85zze ?qq85zzz ?_; (case qq85zzF => k_asm); (case qq85zzN => k_asm); (case qq85zzy => decide +kernel); (case qq85zze => first | exact ends_split | exact lock_split); (case qq85zzz => decide +kernel); k_whole); intro D' vs' h' tk' F' N' l1' hA'; (try k_lt l1'))
  trivial
set_option maxRecDepth 100000 in
set_option maxHeartbeats 8000000 in
theorem law_tables_c (w : World) : Pure w 12 216 [] (fun _ => True) (TablesOut w) := by
  unfold Pure
  k_fill
  intro mean mg mb dp un gd cn cs a ccd cl outer A₀ base h₀ L m s Q E B F X T hk hd hu hP hret
  refine wpAny_call ?_
  k_dflt (refine' enterG (binds := []) ?k1 ?k2 ?k3 News.nil ?k5 ?kA ?kF ?kK ?k6 ?k7 ?k8 ?k9 ?kB ?_ ?c2 ?c3 ?c4 ?c5; (case kA => exact rfl); (case kF => exact rfl); (case kK => assumption); (case k1 => k_asm); (case k2 => k_asm); (case k3 => k_asm); (case k5 => k_asm); (case k6 => k_is); (case k7 => k_is); (case k8 => ktr_room); (case k9 => exact BindsTo.of_eq rfl); (case c5 => decide); (case kB => exact locs rfl); (case c2 => exact rfl); (case c3 => exact rfl); (case c4 => exact rfl); k_whole; intro g' L' h' hG hG2 FG' F' N' B' X' T'; (try dsimp only); (try k_lift B'); (try k_fold))
  k_steps
  rename (StrsAre _ condsL) => hcL
  rename (News _ _ _ [(_, _), (_, _), (_, _), (_, _), (_, _)]) => N1
  rename (Fr _ _ _ _) => F1
  refine Stop.mk ?_
  with_unfolding_all refine' iterL [Str.ofString "stem"] (LtJ1 w) ?hh F1 N1 (.head _) (by rfl) (by rfl) ?hj ?src ?turn ?done
  case hh => rfl
  case hj => exact ⟨_, _, _, _, _, _, _, _, _, _, _, _, rfl, rfl, by assumption, FlatPairs.nil⟩
  case src => rintro i nx ⟨_, _, _, _, _, _, _, _, _, _, _, _, e, rfl, _⟩; cases e; exact .head _
  case turn =>
    intro i v u news₁ h tk I oI hv hadr hI hJ F2 N2
    obtain ⟨_, _, _, _, _, _, _, _, _, _, oc1, kvs1, e, rfl, hd1, hf1⟩ := hJ
    cases e
    obtain ⟨en, te, rfl, hen⟩ := strs_nth hcL hv
    have henl : en.length ≤ 8 := (show ∀ x ∈ condsL, x.length ≤ 8 by decide +kernel) en (List.mem_of_getElem? hen)
    have hi4 : i < 16 := (List.getElem?_eq_some_iff.mp hen).1
    have hL : (putAll (condT.take (3 * i))).length ≤ 100 := Nat.le_trans (putAll_length _) (by rw [List.length_take]; omega)
    have xT9 : InTest := ⟨⟩
    clear hadr F1 N1
    k_lt hI
    (try dsimp only)
    (try k_fold)
    k_steps
    rename (News _ _ _ _) => N9
    rename (Fr _ _ _ _) => F9
    rename (FlatPairs _ _ (putD _ _ (putD _ _ (putD _ _ _)))) => hf9
    rename (Obj.IsDictOf (PySem.strKind _ _) _ (PySem.stored (PySem.stored (PySem.stored _ _ _) _ _) _ _)) => hd9
    refine endJ F9 (News.tl N9) (by intro y h1 h2; simp at h2; simp [h1, h2]) rfl ⟨_, _, _, _, _, _, _, _, _, _, _, _, rfl, rfl, hd9, ?_⟩
    rw [cond_three hen, put_three]
    exact hf9
  case done =>
    intro u news₁ h tk hadr hJ F2 N2
    obtain ⟨_, _, _, _, _, _, _, _, _, _, oc1, kvs1, e, rfl, hd1, hf1⟩ := hJ
    cases e
    clear hadr F1 N1
    rw [StrsAre.length hcL, show 3 * condsL.length = 48 from rfl, show condT.take 48 = condT from rfl] at hf1
    (try dsimp only)
    (try k_fold)
    k_steps
    rename (News _ _ _ [(_, _), (_, _), (_, _), (_, _), (_, _), (_, _)]) => N3
    rename (Fr _ _ _ _) => F3
    refine Stop.mk ?_
    with_unfolding_all refine' iterTg [Str.ofString "letter", Str.ofString "bits"] (LtJ2 w) ?hh2 F3 N3 (.head _) (by rfl) (by rfl) ?hj2 ?src2 ?turn2 ?done2
    case hh2 => rfl
    case hj2 => exact ⟨_, _, _, _, _, _, _, _, [], [], rfl, rfl, by assumption, trivial, (fun q hq => nomatch hq), (fun q hq => nomatch hq)⟩
    case src2 => rintro i nx ⟨_, _, _, _, _, _, _, _, _, _, e, rfl, _⟩; cases e; exact .head _
    case turn2 =>
      intro i v u news₁ h tk I oI hv hI hJ F4 N4
      obtain ⟨_, _, _, _, _, _, _, os4, tups, kvs4, e, rfl, hd4, hp4, hgt, hga⟩ := hJ
      cases e
      obtain ⟨st, ts, rfl, hst⟩ := StrVals.at (l := fiveL) (by exact ⟨rfl, rfl, rfl, rfl, rfl, True.intro⟩) hv
      obtain ⟨e4, q1, q2, q3, q4⟩ := string_four hst
      have hstl : st.length ≤ 8 := (show ∀ x ∈ fiveL, x.length ≤ 8 by decide +kernel) st (List.mem_of_getElem? hst)
      have hi4 : i < 5 := (List.getElem?_eq_some_iff.mp hst).1
      have hL : kvs4.length ≤ 100 := by rw [hp4.length, List.length_take]; omega
      have x4 : ForFour := ⟨⟩
      have hI4 := allNe2 hI
      have hI5 := NeAll.mk hI
      have hgt5 := OffTail.mk hgt
      simp only [AllNe] at hI4
      clear hI F3 N3
      (try dsimp only)
      (try k_fold)
      k_steps
      rename (News _ _ _ _) => N9
      rename (Fr _ _ _ _) => F9
      rename (Obj.IsDictOf (PySem.strKind _ _) _ (PySem.stored (PySem.stored (PySem.stored (PySem.stored _ _ _) _ _) _ _) _ _)) => hd9
      show EndG _ _ _ _ _ _ _ _ _
      refine endFour F9 N9 (by intro y h1 h2; simp at h2; simp [h1, h2]) ?off9 ⟨_, _, _, _, _, _, _, _, _, _, rfl, rfl, hd9, ?_, ?_, ?_⟩
      case off9 =>
        (iterate 10 (refine List.forall_mem_cons.mpr ⟨?_, ?_⟩; k_ne))
        exact NeAll.off hI5 (fun q hq => .tail _ (.tail _ (.tail _ (.tail _ (.tail _ (.tail _ hq))))))
      · rw [e4]
        exact PairsIn.store (PairsIn.store (PairsIn.store (PairsIn.store (PairsIn.mono (fun q hq => .tail _ (.tail _ (.tail _ (.tail _ hq)))) hp4) q1 (.tail _ (.tail _ (.tail _ (.head _))))) q2 (.tail _ (.tail _ (.head _)))) q3 (.tail _ (.head _))) q4 (.head _)
      · (iterate 4 (refine List.forall_mem_cons.mpr ⟨?_, ?_⟩; k_ne))
        exact hgt
      · (iterate 4 (refine List.forall_mem_cons.mpr ⟨?_, ?_⟩; k_ne))
        exact hga
    case done2 =>
      intro u2 news₁ h tk hJ F4 N4
      obtain ⟨_, _, _, _, _, _, _, os4, tups, kvs4, e, rfl, hd4, hp4, hgt, hga⟩ := hJ
      cases e
      clear F3 N3
      rw [show 4 * List.length _ = 20 from rfl, show stringT.take 20 = stringT from rfl] at hp4
      (try dsimp only)
      (try k_fold)
      k_steps
      rename (News _ _ _ _) => N5
      rename (Fr _ _ _ _) => F5
      rename (FlatPairs PyData.str _ (dOf otherT)) => hfO
      rename (FlatPairs PyData.str _ (dOf othersT)) => hfA
      refine Stop.mk ?_
      with_unfolding_all refine' iterD [Str.ofString "stem"] (LtJ3 w) ?hh3 F5 N5 (.head _) (by assumption) (by assumption) ?hj3 ?src3 ?turn3 ?done3
      case hh3 => rfl
      case hj3 => exact ⟨_, _, _, _, _, _, _, _, _, _, _, rfl, rfl, by assumption, (show putAll (aliasesT.take (6 + 3 * 0)) = dOf othersT from by kernel_rfl) ▸ hfA⟩
      case src3 => rintro i nx ⟨_, _, _, _, _, _, _, _, _, _, _, e, rfl, _⟩; cases e; exact .head _
      case turn3 =>
        intro i k y v u3 news₁ h tk I oI hkv hkis hadr hI hJ F6 N6
        obtain ⟨_, _, _, _, _, _, oa1, _, _, _, kvs1, e, rfl, hdA, hfA1⟩ := hJ
        cases e
        obtain ⟨p, hp, rfl⟩ := flat_key hfO hkv
        obtain ⟨t, rfl⟩ := is_str hkis
        have hv9 := look_at (tbl := otherT) (by decide +kernel) hp
        obtain ⟨hl1, hl2⟩ := len_at (tbl := otherT) (by decide +kernel) hp
        have hi9 : i < 14 := (List.getElem?_eq_some_iff.mp hp).1
        have hL : (putAll (aliasesT.take (6 + 3 * i))).length ≤ 100 := Nat.le_trans (putAll_length _) (by rw [List.length_take]; omega)
        have x3 : ForThree := ⟨⟩
        have xT9 : InTest := ⟨⟩
        have hga5 := OffTail.mk hga
        clear hadr F5 N5
        k_lt hI
        (try dsimp only)
        (try k_fold)
        k_steps
        rename (News _ _ _ _) => N9
        rename (Fr _ _ _ _) => F9
        rename (FlatPairs _ _ (putD _ _ (putD _ _ (putD _ _ _)))) => hf9
        rename (Obj.IsDictOf (PySem.strKind _ _) _ (PySem.stored (PySem.stored (PySem.stored _ _ _) _ _) _ _)) => hd9
        refine endJ F9 (News.tl N9) (by intro y h1 h2; simp at h2; simp [h1, h2]) rfl ⟨_, _, _, _, _, _, _, _, _, _, _, rfl, rfl, hd9, ?_⟩
        rw [alias_three hp, put_three]
        exact hf9
      case done3 =>
        intro u3 news₁ h tk hadr hJ F6 N6
        obtain ⟨_, _, _, _, _, _, oa1, _, _, _, kvs1, e, rfl, hdA, hfA1⟩ := hJ
        cases e
        clear hadr F5 N5
        rw [flat_length hfO, show aliasesT.take (6 + 3 * otherT.length) = aliasesT from by kernel_rfl, show putAll aliasesT = dOf aliasesT from by kernel_rfl] at hfA1
        (try dsimp only)
        (try k_fold)
        k_steps
        rename (News g' _ _ _) => N9
        rename (Fr g' _ _ _) => F9
        rename (FlatPairs PyData.str _ (dOf flowT)) => hfF
        rename (StrsAre _ lockedL) => hlk9
        refine hret _ _ _ (keep_of hG F9) (tables_out N9 hd1 hf1 (by assumption) hd4 hp4 (by assumption) (by assumption) hfF (by assumption) hdA hfA1 (by assumption) hlk9 (fun b e => fresh_of hG e))
end Mine
end
section
-- part LawD
open PySem PySem.W PySem.Calls PyProof.Rows PyProof.V PySem.Spec
namespace Mine
theorem strs_by : ∀ {vs : List Value} {L : List Str}, vs.length = L.length → (∀ (j : Nat) (u : Value), vs[j]? = some u → ∃ k t, L[j]? = some k ∧ u = Value.str k t) → StrsAre vs L
  | [], [], _, _ => .nil
  | v :: vs, k :: L, hl, hv => by
    obtain ⟨k', t, e, rfl⟩ := hv 0 v rfl
    have : k = k' := by simpa using e
    subst this
    exact .cons _ _ (strs_by (by simpa using hl) fun j u hu => by simpa using hv (j + 1) u (by simpa using hu))
  | [], _ :: _, hl, _ => by simp at hl
  | _ :: _, [], hl, _ => by simp at hl
theorem flat_map : ∀ {kvs : List (Str × Value)} {tbl : List (Str × Str)}, FlatPairs PyData.str kvs (dOf tbl) → kvs.map (·.1) = tbl.map (·.1)
  | [], [], _ => rfl
  | q :: r, p :: t, h => by
    cases h with
    | cons h1 h2 => rw [List.map_cons, List.map_cons, flat_map h2]
  | [], _ :: _, h => by cases h
  | _ :: _, [], h => by cases h
theorem pairs_map {nx : List (Addr × Obj)} : ∀ {kvs : List (Str × Value)} {l : List (Str × (Str × Int))}, PairsIn nx kvs l → kvs.map (·.1) = l.map (·.1)
  | [], [], _ => rfl
  | _ :: _, _ :: _, ⟨h1, _, h⟩ => by rw [List.map_cons, List.map_cons, h1, pairs_map h]
section
variable {prog : Program} {w : World} {A : Around} {E : Value → Shared → Prop} {s : Shared} {h₀ : Heap} {L d : Addr} {m : Str → Option Value} {news : List (Addr × Obj)} {Q : Value → Shared → Prop} {kvs : List (Str × Value)} {o : Obj}
theorem list_keysS (hh : A.handled = none) (F : Fr h₀ L s.heap m) (N : News h₀ L s.heap news) (hm : (d, o) ∈ news) (hd : o.IsDictOf (strKind prog w) kvs) (lo : (d == sysModules) = false) (hn : kvs.length ≤ 16777216)
    (h : ∀ (B : Addr) c h' tk vs, Fr h₀ L h' m → News h₀ L h' ((B, listOf (List.toArray vs) c) :: news) → (∀ q ∈ news, q.1 < B) → StrsAre vs (kvs.map (·.1)) → Q (.ref B) { s with heap := h', toks := tk }) :
    wpAny (model prog w) A (call (.type "list") [.ref d]) Q E s := by
  have hD : s.heap.DictOf (strKind prog w) d kvs := Heap.dictOf_iff.mpr ⟨o, (N _ hm).1, hd⟩
  obtain ⟨ep, hat⟩ := hD.dictAt
  refine kdl_N (kdl_dict (knd := strKind prog w) (kvs := kvs) (ep := ep) lo) hh F N hat (kdl_size hn) fun B c h' tk vs F' N' l1 hl hv => ?_
  refine h B c h' tk vs F' N' l1 (strs_by (by rw [hl, List.length_map]) fun j u hu => ?_)
  obtain ⟨k, x, hx, hk⟩ := hv j u hu
  obtain ⟨t, rfl⟩ := is_str hk
  exact ⟨k, t, by rw [List.getElem?_map, hx]; rfl, rfl⟩
end
end Mine
end
section
-- part LpR
open PySem PySem.W PySem.Calls PyProof.Rows PyProof.V PySem.Spec
namespace Mine
section
variable {prog : Program} {w : World} {A : Around} {E : Value → Shared → Prop} {s : Shared} {env : Env} {h₀ : Heap} {x : Str} {body : List Stmt} {Q : Flow → Shared → Prop}
theorem iterRg {r : Addr} {a₀ b₀ : Int} {t₀ u₀ v₀ : Tok} {n : Nat} {m₀ : Str → Option Value} {news : List (Addr × Obj)} (stored : List Str) (J : Nat → List (Addr × Obj) → Prop)
    (hh : A.handled = none) (hr : IsRange s.heap r a₀ b₀ 1 t₀ u₀ v₀) (hsmall : Builtin.Range.small a₀ b₀ 1 = true) (hn : Builtin.Range.rangeSize a₀ b₀ 1 = (n : Int)) (F : Fr h₀ env.locals s.heap m₀) (N : News h₀ env.locals s.heap news) (hj : J 0 news)
    (turn : ∀ i t (u : Str → Option Value) news₁ h tk I o, i < n → (∀ p ∈ news₁, p.1 ≠ I) → J i news₁ → Fr h₀ env.locals h (fun y => if y = x then some (.int (a₀ + (i : Int) * 1) t) else if stored.contains y then u y else m₀ y) → News h₀ env.locals h ((I, o) :: news₁) →
      wpAny (model prog w) A (execs body env) (PostG h₀ env.locals x stored m₀ (J (i + 1)) (I, o) { s with heap := h, toks := tk } Q) E { s with heap := h, toks := tk })
    (done : ∀ (u : Str → Option Value) news₁ h tk, J n news₁ → Fr h₀ env.locals h (fun y => if y = x then u y else if stored.contains y then u y else m₀ y) → News h₀ env.locals h news₁ → Q .next { s with heap := h, toks := tk }) :
    wpAny (model prog w) A (pyIter (.ref r)) (fun it s₂ => LoopAtV prog w A h₀ env x body Q E it s₂) E s := by
  refine wpAny_pyIter_range hr hsmall ?_
  have W : Walks prog w A s.heap.objs.size [s.heap.objs.size] [s.heap.objs.size] n (fun i v => i < n ∧ ∃ t, v = .int (a₀ + i * 1) t)
      (fun i h => IsRangeIter h s.heap.objs.size (a₀ + (i : Nat) * 1) ((n : Int) - (i : Nat)) 1) := (Walks.range hh _ a₀ 1 n).bound
  have hI0 := next_is_new F
  let J' : Nat → (Str → Option Value) → List (Addr × Obj) → Prop := fun i m₁ news₁ => (∀ y, y ≠ x → stored.contains y = false → m₁ y = m₀ y) ∧ J i news₁
  refine ⟨s.heap.objs.size, _, _, n, _, _, m₀, news, J', rfl, W, ?_, ?_, ?_, (by show IsRangeIter _ _ _ _ _; rw [hn]; simpa using Heap.get?_push_size _ rfl), F.push _, (fun p hp => ⟨Heap.get?_push_of_some _ (N p hp).1, (N p hp).2⟩), ⟨fun _ _ _ => rfl, hj⟩, ?_, ?_⟩
  · intro hm
    exact absurd F.ns.lt ((List.mem_singleton.mp hm) ▸ Nat.lt_irrefl _)
  · intro b hb
    rw [List.mem_singleton.mp hb]
    exact hI0
  · intro p hp hI
    exact absurd (Heap.lt_size (N p hp).1) ((List.mem_singleton.mp hI) ▸ Nat.lt_irrefl _)
  · rintro i v m₁ news₁ s₁ own ⟨hh', tk', rfl⟩ hin ⟨_, t, rfl⟩ ⟨hJm, hJ⟩ hoff hown hget hall hst F₁ N₁
    obtain ⟨o, hst'⟩ : ∃ o, hh'.get? s.heap.objs.size = some o := ⟨_, hst⟩
    have hio := hall s.heap.objs.size (List.mem_singleton.mpr rfl) hI0 _ hst'
    have e : (fun y => if y = x then some (Value.int (a₀ + (i : Int) * 1) t) else m₁ y) = fun y => if y = x then some (Value.int (a₀ + (i : Int) * 1) t) else if stored.contains y then m₁ y else m₀ y := by
      funext y
      by_cases h1 : y = x
      · simp [h1]
      · simp only [if_neg h1]
        cases h2 : stored.contains y with
        | true => simp
        | false => simp only [Bool.false_eq_true, if_false]; exact hJm y h1 h2
    rw [e] at F₁
    have N₂ : News h₀ env.locals hh' ((s.heap.objs.size, o) :: news₁) := fun p hp => by
      rcases List.mem_cons.mp hp with e | hp
      · exact N₁ p (List.mem_append_left _ (e ▸ hio))
      · exact N₁ p (List.mem_append_right _ hp)
    refine wpAny_mono (turn i t m₁ news₁ hh' tk' s.heap.objs.size o hin (fun p hp e => hoff p hp (List.mem_singleton.mpr e)) hJ F₁ N₂) (fun f s₂ p => ?_) fun _ _ e => e
    have fin : EndG h₀ env.locals x stored m₀ (J (i + 1)) (s.heap.objs.size, o) { s with heap := hh', toks := tk' } s₂ → LoopStepU h₀ env.locals [s.heap.objs.size] own (J' (i + 1)) { s with heap := hh', toks := tk' } .next s₂ := by
      rintro ⟨h', tk, m', nx, e, F', N', hne', hm', hJ'⟩
      refine ⟨rfl, h', tk, m', nx, e, F', fun p hp => ?_, fun p hp hI => hne' p hp (List.mem_singleton.mp hI), hm', hJ'⟩
      rcases List.mem_append.mp hp with h1 | h1
      · have h2 := N₁ p (List.mem_append_left _ h1)
        have e1 := List.mem_singleton.mp (hown p h1)
        have h3 := h2.1
        rw [e1, hst'] at h3
        have e2 : p = (s.heap.objs.size, o) := Prod.ext e1 (Option.some.inj h3).symm
        exact N' p (e2 ▸ .head _)
      · exact N' p (.tail _ h1)
    cases f with
    | ret v => exact .ret p
    | brk => exact .brk p
    | next => exact .next (fin p)
    | cont => exact .cont (fin p)
  · rintro h' tk m' news' F' N' _ ⟨hm', hJ⟩
    refine done m' news' h' tk hJ ?_ N'
    have e : (fun y => if y = x then m' y else if stored.contains y then m' y else m₀ y) = m' := by
      funext y
      by_cases h1 : y = x
      · simp [h1]
      · simp only [if_neg h1]
        cases h2 : stored.contains y with
        | true => simp
        | false => simp only [Bool.false_eq_true, if_false]; exact (hm' y h1 h2).symm
    rw [e]; exact F'
end
end Mine
end
section
-- part LawA
open PySem PySem.W PySem.Calls PyProof.Rows PyProof.V PySem.Spec
namespace Mine
theorem news_tabs {h₀ h h' : Heap} {L tb c st fl lk al : Addr} {n k : Nat} {vlk : List Value} {oc ost ofl oal : Obj} {tups news : List (Addr × Obj)} (N : News h₀ L h' news) (fr : ∀ b o, h'.get? b = some o → h.get? b = none → b ≠ L ∧ h₀.get? b = none)
    (hT : ∀ q ∈ tabL tb c st fl lk al n k vlk oc ost ofl oal tups, h'.get? q.1 = some q.2 ∧ h.get? q.1 = none) :
    News h₀ L h' ((tb, listOf #[.ref c, .ref st, .ref fl, .ref lk, .ref al] n) :: (lk, listOf (List.toArray vlk) k) :: (fl, ofl) :: (al, oal) :: (st, ost) :: (c, oc) :: (news ++ tups)) := by
  have key : ∀ q ∈ tabL tb c st fl lk al n k vlk oc ost ofl oal tups, h'.get? q.1 = some q.2 ∧ q.1 ≠ L ∧ h₀.get? q.1 = none := fun q hq => ⟨(hT q hq).1, fr _ _ (hT q hq).1 (hT q hq).2⟩
  intro q hq
  rcases List.mem_cons.mp hq with h | hq
  · exact h ▸ key _ (.head _)
  rcases List.mem_cons.mp hq with h | hq
  · exact h ▸ key _ (.tail _ (.head _))
  rcases List.mem_cons.mp hq with h | hq
  · exact h ▸ key _ (.tail _ (.tail _ (.head _)))
  rcases List.mem_cons.mp hq with h | hq
  · exact h ▸ key _ (.tail _ (.tail _ (.tail _ (.head _))))
  rcases List.mem_cons.mp hq with h | hq
  · exact h ▸ key _ (.tail _ (.tail _ (.tail _ (.tail _ (.head _)))))
  rcases List.mem_cons.mp hq with h | hq
  · exact h ▸ key _ (.tail _ (.tail _ (.tail _ (.tail _ (.tail _ (.head _))))))
  rcases List.mem_append.mp hq with hq | hq
  · exact N q hq
  · exact key _ (.tail _ (.tail _ (.tail _ (.tail _ (.tail _ (.tail _ hq))))))
structure PenOff (p : Addr) (l : List (Addr × Obj)) : Prop where
  h : ∀ q ∈ l, @Ne Nat q.1 p
theorem pen_off {g h h' : Heap} {L p : Addr} {o : Obj} {tups news : List (Addr × Obj)} (N : News g L h news) (hm : (p, o) ∈ news) {l : List (Addr × Obj)} (hT : ∀ q ∈ l, h'.get? q.1 = some q.2 ∧ h.get? q.1 = none) : ∀ q ∈ l, @Ne Nat q.1 p := fun q hq e => by
  have h1 := (hT q hq).2
  have h2 := (N _ hm).1
  rw [e] at h1
  rw [h1] at h2
  cases h2
structure KvLens (kc kvs kf : List (Str × Value)) : Prop where
  hc : kc.length ≤ 16777216
  hst : kvs.length ≤ 16777216
  hfl : kf.length ≤ 16777216
theorem kv_lens {w : World} {c st fl al : Addr} {vlk : List Value} {oc ost ofl oal : Obj} {tups : List (Addr × Obj)} {kc kf ka kvs : List (Str × Value)} (T : TabFacts w c st fl al vlk oc ost ofl oal tups kc kf ka kvs) : KvLens kc kvs kf :=
  ⟨by rw [flat_length T.fc]; exact Nat.le_of_ble_eq_true rfl, by rw [T.pst.length]; exact Nat.le_of_ble_eq_true rfl, by rw [flat_length T.ff]; exact Nat.le_of_ble_eq_true rfl⟩
section
variable {prog : Program} {w : World} {A : Around} {E : Value → Shared → Prop} {s : Shared} {h₀ : Heap} {L : Addr} {m : Str → Option Value} {news : List (Addr × Obj)} {Q : Value → Shared → Prop}
theorem strs_append {vs ws : List Value} {L1 L2 : List Str} (h1 : StrsAre vs L1) (h2 : StrsAre ws L2) : StrsAre (vs ++ ws) (L1 ++ L2) := by
  induction h1 with
  | nil => exact h2
  | cons y t _ ih => exact .cons _ _ ih
theorem add_strsK {l b : Addr} {vs ws : List Value} {n1 n2 : Nat} {L1 L2 : List Str} (F : Fr h₀ L s.heap m) (N : News h₀ L s.heap news) (m1 : (l, listOf (List.toArray vs) n1) ∈ news) (m2 : (b, listOf (List.toArray ws) n2) ∈ news) (h1 : StrsAre vs L1) (h2 : StrsAre ws L2) (hsz : L1.length + L2.length ≤ 1000)
    (h : ∀ D h', Fr h₀ L h' m → News h₀ L h' ((D, listOf (List.toArray (vs ++ ws)) 0) :: news) → (∀ q ∈ news, q.1 < D) → StrsAre (vs ++ ws) (L1 ++ L2) → Q (.ref D) { s with heap := h' }) :
    wpAny (model prog w) A (binaryOp .Add (.ref l) (.ref b)) Q E s :=
  add_lists (hsz := by rw [StrsAre.length h1, StrsAre.length h2, sizeLine_eq]; omega) F N (News.isList N m1) (News.isList N m2) fun h' F' N' => h _ h' F' N' (fun q hq => Heap.lt_size (N q hq).1) (strs_append h1 h2)
end
noncomputable def othSplit : List Str := [Str.ofString "sal", Str.ofString "shl", Str.ofString "loopz", Str.ofString "loope", Str.ofString "loopnz", Str.ofString "loopne", Str.ofString "repe", Str.ofString "rep", Str.ofString "repz", Str.ofString "rep", Str.ofString "repnz", Str.ofString "repne"]
theorem oth_split : Txt.split (Str.ofString "sal shl loopz loope loopnz loopne repe rep repz rep repnz repne") (Str.ofString " ") = othSplit := by decide +kernel
noncomputable def keptL (i : Nat) : List Str := ((aliasesT.take i).filter fun p => !(othSplit.any (· == p.1))).map (·.1)
theorem kept_no {ys : List Value} {i : Nat} {p : Str × Str} (hp : aliasesT[i]? = some p) (hn : (othSplit.any fun x => x == p.1) = true) (hJ : StrsAre ys (keptL i)) : StrsAre ys (keptL (i + 1)) := by
  unfold keptL at hJ ⊢
  rw [filter_take_f hp (by simp only [hn, Bool.not_true])]
  exact hJ
theorem kept_yes {ys : List Value} {i : Nat} {p : Str × Str} {t : Tok} (hp : aliasesT[i]? = some p) (hn : (othSplit.any fun x => x == p.1) = false) (hJ : StrsAre ys (keptL i)) : StrsAre (ys ++ [Value.str p.1 t]) (keptL (i + 1)) := by
  unfold keptL at hJ ⊢
  rw [filter_take_t hp (by simp only [hn, Bool.not_false]), List.map_append]
  exact StrsAre.snoc hJ _ _
theorem strs_getN {vs : List Value} {L : List Str} (h : StrsAre vs L) : ∀ j : Nat, (vs[j]? = none ∧ L[j]? = none) ∨ ∃ x t, vs[j]? = some (.str x t) ∧ L[j]? = some x := by
  induction h with
  | nil => intro j; exact .inl ⟨rfl, rfl⟩
  | cons y t _ ih =>
    intro j
    cases j with
    | zero => exact .inr ⟨y, t, rfl, rfl⟩
    | succ j => simpa using ih j
theorem strs_places {vs : List Value} {L : List Str} (h : StrsAre vs L) (js : List Nat) : StrsAre (js.filterMap (vs[·]?)) (js.filterMap (L[·]?)) := by
  induction js with
  | nil => exact .nil
  | cons j js ih =>
    rcases strs_getN h j with ⟨e1, e2⟩ | ⟨x, t, e1, e2⟩
    · simpa only [List.filterMap_cons, e1, e2] using ih
    · simpa only [List.filterMap_cons, e1, e2] using StrsAre.cons x t ih
noncomputable def pickS (L : List Str) (lo hi st : Option Int) : List Str :=
  (sliceRange (sliceBounds lo hi st L.length).1 (sliceBounds lo hi st L.length).2.1 (sliceBounds lo hi st L.length).2.2).filterMap (L[·]?)
theorem strs_pick {vs : List Value} {L : List Str} (h : StrsAre vs L) (lo hi st : Option Int) : StrsAre (slicePick vs.toArray lo hi st).toList (pickS L lo hi st) := by
  have e : (slicePick vs.toArray lo hi st).toList = (sliceRange (sliceBounds lo hi st L.length).1 (sliceBounds lo hi st L.length).2.1 (sliceBounds lo hi st L.length).2.2).filterMap (vs[·]?) := by
    simp [slicePick, StrsAre.length h]
  rw [e]
  exact strs_places h _
noncomputable def othEven : List Str := [Str.ofString "sal", Str.ofString "loopz", Str.ofString "loopnz", Str.ofString "repe", Str.ofString "repz", Str.ofString "repnz"]
section
variable {prog : Program} {w : World} {A : Around} {E : Value → Shared → Prop} {s : Shared} {h₀ : Heap} {L l : Addr} {m : Str → Option Value} {news : List (Addr × Obj)} {value slice : PySem.Expr} {vl vu vk : Value} {lo hi st : Option Int} {vs : List Value} {LL L2 : List Str} {n : Nat} {ops : List Value} {Q : Value → Shared → Prop}
theorem slice_strsK (F : Fr h₀ L s.heap m) (N : News h₀ L s.heap news) (hm : (l, listOf (List.toArray vs) n) ∈ news) (hS : StrsAre vs LL) (pl : IsPart vl lo) (pu : IsPart vu hi) (pk : IsPart vk st) (h0 : st ≠ some 0) (e : pickS LL lo hi st = L2)
    (h : ∀ D ws h', Fr h₀ L h' m → News h₀ L h' ((D, listOf (List.toArray ws) 0) :: news) → (∀ p ∈ news, p.1 < D) → StrsAre ws L2 → Q (.ref D) { s with heap := h' })
    (hs : subscripted slice false (.ref l) (.ref s.heap.objs.size) = operate ops (getItem (.ref l) (.ref s.heap.objs.size))) (hz : LL.length ≤ 1000) :
    wpAny (model prog w) A (subscriptTail value slice (.ref l) (.ref s.heap.objs.size)) Q E { s with heap := s.heap.push { cls := .type "slice", data := .fields #[vl, vu, vk] } } := by
  refine kba_turn (value' := PySem.Expr.Name (PySem.Str.ofString "_") ⟨0, 0, 0, 0⟩) (fun _ => rfl) ?_
  refine slice_list3 F N (News.isList N hm) pl pu pk h0 (fun h' F' N' => h _ (slicePick vs.toArray lo hi st).toList h' F' ?_ (fun p hp => Nat.lt_succ_of_lt (Heap.lt_size (N p hp).1)) (e ▸ strs_pick hS lo hi st)) hs (by intro _; rfl) (by rw [List.size_toArray, StrsAre.length hS, sizeLine_eq]; omega)
  rw [Array.toArray_toList]
  exact N'
end
structure TurnFacts (I p D : Addr) (rest : List (Addr × Obj)) : Prop where
  ip : @Ne Nat I p
  dp : @Ne Nat D p
  rp : ∀ q ∈ rest, @Ne Nat q.1 p
  ne : ∀ q ∈ rest, @Ne Nat q.1 I
  nd : @Ne Nat D I
theorem TurnFacts.upd {I p D : Addr} {rest : List (Addr × Obj)} (h : TurnFacts I p D rest) (o o' oI oD : Obj) : Upd p o o' ((I, oI) :: (p, o) :: (D, oD) :: rest) ((I, oI) :: (p, o') :: (D, oD) :: rest) :=
  .tail h.ip (.head fun q hq => by
    rcases List.mem_cons.mp hq with e | hq
    · rw [e]; exact h.dp
    · exact h.rp q hq)
structure NamesOk (vs : List Value) (NL : List Str) : Prop where
  s : StrsAre vs NL
  h0 : 0 < NL.length
  h1 : NL.length < 1000
  hN : ∀ x ∈ NL, 1 ≤ Str.length x ∧ Str.length x ≤ 16
noncomputable def LawJ (p : Addr) (rest : List (Addr × Obj)) (i : Nat) (nx : List (Addr × Obj)) : Prop :=
  ∃ a b c t u v n, PenOk (4 * i) a b c ∧ nx = (p, penObj a b c t u v n) :: rest
theorem news_pick {w : World} {NL : List Str} {kc kf ka kvs : List (Str × Value)} {h₀ h : Heap} {L p D tb lk c st fl al : Addr} {a0 b0 c0 : Int} {t0 u0 v0 : Tok} {n0 n k kD : Nat} {vs vlk : List Value} {oc ost ofl oal : Obj} {tups news : List (Addr × Obj)} (_T : TabFacts w c st fl al vlk oc ost ofl oal tups kc kf ka kvs) (_hS : NamesOk vs NL) (N : News h₀ L h news)
    (m1 : (p, penObj a0 b0 c0 t0 u0 v0 n0) ∈ news) (m2 : (D, listOf (List.toArray vs) kD) ∈ news) (m3 : (tb, listOf #[.ref c, .ref st, .ref fl, .ref lk, .ref al] n) ∈ news) (m4 : (lk, listOf (List.toArray vlk) k) ∈ news)
    (m5 : (fl, ofl) ∈ news) (m6 : (al, oal) ∈ news) (m7 : (st, ost) ∈ news) (m8 : (c, oc) ∈ news) (m9 : ∀ q ∈ tups, q ∈ news) :
    News h₀ L h ((p, penObj a0 b0 c0 t0 u0 v0 n0) :: (D, listOf (List.toArray vs) kD) :: tabL tb c st fl lk al n k vlk oc ost ofl oal tups) := by
  intro q hq
  apply N
  rcases List.mem_cons.mp hq with rfl | hq
  · exact m1
  rcases List.mem_cons.mp hq with rfl | hq
  · exact m2
  rcases List.mem_cons.mp hq with rfl | hq
  · exact m3
  rcases List.mem_cons.mp hq with rfl | hq
  · exact m4
  rcases List.mem_cons.mp hq with rfl | hq
  · exact m5
  rcases List.mem_cons.mp hq with rfl | hq
  · exact m6
  rcases List.mem_cons.mp hq with rfl | hq
  · exact m7
  rcases List.mem_cons.mp hq with rfl | hq
  · exact m8
  · exact m9 q hq
section
variable {prog : Program} {w : World} {A : Around} {E : Value → Shared → Prop} {s : Shared} {env : Env} {h₀ : Heap} {x : Str} {body : List Stmt} {Q : Flow → Shared → Prop}
theorem iterLaw {r p D : Addr} {t₀ u₀ v₀ : Tok} {m₀ : Str → Option Value} {rest : List (Addr × Obj)} {oD : Obj} {a0 b0 c0 : Int} {t0 u0 v0 : Tok} {n0 : Nat} (hpk : PenOk 0 a0 b0 c0) (po : PenOff p rest) (hD : @Ne Nat D p)
    (hh : A.handled = none) (hr : IsRange s.heap r 0 12 1 t₀ u₀ v₀) (F : Fr h₀ env.locals s.heap m₀) (N : News h₀ env.locals s.heap ((p, penObj a0 b0 c0 t0 u0 v0 n0) :: (D, oD) :: rest))
    (turn : ∀ i t' h tk I o a b c t u v n, i < 12 → PenOk (4 * i) a b c → TurnFacts I p D rest → Fr h₀ env.locals h (fun y => if y = x then some (.int (0 + (i : Int) * 1) t') else m₀ y) → News h₀ env.locals h ((I, o) :: (p, penObj a b c t u v n) :: (D, oD) :: rest) →
      wpAny (model prog w) A (execs body env) (PostG h₀ env.locals x [] m₀ (LawJ p ((D, oD) :: rest) (i + 1)) (I, o) { s with heap := h, toks := tk } Q) E { s with heap := h, toks := tk })
    (done : ∀ (u : Str → Option Value) news h tk, Fr h₀ env.locals h (fun y => if y = x then u y else m₀ y) → News h₀ env.locals h news → Q .next { s with heap := h, toks := tk }) :
    wpAny (model prog w) A (pyIter (.ref r)) (fun it s₂ => LoopAtV prog w A h₀ env x body Q E it s₂) E s := by
  refine iterRg [] (LawJ p ((D, oD) :: rest)) hh hr (by decide) (n := 12) (by decide) F N ⟨_, _, _, _, _, _, _, hpk, rfl⟩ ?_ ?_
  · rintro i t' u' news₁ h tk I o hi hne ⟨a, b, c, t, u, v, n, hpk', rfl⟩ F' N'
    exact turn i t' h tk I o a b c t u v n hi hpk' ⟨fun e => hne _ (.head _) e.symm, hD, po.h, fun q hq => hne q (.tail _ (.tail _ hq)), hne (D, oD) (.tail _ (.head _))⟩ (by simpa using F') N'
  · intro u news₁ h tk _ F' N'
    exact done u news₁ h tk (by simpa using F') N'
theorem endLaw {I p D : Addr} {m₀ m' : Str → Option Value} {rest : List (Addr × Obj)} {oD o : Obj} {i tk : Nat} {h' : Heap} {s₁ : Shared} {a b c : Int} {t u v : Tok} {n : Nat} (T : TurnFacts I p D rest) (hpk : PenOk (4 * i + 4) a b c) (hm : ∀ y, y ≠ x → m' y = m₀ y) {L : Addr} (F : Fr h₀ L h' m')
    (N : News h₀ L h' ((I, o) :: (p, penObj a b c t u v n) :: (D, oD) :: rest)) : EndG h₀ L x [] m₀ (LawJ p ((D, oD) :: rest) (i + 1)) (I, o) s₁ { s₁ with heap := h', toks := tk } :=
  ⟨h', tk, m', _, rfl, F, N, fun q hq => by
    rcases List.mem_cons.mp hq with e | hq
    · rw [e]; exact fun e' => T.ip e'.symm
    · rcases List.mem_cons.mp hq with e | hq
      · rw [e]; exact T.nd
      · exact T.ne q hq, fun y hy _ => hm y hy, ⟨a, b, c, t, u, v, n, hpk, rfl⟩⟩
end
local macro_rules | `(tactic| walk_at "pyIter ref") => `(tactic| (k_here; (with_reducible show wpAny _ _ (pyIter (Value.ref _)) (fun it s₂ => LoopAtV _ _ _ _ _ _ _ _ _ it s₂) _ _); (rename IsRange _ _ _ _ _ _ _ _ => rgX'); k_dflt (refine Stop.go ?_)))
theorem lines_LawA_1 : True := by
  w_top off
  k_with_none
  k_with "call ref" => (k_here; (with_reducible show wpAny _ _ (call (Value.ref 195) _) _ _ _); k_dflt ((refine' Pure.use (law_pen_c _ _ _ _ ?qq86i ?qq86n) ?qq86B ?qq86F ?qq86X ?qq86N ?qq86T ?qq86k ?qq86d ?qq86u ?qq86P ?_); (case qq86i => assumption); (case qq86n => omega); (case qq86B => k_asm); (case qq86F => k_asm); (case qq86X => k_asm); (case qq86N => k_asm); (case qq86T => k_asm); (case qq86k => first | rfl | assumption); (case qq86d => ktr_room); (case qq86u => ktr_units); (case qq86P => is_list); intro r9 h9 tk9 F9 N9 st9 fr9 hO9; obtain ⟨p9, a9, b9, c9, t9, u9, v9, n9, hr9, hget9, hnone9, hpk9⟩ := hO9; subst hr9; replace N9 := news_add N9 fr9 hget9 hnone9; clear fr9 st9; (try dsimp only); (try k_fold)))
  k_with "call ref" => (k_here; (with_reducible show wpAny _ _ (call (Value.ref 216) _) _ _ _); k_dflt ((rename News _ _ _ _ => nOld); (refine' Pure.use (law_tables_c _) ?qq87B ?qq87F ?qq87X ?qq87N ?qq87T ?qq87k ?qq87d ?qq87u True.intro ?_); (case qq87B => k_asm); (case qq87F => k_asm); (case qq87X => k_asm); (case qq87N => k_asm); (case qq87T => k_asm); (case qq87k => first | rfl | assumption); (case qq87d => ktr_room); (case qq87u => ktr_units); intro r9 h9 tk9 F9 N9 st9 fr9 hO9; obtain ⟨tb9, c9, s9, f9, k9, a9, n9, m9, v9, oc9, os9, of9, oa9, tups9, kc9, kf9, ka9, kv9, hr9, hT9, hTF9⟩ := hO9; subst hr9; have hv9 := TabFacts.hv hTF9; have po9 := PenOff.mk (pen_off (tups := []) nOld (.head _) hT9); replace N9 := news_tabs N9 fr9 hT9; simp only [List.cons_append, List.nil_append] at N9; clear fr9 st9; (try dsimp only); (try k_fold)))
  k_with "call ref" => (k_here; (with_reducible show wpAny _ _ (call (Value.ref 49) _) _ _ _); k_dflt ((refine' Pure.use (condition_names_c _) ?qq88B ?qq88F ?qq88X ?qq88N ?qq88T ?qq88k ?qq88d ?qq88u True.intro ?_); (case qq88B => k_asm); (case qq88F => k_asm); (case qq88X => k_asm); (case qq88N => k_asm); (case qq88T => k_asm); (case qq88k => first | rfl | assumption); (case qq88d => ktr_room); (case qq88u => ktr_units); intro r9 h9 tk9 F9 N9 st9 fr9 hO9; obtain ⟨l9, vs9, hr9, hget9, hnone9, hA9⟩ := hO9; subst hr9; replace N9 := news_add N9 fr9 hget9 hnone9; clear fr9 st9; (try dsimp only); (try k_fold)))
  k_with "callWith ref nil nil" => (k_here; k_dflt (refine' callWith_K0 ?qq89k1 ?qq89k2 ?_; (case qq89k1 => k_in); (case qq89k2 => k_is); k_whole))
  k_with "compareOp NotEq ref ref" => (k_here; k_dflt (refine' ne_strs (L := condsL) (L' := condsL) rfl ?qq90ha ?qq90hx ?qq90hb ?qq90hy ?qq90ok ?qq90hu ?_; (case qq90ha => exact News.isList (by k_asm) (by k_mem)); (case qq90hx => assumption); (case qq90hb => exact News.isList (by k_asm) (by k_mem)); (case qq90hy => assumption); (case qq90ok => decide +kernel); (case qq90hu => ktr_units); k_whole))
  k_with "call type:list" => (k_here; (with_reducible show wpAny _ _ (call (Value.type "list") [Value.ref _]) _ _ _); (rename TabFacts _ _ _ _ _ _ _ _ _ _ _ _ _ _ _ => hTF'); have hZ' := kv_lens hTF'; k_dflt (first | ((refine' list_keysS ?qq91hh ?qq91F ?qq91N ?qq91m (TabFacts.hc hTF') (TabFacts.sc hTF') ?qq91z ?_); (case qq91hh => rfl); (case qq91F => k_asm); (case qq91N => k_asm); (case qq91m => k_mem); (case qq91z => exact hZ'.hc); k_whole) | ((refine' list_keysS ?qq91hh ?qq91F ?qq91N ?qq91m (TabFacts.hst hTF') (TabFacts.sst hTF') ?qq91z ?_); (case qq91hh => rfl); (case qq91F => k_asm); (case qq91N => k_asm); (case qq91m => k_mem); (case qq91z => exact hZ'.hst); k_whole) | ((refine' list_keysS ?qq91hh ?qq91F ?qq91N ?qq91m (TabFacts.hfl hTF') (TabFacts.sfl hTF') ?qq91z ?_); (case qq91hh => rfl); (case qq91F => k_asm); (case qq91N => k_asm); (case qq91m => k_mem); (case qq91z => exact hZ'.hfl); k_whole)); intro B' c' h' tk' vs' F' N' l1' hA'; clear hZ'; (first | rw [flat_map (TabFacts.fc hTF')] at hA' | rw [pairs_map (TabFacts.pst hTF')] at hA' | rw [flat_map (TabFacts.ff hTF')] at hA'); (try k_lt l1'))
  k_with "binaryOp Add ref ref" => (k_here; k_dflt ((refine' add_strsK ?qq92F ?qq92N ?qq92a ?qq92b ?qq92s1 ?qq92s2 ?qq92z ?_); (case qq92F => k_asm); (case qq92N => k_asm); (case qq92a => k_mem); (case qq92b => k_mem); (case qq92s1 => with_reducible assumption); (case qq92s2 => with_reducible assumption); (case qq92z => decide +kernel); k_whole; intro D' h' F' N' l1' hA'; (try k_lt l1')))
  k_with "call builtin:str.split" => (k_here; k_dflt (refine' split_const ?qq93zzF ?qq93zzN ?qq93zzy ?qq93zze ?qq93zzz ?_; (case qq93zzF => k_asm); (case qq93zzN => k_asm); (case qq93zzy => decide +kernel); (case qq93zze => first | exact ends_split | exact oth_split); (case qq93zzz => decide +kernel); k_whole); intro D' vs' h' tk' F' N' l1' hA'; (try k_lt l1'))
  k_with "eval ListComp" => (k_here; (with_reducible refine' ListComp_dictT (strKind _ _) ?qq94F ?qq94c ?qq94l ?qq94k ?qq94n ?qq94x ?_ ?qq94s); k_dflt ((case qq94F => k_asm); (case qq94c => with_unfolding_all rfl); (case qq94l => decide +kernel); (case qq94k => rfl); (case qq94n => decide +kernel); (case qq94x => rfl); (case qq94s => (intro _; rfl)); k_whole))
  k_with "DictSrcT" => (k_here; k_dflt (refine Stop.go ?_))
  k_with "CompEnd" => k_dflt ((first | refine LCg.CompEnd.intro (by assumption) (by assumption) _ (fun _ hp => .tail _ hp) ?qq96off ?qq96src ?_ | refine LCg.CompEnd.intro (by assumption) (by assumption) _ (fun _ hp => hp) ?qq96off ?qq96src ?_); (case qq96off => first | assumption | (simp only [LCg.Off3, and_true]; assumption)); (case qq96src => first | exact Or.inl (by assumption) | exact Or.inr (by k_mem)))
  k_with "subscriptTail" => (k_here; (with_reducible show wpAny _ _ (subscriptTail (PySem.Expr.Call _ _ _ _) (PySem.Expr.Slice _ _ (some _) _) (Value.ref _) (Value.ref _)) _ _ _); k_dflt (refine' slice_strsK (LL := othSplit) (L2 := othEven) ?qq97zzF ?qq97zzN ?qq97zzm ?qq97zzhS ?qq97zzp ?qq97zzq ?qq97zzk ?qq97zzo ?qq97zze ?_ ?qq97zzs ?qq97zzz; (case qq97zzF => k_asm); (case qq97zzN => k_asm); (case qq97zzm => k_mem); (case qq97zzhS => assumption); (case qq97zzp => kmk_part); (case qq97zzq => kmk_part); (case qq97zzk => kmk_part); (case qq97zzo => decide); (case qq97zze => decide +kernel); (case qq97zzs => with_unfolding_all rfl); (case qq97zzz => exact Nat.le_of_ble_eq_true rfl)); intro D' ws' h' F' N' l1' hA'; (try k_lt l1'))
  k_with "call ref" => (k_here; (with_reducible show wpAny _ _ (call (Value.ref 223) _) _ _ _); (rename PenOk _ _ _ _ => hpk'); (rename TurnFacts _ _ _ _ => hoff'); (rename NamesOk _ _ => hno'); (rename News _ _ _ _ => nN'); k_dflt ((refine' Moves.use (law_name_c _ _ _ ?qq98k60 _ _ _ _ _ _ _ hpk' _ _ _ (NamesOk.s hno') (NamesOk.h0 hno') (NamesOk.h1 hno') (NamesOk.hN hno')) ?qq98B ?qq98F ?qq98X nN' (fun o' => TurnFacts.upd hoff' _ o' _ _) ?qq98T ?qq98k ?qq98d ?qq98u ⟨?qq98P1, TurnFacts.dp hoff'⟩ ?_); (case qq98B => k_asm); (case qq98F => k_asm); (case qq98X => k_asm); (case qq98T => k_asm); (case qq98k => first | rfl | assumption); (case qq98d => ktr_room); (case qq98u => ktr_units); (case qq98k60 => omega); (case qq98P1 => exact News.isList nN' (.tail _ (.tail _ (.head _)))); intro r9 h9 tk9 F9 N9 st9 hO9; obtain ⟨⟨x9, t9, hr9, hx0⟩, a9, b9, c9, u9, v9, w9, n9, hg9, hpk9⟩ := hO9; subst hr9; replace N9 := N9 _ hg9; clear st9 hg9 hpk'; (try dsimp only); (try k_fold)))
  k_with "call ref" => (k_here; (with_reducible show wpAny _ _ (call (Value.ref 228) _) _ _ _); (rename TabFacts _ _ _ _ _ _ _ _ _ _ _ _ _ _ _ => hTF'); (rename News _ _ _ _ => nN'); (rename (Str.length _ ≤ 100) => hln'); k_dflt ((refine' Pure.use (right_all _ _ _ _ _ _ _ _ _ _ _ (Nat.le_trans hln' (Nat.le_of_ble_eq_true rfl))) ?qq99B ?qq99F ?qq99X nN' ?qq99T ?qq99k ?qq99d ?qq99u (TabFacts.at hTF' (fun q hq => nN' q (.tail _ (.tail _ (.tail _ hq))))) ?_); (case qq99B => k_asm); (case qq99F => k_asm); (case qq99X => k_asm); (case qq99T => k_asm); (case qq99k => first | rfl | assumption); (case qq99d => ktr_room); (case qq99u => ktr_units); intro r9 h9 tk9 F9 N9 st9 fr9 hO9; subst hO9; clear fr9 st9; (try dsimp only); (try k_fold)))
  k_with "exec For Name Call cons nil" => (k_here; (fail_if_success (rename InTest => xT')); (rename Fr _ _ _ _ => lF'); k_dflt (with_unfolding_all refine' For_invVF lF' ?qq100k1 ?qq100k2 ?_; (case qq100k1 => exact rfl); (case qq100k2 => exact rfl); k_whole))
  trivial
set_option maxRecDepth 100000 in
set_option maxHeartbeats 8000000 in
theorem law_holds : PySem.Challenge.rw_pq0793_01.Holds := hd (by
  k_go0
  (all_goals try k_fold)
  k_steps
  (refine Stop.mk ?_
   (rename TabFacts _ _ _ _ _ _ _ _ _ _ _ _ _ _ _ => hTF)
   (rename News _ _ _ _ => N7)
   (rename Fr _ _ _ _ => F7)
   refine ⟨_, _, _, _, rfl, rfl, F7, N7, TabFacts.sal hTF, .inr (by k_mem), TabFacts.hal hTF, (by rw [flat_length (TabFacts.fa hTF)]; exact Nat.le_of_ble_eq_true rfl), ?_⟩
   rintro s₂ ⟨g7, rfl⟩
   refine restT_inv (fun i ys => StrsAre ys (keptL i)) ?_ ?_ _ 0 [] (Nat.zero_add _) StrsAre.nil
   · intro ys hJ
     rw [flat_length (TabFacts.fa hTF)] at hJ
     clear F7 N7
     k_steps
     refine Stop.mk ?_
     (rename TabFacts _ _ _ _ _ _ _ _ _ _ _ _ _ _ _ => hTF8)
     (rename News _ _ _ _ => N8)
     (rename Fr _ _ _ _ => F8)
     (rename PenOk _ _ _ _ => hpk8)
     (rename IsRange _ _ _ _ _ _ _ _ => rg8)
     (rename StrsAre (_ ++ _) (_ ++ _) => hS8)
     (rename PenOff _ _ => po8)
     have hno8 := NamesOk.mk hS8 (by decide +kernel) (by decide +kernel) (by decide +kernel)
     have N9 := news_pick hTF8 hno8 N8 (by k_mem) (by k_mem) (by k_mem) (by k_mem) (by k_mem) (by k_mem) (by k_mem) (by k_mem) (fun q hq => by (repeat first | with_reducible exact hq | refine List.Mem.tail _ ?_); exact hq)
     with_unfolding_all refine' iterLaw hpk8 po8 ?zzD ?zzh rg8 F8 N9 ?zzt ?zzd
     case zzD => k_ne
     case zzh => rfl
     case zzt =>
       intro i t' h tk I o a b c t u v n hi hpk1 hTN F9 N9'
       clear F8 N8 N9 hpk8
       (try dsimp only)
       (try k_fold)
       k_steps
       (rename News _ _ _ _ => N3)
       (rename Fr _ _ _ _ => F3)
       (rename PenOk _ _ _ _ => hpk3)
       (rename TurnFacts _ _ _ _ => hTN3)
       show EndG _ _ _ _ _ _ _ _ _
       exact endLaw hTN3 hpk3 (by intro y h1; simp [h1]) F3 N3
     case zzd =>
       intro u news₁ h tk F9 N9'
       clear F8 N8 N9
       (try dsimp only)
       (try k_fold)
       k_steps
   · intro i v ys I oI C oC D m₂ h tk E' hi hJ hPP hC hx FF NN off ne
     have xT7 : InTest := ⟨⟩
     obtain ⟨k, y, hk, hv⟩ := hPP
     obtain ⟨p, hp, rfl⟩ := flat_key (TabFacts.fa hTF) hk
     obtain ⟨t, rfl⟩ := is_str hv
     obtain ⟨hl1, hl2⟩ := len_at (tbl := aliasesT) (by decide +kernel) hp
     clear F7 N7
     k_steps
     all_goals first
       | rfl
       | exact kept_yes hp (by assumption) hJ
       | exact kept_no hp (by assumption) hJ)
)
end Mine
end
end
theorem PySem.Challenge.cw_pq0793_01_holds : PySem.Challenge.rw_pq0793_01.Holds :=
  Mine.law_holds
