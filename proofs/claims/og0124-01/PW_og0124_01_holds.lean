import PyProof.Rows.All
import Wide.All
import OpenK.AllK
import Wide.FinOn
import PySem.Challenge.RW_og0124_01
set_option Elab.async false
set_option maxRecDepth 100000
set_option maxHeartbeats 8000000

namespace Mine
open PySem PySem.W PyProof.Rows
open_top hd for PySem.Challenge.rw_og0124_01
end Mine

namespace Mine
open PySem PySem.W PySem.Calls PyProof.Rows PyProof.V PySem.Spec
section
variable {prog : Program} {w : World} {A : Around} {E : Value → Shared → Prop} {s : Shared} {env : Env} {h₀ : Heap} {x : Str} {body : List Stmt} {Q : Flow → Shared → Prop}

/-- what a turn of a loop hands on: the iterator (I, oI) stands, the rest meets J -/
def TurnEnd (h₀ : Heap) (L : Addr) (p : Addr × Obj) (J : (Str → Option Value) → List (Addr × Obj) → Prop) (s₁ : Shared) (Q : Flow → Shared → Prop) (f : Flow) (s₂ : Shared) : Prop :=
  match f with
  | .ret v => Q (.ret v) s₂
  | .brk => Q .next s₂
  | _ => ∃ h' tk m' news', s₂ = { s₁ with heap := h', toks := tk } ∧ Fr h₀ L h' m' ∧ News h₀ L h' (p :: news') ∧ (∀ q ∈ news', q.1 ≠ p.1) ∧ J m' news'

theorem my_range {r : Addr} {a₀ b₀ : Int} {t₀ u₀ v₀ : Tok} {n : Nat} {m₀ : Str → Option Value} {news : List (Addr × Obj)} (J : Nat → (Str → Option Value) → List (Addr × Obj) → Prop)
    (hh : A.handled = none) (hr : IsRange s.heap r a₀ b₀ 1 t₀ u₀ v₀) (hsmall : Builtin.Range.small a₀ b₀ 1 = true) (hn : Builtin.Range.rangeSize a₀ b₀ 1 = (n : Int))
    (F : Fr h₀ env.locals s.heap m₀) (N : News h₀ env.locals s.heap news) (h0 : J 0 m₀ news)
    (turn : ∀ (i : Nat) m₁ news₁ h tk I oI t, i < n → J i m₁ news₁ → (∀ p ∈ news₁, p.1 ≠ I) → Fr h₀ env.locals h (fun y => if y = x then some (.int (a₀ + (i : Int)) t) else m₁ y) → News h₀ env.locals h ((I, oI) :: news₁) →
      wpAny (model prog w) A (execs body env) (TurnEnd h₀ env.locals (I, oI) (J (i + 1)) { s with heap := h, toks := tk } Q) E { s with heap := h, toks := tk })
    (done : ∀ m₁ news₁ h tk, J n m₁ news₁ → Fr h₀ env.locals h m₁ → News h₀ env.locals h news₁ → Q .next { s with heap := h, toks := tk }) :
    wpAny (model prog w) A (pyIter (.ref r)) (fun it s₂ => LoopAtV prog w A h₀ env x body Q E it s₂) E s := by
  refine wpAny_pyIter_range hr hsmall ?_
  refine ⟨s.heap.objs.size, [s.heap.objs.size], [s.heap.objs.size], n, _, _, m₀, news, J, rfl, Walks.range hh _ a₀ 1 n, ?_, ?_, ?_, ?_, F.push _, (fun p hp => ⟨Heap.get?_push_of_some _ (N p hp).1, (N p hp).2⟩), h0, ?_, ?_⟩
  · intro hm
    exact absurd F.ns.lt ((List.mem_singleton.mp hm) ▸ Nat.lt_irrefl _)
  · intro b hb
    rw [List.mem_singleton.mp hb]
    exact next_is_new F
  · intro p hp hI
    exact absurd (Heap.lt_size (N p hp).1) ((List.mem_singleton.mp hI) ▸ Nat.lt_irrefl _)
  · show IsRangeIter _ _ _ _ _
    rw [hn]; simpa using Heap.get?_push_size _ rfl
  · rintro i v m₁ news₁ s₁ own ⟨h, tk, rfl⟩ hi ⟨t, rfl⟩ hJ hoff hown hownat hall st F₁ N₁
    have e1 : a₀ + (i : Int) * 1 = a₀ + (i : Int) := by omega
    rw [e1] at F₁
    obtain ⟨oI, gI⟩ : ∃ oI, h.get? s.heap.objs.size = some oI := ⟨_, st⟩
    have hmem := hall s.heap.objs.size (List.mem_singleton.mpr rfl) (next_is_new F) _ gI
    have sub : ∀ p ∈ own, p = (s.heap.objs.size, oI) := fun p hp => by
      have h1 := List.mem_singleton.mp (hown p hp)
      have h2 : h.get? p.1 = some p.2 := hownat p hp
      rw [h1, gI] at h2
      exact Prod.ext h1 (Option.some.inj h2).symm
    refine wpAny_mono (turn i m₁ news₁ h tk s.heap.objs.size oI t hi hJ (fun p hp q => hoff p hp (List.mem_singleton.mpr q)) F₁ (fun p hp => ?_)) (fun f s₂ p => ?_) fun _ _ e => e
    · rcases List.mem_cons.mp hp with rfl | hp
      · exact N₁ _ (List.mem_append_left _ hmem)
      · exact N₁ _ (List.mem_append_right _ hp)
    have fin : (∃ h' tk' m' news', s₂ = { ({ s with heap := h, toks := tk } : Shared) with heap := h', toks := tk' } ∧ Fr h₀ env.locals h' m' ∧ News h₀ env.locals h' ((s.heap.objs.size, oI) :: news') ∧ (∀ q ∈ news', q.1 ≠ s.heap.objs.size) ∧ J (i + 1) m' news') →
        LoopStepU h₀ env.locals [s.heap.objs.size] own (J (i + 1)) { s with heap := h, toks := tk } .next s₂ := by
      rintro ⟨h', tk', m', news', e, F', N', hne, hJ'⟩
      refine ⟨rfl, h', tk', m', news', e, F', fun p hp => ?_, fun p hp q => hne p hp (List.mem_singleton.mp q), hJ'⟩
      rcases List.mem_append.mp hp with hp | hp
      · rw [sub p hp]; exact N' _ (List.mem_cons_self ..)
      · exact N' _ (List.mem_cons_of_mem _ hp)
    cases f with
    | ret v => exact .ret p
    | brk => exact .brk p
    | next => exact .next (fin p)
    | cont => exact .cont (fin p)
  · rintro h' tk m' news' F' N' _ hJ
    exact done m' news' h' tk hJ F' N'

theorem my_keys {K : Type} [DecidableEq K] {knd : PySem.KeyKind prog w K} {d : Addr} {od : Obj} {kvs : List (K × Value)} {m₀ : Str → Option Value} {news : List (Addr × Obj)} (J : Nat → (Str → Option Value) → List (Addr × Obj) → Prop)
    (hh : A.handled = none) (hm : (d, od) ∈ news) (hod : od.IsDictOf knd kvs) (lo : (d == sysModules) = false)
    (hJd : ∀ i m l, J i m l → (d, od) ∈ l)
    (F : Fr h₀ env.locals s.heap m₀) (N : News h₀ env.locals s.heap news) (h0 : J 0 m₀ news)
    (turn : ∀ (i : Nat) m₁ news₁ h tk I oI k v key, kvs[i]? = some (k, v) → knd.is k key = true → J i m₁ news₁ → (∀ p ∈ news₁, p.1 ≠ I) → Fr h₀ env.locals h (fun y => if y = x then some key else m₁ y) → News h₀ env.locals h ((I, oI) :: news₁) →
      wpAny (model prog w) A (execs body env) (TurnEnd h₀ env.locals (I, oI) (J (i + 1)) { s with heap := h, toks := tk } Q) E { s with heap := h, toks := tk })
    (done : ∀ m₁ news₁ h tk, J kvs.length m₁ news₁ → Fr h₀ env.locals h m₁ → News h₀ env.locals h news₁ → Q .next { s with heap := h, toks := tk }) :
    wpAny (model prog w) A (pyIter (.ref d)) (fun it s₂ => LoopAtV prog w A h₀ env x body Q E it s₂) E s := by
  have hD : s.heap.DictOf knd d kvs := Heap.dictOf_iff.mpr ⟨od, (N _ hm).1, hod⟩
  obtain ⟨ep, hat⟩ := hD.dictAt
  have hne : d ≠ s.heap.objs.size := Nat.ne_of_lt hat.lt_size
  refine wpAny_pyIter_dict lo hat ?_
  refine ⟨s.heap.objs.size, [s.heap.objs.size, d], [s.heap.objs.size], kvs.length, _, _, m₀, news, J, rfl, Walks.dictKeys (knd := knd) hh s.heap.objs.size d hne kvs ep, ?_, ?_, ?_, ⟨⟨_, Heap.get?_push_size _ rfl, rfl, rfl⟩, hat.push _⟩, F.push _, (fun p hp => ⟨Heap.get?_push_of_some _ (N p hp).1, (N p hp).2⟩), h0, ?_, ?_⟩
  · intro hI
    have hb' : env.locals = s.heap.objs.size ∨ env.locals = d := by simpa using hI
    rcases hb' with e | e
    · exact absurd F.ns.lt (e ▸ Nat.lt_irrefl _)
    · exact (N _ hm).2.1 e.symm
  · intro b hb
    rw [List.mem_singleton.mp hb]
    exact next_is_new F
  · intro p hp hI
    exact absurd (Heap.lt_size (N p hp).1) ((List.mem_singleton.mp hI) ▸ Nat.lt_irrefl _)
  · rintro i v m₁ news₁ s₁ own ⟨h, tk, rfl⟩ hi ⟨k, x', hx, hk⟩ hJ hoff hown hownat hall st F₁ N₁
    obtain ⟨⟨oI, gI, _, _⟩, _⟩ := id st
    have gI' : h.get? s.heap.objs.size = some oI := gI
    have hmem := hall s.heap.objs.size (List.mem_cons_self ..) (next_is_new F) _ gI'
    have hmd := hJd _ _ _ hJ
    have sub : ∀ p ∈ own, p = (s.heap.objs.size, oI) ∨ p = (d, od) := fun p hp => by
      have h2 : h.get? p.1 = some p.2 := hownat p hp
      rcases List.mem_cons.mp (hown p hp) with h1 | h1
      · rw [h1, gI'] at h2
        exact .inl (Prod.ext h1 (Option.some.inj h2).symm)
      · have h1 := List.mem_singleton.mp h1
        have h3 : h.get? d = some od := (N₁ _ (List.mem_append_right _ hmd)).1
        rw [h1, h3] at h2
        exact .inr (Prod.ext h1 (Option.some.inj h2).symm)
    refine wpAny_mono (turn i m₁ news₁ h tk s.heap.objs.size oI k x' v hx hk hJ (fun p hp q => hoff p hp (List.mem_singleton.mpr q)) F₁ (fun p hp => ?_)) (fun f s₂ p => ?_) fun _ _ e => e
    · rcases List.mem_cons.mp hp with rfl | hp
      · exact N₁ _ (List.mem_append_left _ hmem)
      · exact N₁ _ (List.mem_append_right _ hp)
    have fin : (∃ h' tk' m' news', s₂ = { ({ s with heap := h, toks := tk } : Shared) with heap := h', toks := tk' } ∧ Fr h₀ env.locals h' m' ∧ News h₀ env.locals h' ((s.heap.objs.size, oI) :: news') ∧ (∀ q ∈ news', q.1 ≠ s.heap.objs.size) ∧ J (i + 1) m' news') →
        LoopStepU h₀ env.locals [s.heap.objs.size] own (J (i + 1)) { s with heap := h, toks := tk } .next s₂ := by
      rintro ⟨h', tk', m', news', e, F', N', hne, hJ'⟩
      refine ⟨rfl, h', tk', m', news', e, F', fun p hp => ?_, fun p hp q => hne p hp (List.mem_singleton.mp q), hJ'⟩
      rcases List.mem_append.mp hp with hp | hp
      · rcases sub p hp with e | e
        · rw [e]; exact N' _ (List.mem_cons_self ..)
        · rw [e]; exact N' _ (List.mem_cons_of_mem _ (hJd _ _ _ hJ'))
      · exact N' _ (List.mem_cons_of_mem _ hp)
    cases f with
    | ret v => exact .ret p
    | brk => exact .brk p
    | next => exact .next (fin p)
    | cont => exact .cont (fin p)
  · rintro h' tk m' news' F' N' _ hJ
    exact done m' news' h' tk hJ F' N'

/-- the loop, told as one word, so that the walk stands still at it -/
def MyIter (prog : Program) (w : World) (A : Around) (h₀ : Heap) (env : Env) (x : Str) (body : List Stmt) (Q : Flow → Shared → Prop) (E : Value → Shared → Prop) (xv : Value) (s₁ : Shared) : Prop :=
  wpAny (model prog w) A (pyIter xv) (fun it s₂ => LoopAtV prog w A h₀ env x body Q E it s₂) E s₁
theorem For_my {m : Str → Option Value} {px pos : Pos} {iter : Expr} (F : Fr h₀ env.locals s.heap m) (hx : env.kindOf x = some .local)
    (hp : (env.scope.kind == .class || (env.scope.kind == .module && env.locals != env.globals)) = false)
    (h : wpAny (model prog w) A (eval iter env) (MyIter prog w A h₀ env x body Q E) E s)
    (hs : ∀ x, foldedSetIterable iter env x = pure x := by intro _; rfl)
    (hE : PassesOwn (model prog w) A env E := by passes_own) :
    wpAny (model prog w) A (exec (.For (.Name x px) iter body [] pos) env) Q E s := For_invVF F hx hp h hs hE
theorem my_add {l b : Addr} {L : Addr} {m : Str → Option Value} {news : List (Addr × Obj)} {vs ws : List Value} {ns ms zs : List Int} {Q : Value → Shared → Prop} (F : Fr h₀ L s.heap m) (N : News h₀ L s.heap news)
    (ha : s.heap.IsList l vs.toArray) (hb : s.heap.IsList b ws.toArray) (hi : IntsAre vs ns) (hj : IntsAre ws ms) (e : ns ++ ms = zs) (hz : zs.length ≤ 1000)
    (h : ∀ D us h', Fr h₀ L h' m → News h₀ L h' ((D, W.listOf (List.toArray us) 0) :: news) → (∀ p ∈ news, p.1 < D) → IntsAre us zs → Q (.ref D) { s with heap := h' }) :
    wpAny (model prog w) A (binaryOp .Add (.ref l) (.ref b)) Q E s := by
  subst e
  refine kmk_add_ints F N ha hb hi hj h ?_
  rw [List.length_append] at hz
  rw [sizeLine_eq]; omega

theorem my_setItem {L d : Addr} {m : Str → Option Value} {news : List (Addr × Obj)} {g : Obj → List (Addr × Obj)} {o : Obj} {K : Type} [DecidableEq K] {knd : PySem.KeyKind prog w K} {k : K} {key v : Value} {kvs : List (K × Value)} {Q : Unit → Shared → Prop}
    (hkey : knd.is k key = true) (F : Fr h₀ L s.heap m) (N : News h₀ L s.heap news) (U : UpdF d o news g) (hd : o.IsDictOf knd kvs) (hsz : kvs.length ≤ 1000)
    (h : ∀ h' o', Fr h₀ L h' m → News h₀ L h' (g o') → o'.IsDictOf knd (stored kvs k v) → Q () { s with heap := h', toks := s.toks + 1 }) :
    wpAny (model prog w) A (setItem (.ref d) key v) Q E s := by
  obtain ⟨pre, post, rfl, hg, a, b⟩ := U.split
  have hmem := N (d, o) (List.mem_append_right _ (.head _))
  refine wpAny_setItem_pairs hkey (Heap.dictOf_iff.mpr ⟨o, hmem.1, hd⟩) (fun h' hD hs => ?_) (by rw [sizeLine_eq]; omega)
  obtain ⟨o', ho', hd'⟩ := Heap.dictOf_iff.mp hD
  refine h h' o' ⟨F.ns.sameBut hs (Ne.symm hmem.2.1), fun b ob e => (hs.2 b (fun q => ?_)).trans (F.keep b ob e), F.above⟩ (hg o' ▸ N.setAt a b hs ho') hd'
  rw [q, hmem.2.2] at e; cases e

/-- [x for x in d if ct]: the source is a dict of the ledger -/
def KeysSrc (prog : Program) (w : World) (A : Around) (h₀ : Heap) (m : Str → Option Value) (env : Env) (ct elt : Expr) (x y : Str) (scope : Scope) (cl : List (Str × Addr)) (Q : Flow → Shared → Prop) (xv : Value) (s₁ : Shared) : Prop :=
  ∃ (d : Addr) (od : Obj) (kvs : List (Int × Value)) (news : List (Addr × Obj)), xv = .ref d ∧ A.handled = none ∧ Fr h₀ env.locals s₁.heap m ∧ News h₀ env.locals s₁.heap news ∧ (d, od) ∈ news ∧ od.IsDictOf (PySem.intKind prog w) kvs ∧ (d == sysModules) = false ∧ kvs.length ≤ 1000 ∧
    ∀ s₂ : Shared, (∃ h, s₂ = { s₁ with heap := h }) → LCt.CompRestT prog w A h₀ env.locals m env ct elt x scope cl s₂ (fun nw => (d, od) ∈ nw) (fun i v => ∃ k z, kvs[i]? = some (k, z) ∧ (PySem.intKind prog w).is k v = true) (LCg.FinA h₀ env.locals m s₂ y Q) kvs.length 0 [] news
theorem my_comp_keys {m : Str → Option Value} {ct elt iter : Expr} {y : Str} {px py : Pos} {scope : Scope} {cl : List (Str × Addr)} {pos spos : Pos} (F₀ : Fr h₀ env.locals s.heap m)
    (hsw : swapsWith (.ListComp elt [⟨.Name x px, iter, [ct], 0⟩] scope pos) (some (.Name y py)) spos.line env = pure true)
    (hclos : closureFor scope env = pure cl) (hcell : ∀ z ∈ scope.names, z.2 ≠ .cell) (hkind : scope.kind = .function)
    (hnames : ∀ z ∈ scope.names, z.2 = .local → scope.names.lookup z.1 = some .local) (hx : scope.names.lookup x = some .local)
    (hy : env.kindOf y = some .local) (hp : (env.scope.kind == .class || (env.scope.kind == .module && env.locals != env.globals)) = false)
    (h : wpAny (model prog w) A (eval iter env) (KeysSrc prog w A h₀ m env ct elt x y scope cl Q) E s)
    (hs : ∀ x, foldedSetIterable iter env x = pure x := by intro _; rfl) :
    wpAny (model prog w) A (exec (.Assign [.Name y py] (.ListComp elt [⟨.Name x px, iter, [ct], 0⟩] scope pos) spos) env) Q E s := by
  rw [exec_Assign_Name_used _ _ _ _ hsw]
  refine wpAny_bind (wpAny_standAt (wpAny_bind ?_))
  show wpAny _ A (do let _ ← comprehension (.ListComp elt [⟨.Name x px, iter, [ct], 0⟩] scope pos) scope env _ (newList []) false (eval iter env) (some (assign (.Name y py) env))) _ _ s
  refine wpAny_bind (wpAny_mono (wpAny_comprehension_free (use := some (assign (.Name y py) env)) (Q := fun _ s' => Q .next s') rfl hs hclos hkind hnames
    (wpAny_mono h (fun xv s₁ h₁ => ?_) fun _ _ e => e)) (fun _ s' hq => wpAny_pure (wpAny_pure hq)) fun _ _ e => e)
  obtain ⟨d, od, kvs, news, rfl, hh, F, N, hm, hod, lo, hsz, R⟩ := h₁
  obtain ⟨es, ep, hEx, hdat, hk, hpr, hnd⟩ := id hod
  have hat : s₁.heap.DictAt (PySem.intKind prog w) d kvs ep := ⟨od, es, (N _ hm).1, hEx, hdat, hk, hpr, hnd⟩
  have hlt : d < s₁.heap.objs.size := hat.lt_size
  refine wpAny_pyIter_dict lo hat ?_
  have up : ∀ (o : Obj) b o', s₁.heap.get? b = some o' → (s₁.heap.push o).get? b = some o' := fun o b o' e => Heap.get?_push_of_some _ e
  refine LCt.block_T (Walks.dictKeys (knd := PySem.intKind prog w) hh s₁.heap.objs.size d (Nat.ne_of_lt hlt) kvs ep) (by rw [sizeLine_eq]; omega) (fun i h st => by obtain ⟨⟨o, e, _⟩, _⟩ := st; exact ⟨o, e⟩)
    (fun i h h' o nw st e1 e2 _ N' hS => ?_) hcell hkind hx ⟨⟨_, Heap.get?_push_size _ rfl, rfl, rfl⟩, hat.push _⟩ (fun b hb => ?_)
    (F.keeps (up _)) (N.grown (up _)) (Nat.ne_of_lt F.ns.lt) (next_is_new F) (fun p hp => Nat.ne_of_lt (Heap.lt_size (N p hp).1)) hm (R _ ⟨_, rfl⟩) ?_
  · exact ⟨st.1.at fun o' e => by rw [e1] at e; rw [e2]; exact e, ⟨od, es, (N' _ hS).1, hEx, hdat, hk, hpr, hnd⟩⟩
  · show b < (s₁.heap.push _).objs.size
    rw [Heap.size_push]
    rcases List.mem_cons.mp hb with rfl | hb
    · exact Nat.lt_succ_self _
    · rw [List.mem_singleton.mp hb]; exact Nat.lt_succ_of_lt hlt
  · intro D C h' tk m' ys news' F' N' o1 hn hC₀ hD₀ hCL hDL hCD offC fin
    show wpAny _ A (assign (.Name y py) env (.ref D)) _ _ _
    refine wpAny_assign_Name (wpAny_storeName_local hy F'.ns (fun h₂ hn₂ hs₂ => ?_) hp)
    have hL₀ : h₀.get? env.locals = none := Heap.get?_none_of_le F'.above
    have F₂ : Fr h₀ env.locals h₂ (fun z => if z = y then some (.ref D) else m z) := ⟨hn₂, fun b o e => hs₂.extBut b o (fun q => by rw [q, hL₀] at e; cases e) (F'.keep b o e), F'.above⟩
    refine ⟨m', hn.sameBut hs₂ hCL, fun h'' hs'' => fin D h'' _ (F₂.change hs'' hCL hC₀) (fun p hp => ?_) o1⟩
    refine ⟨hs''.extBut _ _ ?_ (hs₂.extBut _ _ (N' p hp).2.1 (N' p hp).1), (N' p hp).2⟩
    rcases List.mem_cons.mp hp with rfl | hp
    · exact Ne.symm hCD
    · exact offC p hp

/-- a while by a measure: J names the turns that may still come -/
def WTurn (h₀ : Heap) (L : Addr) (J : Nat → (Str → Option Value) → List (Addr × Obj) → Prop) (n : Nat) (s : Shared) (Q : Flow → Shared → Prop) (f : Flow) (s₃ : Shared) : Prop :=
  match f with
  | .ret v => Q (.ret v) s₃
  | .brk => Q .next s₃
  | _ => ∃ n' h' tk' m' l', n' < n ∧ s₃ = { s with heap := h', toks := tk' } ∧ Fr h₀ L h' m' ∧ News h₀ L h' l' ∧ J n' m' l'
theorem my_while {test : Expr} {orelse : List Stmt} {pos : Pos} {L : Addr} (J : Nat → (Str → Option Value) → List (Addr × Obj) → Prop) (n₀ : Nat) {m₀ : Str → Option Value} {l₀ : List (Addr × Obj)}
    (F : Fr h₀ L s.heap m₀) (N : News h₀ L s.heap l₀) (h0 : J n₀ m₀ l₀) (hE : PassesOwn (model prog w) A env E)
    (turn : ∀ n m₁ l₁ h tk, J n m₁ l₁ → Fr h₀ L h m₁ → News h₀ L h l₁ →
      wpAny (model prog w) A (isTrue test env (eval test env)) (fun b s₂ => WhlIf b (wpAny (model prog w) A (execs body env) (WTurn h₀ L J n s Q) E s₂) (wpAny (model prog w) A (execs orelse env) Q E s₂)) E { s with heap := h, toks := tk }) :
    wpAny (model prog w) A (exec (.While test body orelse pos) env) Q E s := by
  have key : ∀ n m₁ l₁ h tk, J n m₁ l₁ → Fr h₀ L h m₁ → News h₀ L h l₁ → ∀ k, WhlRest prog w A E env test body orelse Q (n + k + 1) { s with heap := h, toks := tk } := by
    intro n
    induction n using Nat.strongRecOn with
    | ind n ih =>
      intro m₁ l₁ h tk hJ F₁ N₁ k
      refine whl_turn hE (wpAny_mono (turn n m₁ l₁ h tk hJ F₁ N₁) (fun b s₂ hb => ?_) fun _ _ e => e)
      have step : (wpAny (model prog w) A (execs body env) (WTurn h₀ L J n s Q) E s₂) → wpAny (model prog w) A (execs body env) (WhlPost prog w A E env test body orelse Q (n + k)) E s₂ := by
        intro hw
        refine wpAny_mono hw (fun f s₃ hf => ?_) fun _ _ e => e
        have go : (∃ n' h' tk' m' l', n' < n ∧ s₃ = { s with heap := h', toks := tk' } ∧ Fr h₀ L h' m' ∧ News h₀ L h' l' ∧ J n' m' l') → WhlRest prog w A E env test body orelse Q (n + k) s₃ := by
          rintro ⟨n', h', tk', m', l', hlt, rfl, F', N', hJ'⟩
          have := ih n' hlt m' l' h' tk' hJ' F' N' (n + k - n' - 1)
          rw [show n' + (n + k - n' - 1) + 1 = n + k by omega] at this
          exact this
        cases f with
        | ret v => exact hf
        | brk => exact hf
        | next => exact go hf
        | cont => exact go hf
      cases b with
      | true => exact WhlIf.yes rfl (step (by simpa [WhlIf] using hb))
      | false => exact WhlIf.no rfl (by simpa [WhlIf] using hb)
  exact whl_start (n₀ + 0 + 1) (key n₀ m₀ l₀ s.heap s.toks h0 F N 0)

theorem my_get1 {L d : Addr} {news : List (Addr × Obj)} {o : Obj} {K : Type} [DecidableEq K] {knd : PySem.KeyKind prog w K} {kvs : List (K × Value)} {k : K} {key v : Value} {Q : Value → Shared → Prop} (N : News h₀ L s.heap news) (hp : (d, o) ∈ news) (hd : o.IsDictOf knd kvs) (lo : (d == sysModules) = false)
    (hkey : knd.is k key = true) (hl : valueAt kvs k = some v) (h : Q v { s with toks := s.toks + 1 }) : wpAny (model prog w) A (call (.builtin "dict.get") [.ref d, key]) Q E s :=
  kdg_get1 N hp hd lo hkey _ hl h
theorem my_notin {L d : Addr} {news : List (Addr × Obj)} {o : Obj} {K : Type} [DecidableEq K] {knd : PySem.KeyKind prog w K} {kvs : List (K × Value)} {k : K} {key : Value} {Q : Value → Shared → Prop} (N : News h₀ L s.heap news) (hp : (d, o) ∈ news) (hd : o.IsDictOf knd kvs) (lo : (d == sysModules) = false)
    (hkey : knd.is k key = true) (hl : (valueAt kvs k).isSome = false) (h : Q (.bool false) { s with toks := s.toks + 1 }) : wpAny (model prog w) A (compareOp .In key (.ref d)) Q E s :=
  kda_in N hp hd lo hkey _ hl h
theorem my_ni_yes {L d : Addr} {news : List (Addr × Obj)} {o : Obj} {K : Type} [DecidableEq K] {knd : PySem.KeyKind prog w K} {kvs : List (K × Value)} {k : K} {key : Value} {Q : Value → Shared → Prop} (N : News h₀ L s.heap news) (hp : (d, o) ∈ news) (hd : o.IsDictOf knd kvs) (lo : (d == sysModules) = false)
    (hkey : knd.is k key = true) (hl : valueAt kvs k = none) (h : Q (.bool true) { s with toks := s.toks + 1 }) : wpAny (model prog w) A (compareOp .NotIn key (.ref d)) Q E s :=
  kdg_notin N hp hd lo hkey false (by rw [hl]; rfl) h
theorem my_ni_no {L d : Addr} {news : List (Addr × Obj)} {o : Obj} {K : Type} [DecidableEq K] {knd : PySem.KeyKind prog w K} {kvs : List (K × Value)} {k : K} {key v : Value} {Q : Value → Shared → Prop} (N : News h₀ L s.heap news) (hp : (d, o) ∈ news) (hd : o.IsDictOf knd kvs) (lo : (d == sysModules) = false)
    (hkey : knd.is k key = true) (hl : valueAt kvs k = some v) (h : Q (.bool false) { s with toks := s.toks + 1 }) : wpAny (model prog w) A (compareOp .NotIn key (.ref d)) Q E s :=
  kdg_notin N hp hd lo hkey true (by rw [hl]; rfl) h
/-- a mark at which the walk stands still -/
def MyStop (P : Prop) : Prop := P
theorem my_stop {P : Prop} (h : MyStop P) : P := h

theorem Fr.ex {h₀ h : Heap} {L : Addr} {m : Str → Option Value} (F : Fr h₀ L h m) : ∃ m', m' = m ∧ Fr h₀ L h m' := ⟨m, rfl, F⟩
theorem map_at1 (M0 : Str → Option Value) (x : Str) : M0 = fun z => if z = x then M0 x else M0 z := by
  funext z; by_cases h : z = x <;> simp [h]
theorem map_at2 (M0 : Str → Option Value) (x y : Str) : M0 = fun z => if z = x then M0 x else if z = y then M0 y else M0 z := by
  funext z; by_cases h : z = x <;> by_cases h' : z = y <;> simp_all
theorem map_at3 (M0 : Str → Option Value) (x y u : Str) : M0 = fun z => if z = x then M0 x else if z = y then M0 y else if z = u then M0 u else M0 z := by
  funext z; by_cases h : z = x <;> by_cases h' : z = y <;> by_cases h'' : z = u <;> simp_all
end
end Mine

namespace Mine
open PySem PySem.W PySem.Calls PyProof.Rows PyProof.V PySem.Spec
theorem draw_spec {w : World} {mean : ExcName → Option Value} {mg mb : Str → Option Value} {dp un : Nat} {gd : Option (List Code)} {cn : Str} {cs : Scope} {a : Addr} {ccd : Value} {cl : List (Str × Addr)} {outer : List Env}
    {A₀ : Around} {base h₀ : Heap} {L : Addr} {m : Str → Option Value} {news : List (Addr × Obj)} {s : Shared} {Q E : Value → Shared → Prop}
    {pen cells : Addr} {vs : List Value} {ns : List Int} {k sd many : Int} {tk tsd tm : Tok} {n nn : Nat}
    (B : Below A₀ base outer h₀) (F : Fr h₀ L s.heap m) (X : (hd.heap_39 w.params).In h₀)
    (N : News h₀ L s.heap ((pen, W.listOf #[.ref cells, .int k tk, .int sd tsd] n) :: (cells, W.listOf vs.toArray nn) :: news))
    (T : Top hd.view_39 (looseW hd.view_39 [Str.ofString "PaperError"]) mean mg mb h₀) (hcs : cs.kind = .function)
    (hdp : dp + 1 < recursionLimit)
    (hoff : OwnOff news [pen]) (hne : @Ne Nat cells pen) (hI : IntsAre vs ns) (hlen : ns.length ≤ 60)
    (hk : 0 ≤ k) (hk2 : k < 1000) (hs0 : 0 ≤ sd) (hs1 : sd < 997) (hm0 : 0 < many) (hm1 : many < 1000)
    (ret : ∀ x t t' h' tk', 0 ≤ x → x < many → Fr h₀ L h' m →
      News h₀ L h' ((pen, W.listOf #[.ref cells, .int (k + 1) t', .int sd tsd] n) :: (cells, W.listOf vs.toArray nn) :: news) → Q (.int x t) { s with heap := h', toks := tk' }) :
    wpAny (model PySem.Challenge.rw_og0124_01.row.prog w) (ktrTop dp un gd cn cs L a ccd cl outer) (call (.ref 113) [.ref pen, .int many tm]) Q E s := by
  w_top off
  have hK := kstMark
  revert X
  k_fill
  intro X
  refine wpAny_call ?_
  k_dflt cell_enter
  k_steps
  all_goals (
    (rename Fr _ _ _ _ => kF; rename News _ _ _ _ => kN)
    exact ret _ _ _ _ _ (Int.fmod_nonneg_of_pos _ hm0) (Int.fmod_lt_of_pos _ hm0) kF kN)
end Mine

namespace Mine
open PySem PySem.W PySem.Calls PyProof.Rows PyProof.V PySem.Spec
section
variable {w : World} {mean : ExcName → Option Value} {mg mb : Str → Option Value} {dp un : Nat} {gd : Option (List Code)} {cn : Str} {cs : Scope} {a : Addr} {ccd : Value} {cl : List (Str × Addr)} {outer : List Env}
    {A₀ : Around} {base h₀ : Heap} {L : Addr} {m : Str → Option Value} {news : List (Addr × Obj)} {s : Shared} {Q E : Value → Shared → Prop}
abbrev entDict (w : World) (t1 t2 t3 : Tok) (v1 v2 v3 : Value) : Obj :=
  dictOf [⟨PyData.keyHash w.params (Str.ofString "way"), .str (Str.ofString "way") t1, v1⟩, ⟨PyData.keyHash w.params (Str.ofString "one"), .str (Str.ofString "one") t2, v2⟩, ⟨PyData.keyHash w.params (Str.ofString "two"), .str (Str.ofString "two") t3, v3⟩] 3
theorem entry_make {v1 v2 v3 : Value}
    (B : Below A₀ base outer h₀) (F : Fr h₀ L s.heap m) (X : (hd.heap_39 w.params).In h₀)
    (N : News h₀ L s.heap news)
    (T : Top hd.view_39 (looseW hd.view_39 [Str.ofString "PaperError"]) mean mg mb h₀) (hcs : cs.kind = .function)
    (hdp : dp + 3 < recursionLimit) 
    (ret : ∀ (x dx : Addr) (t1 t2 t3 : Tok) h' tk', Fr h₀ L h' m → News h₀ L h' ((x, instObj 78 dx) :: (dx, entDict w t1 t2 t3 v1 v2 v3) :: news) → (∀ p ∈ news, p.1 < dx) → dx < x → Q (.ref x) { s with heap := h', toks := tk' }) : wpAny (model PySem.Challenge.rw_og0124_01.row.prog w) (ktrTop dp un gd cn cs L a ccd cl outer) (call (.ref 78) [v1, v2, v3]) Q E s := by
  w_top off
  have hK := kstMark
  revert X
  k_fill
  intro X
  k_dflt (refine' call_cls ?k1 ?k2 ?k3 ?k4 ?k5 ?k6 ?_; (case k1 => k_asm); (case k2 => k_asm); (case k3 => k_asm); (case k4 => k_is); (case k5 => k_is); (case k6 => k_is); k_whole; intro x' d' h' F' N' l1 l2; (try k_lt l1); (try k_lt2 l2); (try k_sweep))
  k_dflt (refine' code_def ?k1 ?k2 ?k3 ?k4 ?k5 ?kA ?kF ?kK ?k6 ?k7 ?k8 ?k9 ?kB ?_ ?c2 ?c3 ?c4 ?c5; (case kA => exact rfl); (case kF => exact rfl); (case kK => assumption); (case k1 => k_asm); (case k2 => k_asm); (case k3 => k_asm); (case k4 => k_asm); (case k5 => k_asm); (case k6 => k_is); (case k7 => k_is); (case k8 => (show dp + 1 < recursionLimit); omega); (case k9 => exact BindsTo.of_eq rfl); (case c5 => decide); (case kB => exact locs rfl); (case c2 => exact rfl); (case c3 => exact rfl); (case c4 => exact rfl); k_whole; intro g' L' h' FG' F' N' B' X' T'; (try dsimp only); (try k_lift B'); (try k_fold))
  k_steps
  rename Fr _ _ _ _ => kF
  rename News _ _ _ _ => kN
  exact ret _ _ _ _ _ _ _ kF kN l1 l2
end
end Mine

namespace Mine
open PySem PySem.W PySem.Calls PyProof.Rows PyProof.V PySem.Spec
/-- an Entry of the ledger T, told ('free', one, two) -/
def EntAt (w : World) (T : List (Addr × Obj)) (v : Value) (one two : Int) : Prop :=
  ∃ (x dx : Addr) (t1 t2 t3 t4 t5 t6 : Tok), v = .ref x ∧ (x, instObj 78 dx) ∈ T ∧ (dx, entDict w t1 t2 t3 (.str (Str.ofString "free") t4) (.int one t5) (.int two t6)) ∈ T
inductive Ents (w : World) (T : List (Addr × Obj)) : List (Int × Value) → List (Int × Int × Int) → Prop
  | nil : Ents w T [] []
  | cons {k : Int} {v : Value} {one two : Int} {r : List (Int × Value)} {R : List (Int × Int × Int)} : EntAt w T v one two → Ents w T r R → Ents w T ((k, v) :: r) ((k, one, two) :: R)
theorem EntAt.mono {w : World} {T T' : List (Addr × Obj)} {v : Value} {one two : Int} (h : EntAt w T v one two) (hs : ∀ p ∈ T, p ∈ T') : EntAt w T' v one two := by
  obtain ⟨x, dx, t1, t2, t3, t4, t5, t6, e, h1, h2⟩ := h
  exact ⟨x, dx, t1, t2, t3, t4, t5, t6, e, hs _ h1, hs _ h2⟩
theorem Ents.mono {w : World} {T T' : List (Addr × Obj)} (hs : ∀ p ∈ T, p ∈ T') {kE : List (Int × Value)} {R : List (Int × Int × Int)} (h : Ents w T kE R) : Ents w T' kE R := by
  induction h with
  | nil => exact .nil
  | cons a _ ih => exact .cons (a.mono hs) ih
theorem Ents.snoc {w : World} {T : List (Addr × Obj)} {k : Int} {v : Value} {one two : Int} (e : EntAt w T v one two) {kE : List (Int × Value)} {R : List (Int × Int × Int)} (h : Ents w T kE R) : Ents w T (kE ++ [(k, v)]) (R ++ [(k, one, two)]) := by
  induction h with
  | nil => exact .cons e .nil
  | cons a _ ih => exact .cons a ih
theorem Ents.keys {w : World} {T : List (Addr × Obj)} {kE : List (Int × Value)} {R : List (Int × Int × Int)} (h : Ents w T kE R) : kE.map (·.1) = R.map (·.1) := by
  induction h with
  | nil => rfl
  | cons a _ ih => simp [ih]
theorem Ents.length {w : World} {T : List (Addr × Obj)} {kE : List (Int × Value)} {R : List (Int × Int × Int)} (h : Ents w T kE R) : kE.length = R.length := by
  have := congrArg List.length h.keys
  simpa using this
theorem stored_new {K : Type} [DecidableEq K] {kvs : List (K × Value)} {k : K} {v : Value} (h : k ∉ kvs.map (·.1)) : stored kvs k v = kvs ++ [(k, v)] := by
  unfold stored
  rw [if_neg]
  intro ha
  rw [List.any_eq_true] at ha
  obtain ⟨p, hp, e⟩ := ha
  exact h (List.mem_map.mpr ⟨p, hp, of_decide_eq_true e⟩)
def chainAt (c : List (Int × Int)) (line : List Int) (i : Nat) : Int × Int × Int := (line.getD i 0, line.getD (i + 1) 0, if i = 0 then 65535 else kdfLook c (line.getD i 0) 0)
def chainList (c : List (Int × Int)) (line : List Int) (n : Nat) : List (Int × Int × Int) := (List.range n).map (chainAt c line)
theorem chainList_succ (c : List (Int × Int)) (line : List Int) (n : Nat) : chainList c line (n + 1) = chainList c line n ++ [chainAt c line n] := by
  simp [chainList, List.range_succ]
theorem chainList_keys (c : List (Int × Int)) (line : List Int) (n : Nat) (h : n ≤ line.length) : (chainList c line n).map (·.1) = line.take n := by
  apply List.ext_getElem?
  intro i
  simp only [chainList, List.map_map, List.getElem?_map, List.getElem?_take]
  by_cases hi : i < n
  · have hl : i < line.length := by omega
    simp [hi, chainAt, List.getElem?_eq_getElem hl]
  · simp [hi]
theorem notin_take {l : List Int} (hn : l.Nodup) {i : Nat} (hi : i < l.length) : l.getD i 0 ∉ l.take i := by
  intro h
  obtain ⟨j, hj, e⟩ := List.mem_iff_getElem.mp h
  have hj' : j < i := by simp at hj; omega
  rw [List.getElem_take] at e
  have e2 : l.getD i 0 = l[i] := by simp [List.getD, List.getElem?_eq_getElem hi]
  rw [e2] at e
  have := (List.getElem_inj hn).mp e
  omega
theorem flat_keys {kvs : List (Int × Value)} {c : List (Int × Int)} (h : FlatPairs PyData.int kvs (kdfD c)) : kvs.map (·.1) = c.map (·.1) := by
  induction c generalizing kvs with
  | nil => cases h; rfl
  | cons p c ih =>
    cases h with
    | cons a b => simp only [List.map_cons]; rw [ih b]
theorem has_iff {c : List (Int × Int)} {k : Int} : kdfHas c k = true ↔ k ∈ c.map (·.1) := by
  unfold kdfHas
  rw [List.any_eq_true, List.mem_map]
  constructor
  · rintro ⟨p, hp, e⟩; exact ⟨p, hp, of_decide_eq_true e⟩
  · rintro ⟨p, hp, e⟩; exact ⟨p, hp, decide_eq_true e⟩
theorem foldl_pick (P : Int → Prop) [DecidablePred P] : ∀ (ks l : List Int), ks.foldl (fun l k => if P k then l ++ [k] else l) l = l ++ ks.filter (fun k => decide (P k))
  | [], l => by simp
  | k :: r, l => by
    rw [List.foldl_cons, foldl_pick P r]
    by_cases h : P k <;> simp [h]
def freeKeys (c : List (Int × Int)) : List Int := (c.map (·.1)).filter fun k => decide (kdfLook c k 0 < 65535)
def ChainJ (prog : Program) (w : World) (df : Addr) (rest : List (Addr × Obj)) (M0 : Str → Option Value) (c : List (Int × Int)) (line : List Int) (i : Nat) (m' : Str → Option Value) (l : List (Addr × Obj)) : Prop :=
  ∃ (o : Obj) (kE : List (Int × Value)) (TT : List (Addr × Obj)) (a' b' : Option Value),
    m' = (fun y => if y = Str.ofString "later" then b' else if y = Str.ofString "at" then a' else M0 y) ∧ l = (df, o) :: (TT ++ rest) ∧ (∀ q ∈ TT, df < q.1) ∧ o.IsDictOf (PySem.intKind prog w) kE ∧ Ents w TT kE (chainList c line i)
theorem chain_turn {prog : Program} {w : World} {g h' : Heap} {L : Addr} {s₁ : Shared} {Q : Flow → Shared → Prop} {x dx df I D d nl : Addr} {oI oD od onl o o' : Obj} {m' M0 : Str → Option Value} {t1 t2 t3 t4 t5 t6 : Tok} {one two key : Int}
    {TT Wl news : List (Addr × Obj)} {kE : List (Int × Value)} {c : List (Int × Int)} {line : List Int} {i tk' : Nat}
    (F' : Fr g L h' m') (N' : News g L h' ((x, instObj 78 dx) :: (dx, entDict w t1 t2 t3 (.str (Str.ofString "free") t4) (.int one t5) (.int two t6)) :: (df, o') :: (D, oD) :: (d, od) :: Wl))
    (hd' : o'.IsDictOf (PySem.intKind prog w) (stored kE key (.ref x)))
    (hW : Wl = (I, oI) :: (TT ++ (nl, onl) :: news)) (hI9 : ∀ p ∈ (df, o) :: (TT ++ (D, oD) :: (d, od) :: (nl, onl) :: news), p.1 ≠ I)
    (l1 : df < dx ∧ D < dx ∧ d < dx ∧ AllLt dx Wl) (l2 : dx < x) (hTT : ∀ q ∈ TT, df < q.1) (hEn : Ents w TT kE (chainList c line i))
    (hm : ∀ z, z ≠ Str.ofString "later" → z ≠ Str.ofString "at" → m' z = M0 z) (hnd : line.Nodup) (hi : i < line.length)
    (hk : key = line.getD i 0) (h1 : one = line.getD (i + 1) 0) (h2 : two = if i = 0 then 65535 else kdfLook c key 0) :
    TurnEnd g L (I, oI) (ChainJ prog w df ((D, oD) :: (d, od) :: (nl, onl) :: news) M0 c line (i + 1)) s₁ Q .next { s₁ with heap := h', toks := tk' } := by
  have hIdx : I < dx := by
    have := kst_ltOf l1.2.2.2 (I, oI) (by rw [hW]; exact List.mem_cons_self ..)
    exact this
  refine ⟨h', tk', m', (df, o') :: (((x, instObj 78 dx) :: (dx, entDict w t1 t2 t3 (.str (Str.ofString "free") t4) (.int one t5) (.int two t6)) :: TT) ++ ((D, oD) :: (d, od) :: (nl, onl) :: news)), rfl, F', ?_, ?_, ?_⟩
  · refine kst_newsOf N' ?_
    intro p hp
    rw [hW]
    simp only [List.mem_cons, List.mem_append] at hp ⊢
    grind
  · intro q hq
    simp only [List.mem_cons, List.mem_append] at hq
    rcases hq with rfl | (rfl | rfl | hq) | hq
    · exact hI9 (df, o) (List.mem_cons_self ..)
    · show x ≠ I; exact Nat.ne_of_gt (Nat.lt_trans hIdx l2)
    · show dx ≠ I; exact Nat.ne_of_gt hIdx
    · exact hI9 _ (List.mem_cons_of_mem _ (List.mem_append_left _ hq))
    · exact hI9 _ (List.mem_cons_of_mem _ (List.mem_append_right _ (by simpa using hq)))
  · have hkeys : kE.map (·.1) = line.take i := by rw [hEn.keys, chainList_keys _ _ _ (by omega)]
    have hst : stored kE key (.ref x) = kE ++ [(key, .ref x)] := stored_new (by rw [hkeys, hk]; exact notin_take hnd hi)
    refine ⟨o', kE ++ [(key, .ref x)], _, m' (Str.ofString "at"), m' (Str.ofString "later"), ?_, rfl, ?_, hst ▸ hd', ?_⟩
    · funext z
      by_cases h : z = Str.ofString "later"
      · simp [h]
      · by_cases h' : z = Str.ofString "at"
        · simp [h']
          intro e; rw [e]
        · simp [h, h', hm z h h']
    · intro q hq
      simp only [List.mem_cons] at hq
      rcases hq with rfl | rfl | hq
      · show df < x; exact Nat.lt_trans l1.1 l2
      · show df < dx; exact l1.1
      · exact hTT q hq
    · rw [chainList_succ]
      have e : chainAt c line i = (key, one, two) := by unfold chainAt; rw [hk, h1, h2, hk]
      rw [e]
      exact Ents.snoc ⟨x, dx, t1, t2, t3, t4, t5, t6, rfl, List.mem_cons_self .., List.mem_cons_of_mem _ (List.mem_cons_self ..)⟩ (hEn.mono fun p hp => List.mem_cons_of_mem _ (List.mem_cons_of_mem _ hp))
end Mine

namespace Mine
open PySem PySem.W PySem.Calls PyProof.Rows PyProof.V PySem.Spec
local macro_rules | `(tactic| walk_at "exec For Name Call cons nil") => `(tactic| (k_here; (rename Fr _ _ _ _ => lF'); (with_unfolding_all refine' For_my lF' ?k1 ?k2 ?_; (case k1 => exact rfl); (case k2 => exact rfl); k_whole)))
local macro_rules | `(tactic| walk_at "call ref") => `(tactic| (k_here; (with_reducible show wpAny _ _ (call (Value.ref 78) [_, _, _]) _ _ _); k_dflt (refine' entry_make ?k1 ?k2 ?k3 ?k4 ?k5 ?k6 ?k7 ?_; (case k1 => k_asm); (case k2 => k_asm); (case k3 => k_asm); (case k4 => k_asm); (case k5 => k_asm); (case k6 => first | exact rfl | assumption); (case k7 => first | omega | ktr_room | (dsimp only [Around.deeper]; omega))); intro x' dx' t1' t2' t3' h' tk' F' N' l1 l2; (try k_lt l1); (try k_lt2 l2); (try k_sweep)))
local macro_rules | `(tactic| walk_at "setItem ref int") => `(tactic| (k_here; (with_reducible show wpAny _ _ (setItem _ _ (Value.ref _)) _ _ _); k_dflt (refine' my_setItem (knd := PySem.intKind _ _) (intKind_is _ _ _ _) ?F ?N ?U ?d ?z ?_; (case F => k_asm); (case N => k_asm); (case U => k_updF); (case d => k_asm); (case z => omega)); intro h' o' F' N' hd'; (try dsimp only at N'); (try k_sweep)))
section
variable {w : World} {mean : ExcName → Option Value} {mg mb : Str → Option Value} {dp un : Nat} {gd : Option (List Code)} {cn : Str} {cs : Scope} {a : Addr} {ccd : Value} {cl : List (Str × Addr)} {outer : List Env}
    {A₀ : Around} {base h₀ : Heap} {L : Addr} {m : Str → Option Value} {news : List (Addr × Obj)} {s : Shared} {Q E : Value → Shared → Prop}
theorem free_chain_spec {nl d : Addr} {vs : List Value} {ns : List Int} {nn : Nat} {od : Obj} {kvs : List (Int × Value)} {c : List (Int × Int)}
    (B : Below A₀ base outer h₀) (F : Fr h₀ L s.heap m) (X : (hd.heap_39 w.params).In h₀)
    (N : News h₀ L s.heap ((nl, W.listOf vs.toArray nn) :: (d, od) :: news))
    (T : Top hd.view_39 (looseW hd.view_39 [Str.ofString "PaperError"]) mean mg mb h₀) (hcs : cs.kind = .function)
    (hdp : dp + 5 < recursionLimit)
    (hI : IntsAre vs ns) (hlen : ns.length ≤ 8)
    (hod : od.IsDictOf (intKind PySem.Challenge.rw_og0124_01.row.prog w) kvs) (hfl : FlatPairs PyData.int kvs (kdfD c)) (hlod : (d == sysModules) = false) (hns : ns.Nodup) (hpos : ∀ x ∈ ns, 0 < x)
    (ret : ∀ (df : Addr) (o : Obj) (kE : List (Int × Value)) (TT : List (Addr × Obj)) (zs : List Int) h' tk', Fr h₀ L h' m → News h₀ L h' ((df, o) :: (TT ++ (nl, W.listOf vs.toArray nn) :: (d, od) :: news)) →
      (∀ q ∈ TT, df < q.1) → nl < df ∧ d < df ∧ AllLt df news → (df == sysModules) = false → o.IsDictOf (intKind PySem.Challenge.rw_og0124_01.row.prog w) kE → zs.Perm ns → zs.Pairwise (· ≤ ·) →
      Ents w TT kE (chainList c (0 :: zs) (zs.length + 1)) → Q (.ref df) { s with heap := h', toks := tk' }) :
    wpAny (model PySem.Challenge.rw_og0124_01.row.prog w) (ktrTop dp un gd cn cs L a ccd cl outer) (call (.ref 87) [.ref nl, .ref d]) Q E s := by
  w_top off
  have hK := kstMark
  revert X
  k_fill
  intro X
  refine wpAny_call ?_
  k_dflt cell_enter
  k_steps
  · rename_i D1 v1 sn c1 h1 F1 N1 I1 e1 p1 o1 b1 p01 l1 D2 ys h2 tk2 F2 N2 g2 L2 NP2 C2
    have kL0 : Heap.IsList _ _ [Value.int 0 _].toArray := N2.isList (List.Mem.tail _ (List.Mem.head _))
    obtain ⟨zs, hzs⟩ : ∃ zs, zs = List.filter (fun a => decide (0 < a)) sn := ⟨_, rfl⟩
    have kI2 := IntsAre.ofCarried C2
    rw [← hzs] at kI2
    have hz1 : zs.length ≤ ns.length := by rw [hzs, ← e1]; exact List.length_filter_le _ _
    clear C2 NP2
    obtain ⟨line, hline⟩ : ∃ line, [0] ++ zs = line := ⟨_, rfl⟩
    have hlen9 : line.length ≤ 9 := by rw [← hline]; simp; omega
    have hzsn : zs = sn := by rw [hzs]; exact List.filter_eq_self.mpr fun x hx => decide_eq_true (hpos x (p1.mem_iff.mp hx))
    have hnd : line.Nodup := by
      rw [← hline, hzsn]
      refine List.nodup_cons.mpr ⟨fun h => ?_, p1.nodup_iff.mpr hns⟩
      have := hpos 0 (p1.mem_iff.mp h)
      omega
    refine my_add F2 N2 kL0 L2 (.cons _ _ .nil) kI2 hline (by omega) ?_
    · intro D us h9 F9 N9 l9 I9
      k_lt l9
      k_steps
      · rename_i df hX of lof hsf fsf hif fif l1f hY F3 N3 hR tkR t1 u1 v2 rR FR NR kR
        unfold MyIter
        obtain ⟨M0, hM0, FR0⟩ := Fr.ex FR
        have NR0 : News _ _ _ ((df, of) :: (D, W.listOf us.toArray 0) :: (d, od) :: (nl, W.listOf vs.toArray nn) :: news) := fun p hp => NR p (by simp only [List.mem_cons] at hp ⊢; rcases hp with h | h | h | h | h <;> simp [h])
        clear NR N3 FR
        refine my_range (ChainJ PySem.Challenge.rw_og0124_01.row.prog w df ((D, W.listOf us.toArray 0) :: (d, od) :: (nl, W.listOf vs.toArray nn) :: news) M0 c line) (n := line.length) (by rfl) rR ?_ ?_ FR0 NR0 ?_ ?_ ?_
        · exact small_one (by omega) (by omega) (by omega) (by omega)
        · exact rangeSize_nat _ _
        · exact ⟨of, [], [], M0 (Str.ofString "at"), M0 (Str.ofString "later"), map_at2 M0 _ _, rfl, (fun _ h => nomatch h), hif, .nil⟩
        · rintro i m₁ l₁ h tk I oI t hi ⟨o, kE, TT, a', b', rfl, rfl, hTT, hkE, hEn⟩ hI9 Ft Nt
          obtain ⟨Wl, hW⟩ : ∃ Wl, Wl = (I, oI) :: (TT ++ (nl, W.listOf vs.toArray nn) :: news) := ⟨_, rfl⟩
          have hWo : OwnOff Wl [df] := by
            intro p hp b hb
            rw [List.mem_singleton.mp hb]
            rw [hW] at hp
            simp only [List.mem_cons, List.mem_append] at hp
            rcases hp with rfl | hp | rfl | hp
            · exact fun e => hI9 _ (List.mem_cons_self ..) e.symm
            · exact Nat.ne_of_gt (hTT _ hp)
            · show nl ≠ df; exact Nat.ne_of_lt (by omega)
            · exact Nat.ne_of_lt (kst_ltOf l1f.2.2.2.2.2 p hp)
          have Nt2 := kst_newsOf (l' := (df, o) :: (D, W.listOf us.toArray 0) :: (d, od) :: Wl) Nt (by
            intro p hp; rw [hW] at hp; simp only [List.mem_cons, List.mem_append] at hp ⊢; grind)
          clear Nt
          have hkl : kE.length = i := by rw [hEn.length]; simp [chainList]
          subst hM0
          k_steps
          all_goals (
            (rename Fr _ _ _ _ => F9); (rename News _ _ _ _ => N9); (rename Obj.IsDictOf _ _ (stored _ _ _) => hd9); (rename ((_ : Nat) < _ ∧ _ ∧ _ ∧ AllLt _ _) => l19); (rename ((_ : Nat) < _) => l29))
          all_goals (refine chain_turn F9 N9 hd9 hW hI9 l19 l29 hTT hEn (by intro z h1 h2; simp [h1, h2]) hnd hi ?_ ?_ ?_)
          all_goals first
            | (rw [show (0 + (i : Int)).toNat = i by omega]; done)
            | (rw [show (0 + (i : Int) + 1).toNat = i + 1 by omega]; done)
            | (rw [if_pos (by omega)]; done)
            | (rw [if_neg (by omega)]; done)
            | (rw [List.getD_eq_getElem?_getD, List.getElem?_eq_none (by omega)]; rfl)
        · rintro m₁ l₁ h tk ⟨o, kE, TT, a', b', rfl, rfl, hTT, hkE, hEn⟩ Ft Nt
          subst hM0
          k_steps
          rename Fr _ _ _ _ => F9
          rename News _ _ _ _ => N9
          refine ret df o kE TT zs _ _ F9 (kst_newsOf N9 ?_) hTT ⟨l1f.2.2.2.1, l1f.2.2.2.2.1, l1f.2.2.2.2.2⟩ lof hkE (hzsn ▸ p1) (hzsn ▸ o1) ?_
          · intro p hp; simp only [List.mem_cons, List.mem_append] at hp ⊢; grind
          · rw [← hline] at hEn; exact hEn
end
end Mine

namespace Mine
open PySem PySem.W PySem.Calls PyProof.Rows PyProof.V PySem.Spec
def spentList (c : List (Int × Int)) : List (Int × Int × Int) := (c.filter fun p => decide (65535 ≤ p.2)).map fun p => (p.1, 0, 65535)
def fullList (c : List (Int × Int)) (zs : List Int) (i : Nat) : List (Int × Int × Int) := chainList c (0 :: zs) (zs.length + 1) ++ spentList (c.take i)
theorem spent_step {c : List (Int × Int)} {i : Nat} {p : Int × Int} (h : c[i]? = some p) : spentList (c.take (i + 1)) = spentList (c.take i) ++ (if 65535 ≤ p.2 then [(p.1, 0, 65535)] else []) := by
  unfold spentList
  rw [List.take_add_one, h]
  simp only [Option.toList, List.filter_append, List.map_append]
  by_cases hp : 65535 ≤ p.2 <;> simp [hp]
theorem look_at {c : List (Int × Int)} (hn : (c.map (·.1)).Nodup) {i : Nat} {p : Int × Int} (h : c[i]? = some p) (e : Int) : kdfLook c p.1 e = p.2 := by
  induction c generalizing i with
  | nil => cases h
  | cons q c ih =>
    have hn' := List.nodup_cons.mp hn
    cases i with
    | zero =>
      simp only [List.getElem?_cons_zero, Option.some.injEq] at h
      subst h
      simp [kdfLook]
    | succ i =>
      have h' : c[i]? = some p := by simpa using h
      have hne : q.1 ≠ p.1 := fun e => hn'.1 (by rw [show (fun x : Int × Int => x.1) q = p.1 from e]; exact List.mem_map.mpr ⟨p, List.mem_of_getElem? h', rfl⟩)
      have := ih hn'.2 h'
      unfold kdfLook at this ⊢
      rw [List.find?_cons_of_neg (by simpa using hne)]
      exact this
theorem mem_freeKeys {c : List (Int × Int)} {k : Int} (h : k ∈ freeKeys c) : kdfLook c k 0 < 65535 := of_decide_eq_true (List.mem_filter.mp h).2
theorem full_keys {c : List (Int × Int)} {zs : List Int} {i : Nat} : (fullList c zs i).map (·.1) = (0 :: zs) ++ ((c.take i).filter fun p => decide (65535 ≤ p.2)).map (·.1) := by
  unfold fullList spentList
  rw [List.map_append, chainList_keys _ _ _ (by simp), List.map_map]
  congr 1
  exact List.take_of_length_le (by simp)
theorem full_fresh {c : List (Int × Int)} {zs : List Int} {i : Nat} {p : Int × Int} (hn : (c.map (·.1)).Nodup) (hz : zs.Perm (freeKeys c)) (h : c[i]? = some p) (hp : 0 < p.1) (hs : 65535 ≤ p.2) : p.1 ∉ (fullList c zs i).map (·.1) := by
  rw [full_keys]
  intro hm
  simp only [List.mem_append, List.mem_cons] at hm
  rcases hm with (hm | hm) | hm
  · omega
  · have := mem_freeKeys (hz.mem_iff.mp hm)
    rw [look_at hn h] at this
    omega
  · obtain ⟨q, hq, e⟩ := List.mem_map.mp hm
    have hq := (List.mem_filter.mp hq).1
    obtain ⟨j, hj, e2⟩ := List.mem_iff_getElem.mp hq
    have hji : j < i := by simp at hj; omega
    have hjc : j < c.length := by simp at hj; omega
    rw [List.getElem_take] at e2
    have hic : i < c.length := by
      rcases Nat.lt_or_ge i c.length with h1 | h1
      · exact h1
      · rw [List.getElem?_eq_none h1] at h; cases h
    have e3 : c[i] = p := by rw [List.getElem?_eq_getElem hic] at h; exact Option.some.inj h
    have := (List.getElem_inj (xs := c.map (·.1)) (i := j) (j := i) (h₀ := by simpa using hjc) (h₁ := by simpa using hic) hn).mp (by simp only [List.getElem_map]; rw [e2, e3]; exact e)
    omega
theorem Ents.at_ {w : World} {T : List (Addr × Obj)} {kE : List (Int × Value)} {R : List (Int × Int × Int)} (h : Ents w T kE R) (hn : (kE.map (·.1)).Nodup) {k one two : Int} (hm : (k, one, two) ∈ R) : ∃ v, valueAt kE k = some v ∧ EntAt w T v one two := by
  induction h with
  | nil => cases hm
  | @cons k' v one' two' r R' a _ ih =>
    have hn' := List.nodup_cons.mp hn
    rcases List.mem_cons.mp hm with e | hm
    · cases e
      exact ⟨v, by simp [valueAt], a⟩
    · obtain ⟨v', hv, ha⟩ := ih hn'.2 hm
      refine ⟨v', ?_, ha⟩
      have hk : k ∈ r.map (·.1) := by
        unfold valueAt at hv
        cases hf : r.find? (fun kv => decide (kv.1 = k)) with
        | none => rw [hf] at hv; cases hv
        | some p =>
          have h1 := List.mem_of_find?_eq_some hf
          have h2 := List.find?_some hf
          exact List.mem_map.mpr ⟨p, h1, of_decide_eq_true h2⟩
      have hne : k' ≠ k := fun e => hn'.1 (e ▸ hk)
      unfold valueAt at hv ⊢
      rw [List.find?_cons_of_neg (by simpa using hne)]
      exact hv
theorem valueAt_none {kE : List (Int × Value)} {k : Int} (h : k ∉ kE.map (·.1)) : (valueAt kE k).isSome = false := by
  unfold valueAt
  cases hf : kE.find? (fun kv => decide (kv.1 = k)) with
  | none => rfl
  | some p =>
    have h2 := List.find?_some hf
    exact absurd (List.mem_map.mpr ⟨p, List.mem_of_find?_eq_some hf, of_decide_eq_true h2⟩) h
theorem dict_nodup {prog : Program} {w : World} {o : Obj} {kE : List (Int × Value)} (h : o.IsDictOf (PySem.intKind prog w) kE) : (kE.map (·.1)).Nodup := by
  obtain ⟨_, _, _, _, _, _, hn⟩ := h; exact hn
def genOf (R : List (Int × Int × Int)) (k : Int) : Int := ((R.find? fun e => decide (e.1 = k)).map (·.2.2)).getD 0
theorem Ents.look {w : World} {T : List (Addr × Obj)} {kE : List (Int × Value)} {R : List (Int × Int × Int)} (h : Ents w T kE R) (k : Int) :
    (valueAt kE k = none ∧ genOf R k = 0) ∨ ∃ v one two, valueAt kE k = some v ∧ EntAt w T v one two ∧ genOf R k = two ∧ (k, one, two) ∈ R := by
  induction h with
  | nil => exact .inl ⟨rfl, rfl⟩
  | @cons k' v one two r R' a _ ih =>
    by_cases hk : k' = k
    · subst hk
      exact .inr ⟨v, one, two, by simp [valueAt], a, by simp [genOf], List.mem_cons_self ..⟩
    · have e1 : valueAt ((k', v) :: r) k = valueAt r k := by
        unfold valueAt; rw [List.find?_cons_of_neg (by simpa using hk)]
      have e2 : genOf ((k', one, two) :: R') k = genOf R' k := by
        unfold genOf; rw [List.find?_cons_of_neg (by simpa using hk)]
      rw [e1, e2]
      rcases ih with ih | ⟨v', o', t', h1, h2, h3, h4⟩
      · exact .inl ih
      · exact .inr ⟨v', o', t', h1, h2, h3, List.mem_cons_of_mem _ h4⟩
def genList (R : List (Int × Int × Int)) (n : Nat) : List (Int × Int) := (List.range n).map fun (i : Nat) => (1 + (i : Int), genOf R (1 + (i : Int)))
theorem genList_succ (R : List (Int × Int × Int)) (n : Nat) : genList R (n + 1) = genList R n ++ [(1 + (n : Int), genOf R (1 + (n : Int)))] := by
  simp [genList, List.range_succ]
theorem put_gen (R : List (Int × Int × Int)) (n : Nat) (v : Int) : kdfPut (genList R n) (1 + (n : Int)) v = genList R n ++ [(1 + (n : Int), v)] := by
  unfold kdfPut
  rw [if_neg]
  rw [List.any_eq_true]
  rintro ⟨p, hp, e⟩
  have e := of_decide_eq_true e
  simp only [genList, List.mem_map, List.mem_range] at hp
  obtain ⟨i, hi, rfl⟩ := hp
  simp only at e
  omega
def GenJ (prog : Program) (w : World) (df : Addr) (rest : List (Addr × Obj)) (M0 : Str → Option Value) (R : List (Int × Int × Int)) (i : Nat) (m' : Str → Option Value) (l : List (Addr × Obj)) : Prop :=
  ∃ (o : Obj) (kF : List (Int × Value)) (a' : Option Value), m' = (fun y => if y = Str.ofString "number" then a' else M0 y) ∧ l = (df, o) :: rest ∧ o.IsDictOf (PySem.intKind prog w) kF ∧ FlatPairs PyData.int kF (kdfD (genList R i))
def SpentJ (prog : Program) (w : World) (df : Addr) (rest : List (Addr × Obj)) (M0 : Str → Option Value) (c : List (Int × Int)) (zs : List Int) (i : Nat) (m' : Str → Option Value) (l : List (Addr × Obj)) : Prop :=
  ∃ (o : Obj) (kE : List (Int × Value)) (TT : List (Addr × Obj)) (a' : Option Value),
    m' = (fun y => if y = Str.ofString "number" then a' else M0 y) ∧ l = (df, o) :: (TT ++ rest) ∧ (∀ q ∈ TT, df < q.1) ∧ o.IsDictOf (PySem.intKind prog w) kE ∧ Ents w TT kE (fullList c zs i)
def ChainOfJ (prog : Program) (w : World) (lf dk : Addr) (rest : List (Addr × Obj)) (M0 : Str → Option Value) (zs : List Int) (n : Nat) (m' : Str → Option Value) (l : List (Addr × Obj)) : Prop :=
  ∃ (i : Nat) (ok : Obj) (kK : List (Int × Value)) (us : List Value) (nU : Nat) (t : Tok) (e' : Option Value), n = zs.length - i ∧ i ≤ zs.length ∧
    m' = (fun y => if y = Str.ofString "entry" then e' else if y = Str.ofString "here" then some (Value.int ((0 :: zs).getD i 0) t) else M0 y) ∧
    l = (dk, ok) :: (lf, W.listOf us.toArray nU) :: rest ∧ ok.IsDictOf (PySem.intKind prog w) kK ∧ kK.map (·.1) = (0 :: zs).take (i + 1) ∧ IntsAre us (zs.take i)
section
variable {prog : Program} {w : World} {g h' : Heap} {L : Addr} {s₁ : Shared} {Q : Flow → Shared → Prop} {x dx df I d Lc : Addr} {oI od oc o o' : Obj} {m' M0 : Str → Option Value} {t1 t2 t3 t4 t5 t6 : Tok} {one two key : Int}
    {TT Wl rest : List (Addr × Obj)} {kE : List (Int × Value)} {c : List (Int × Int)} {zs : List Int} {i tk' : Nat} {p : Int × Int}
theorem map_ne1 {x : Str} (hm : ∀ z, z ≠ x → m' z = M0 z) : m' = fun y => if y = x then m' x else M0 y := by
  funext z
  by_cases h : z = x
  · rw [if_pos h, h]
  · rw [if_neg h]; exact hm z h
theorem spent_new
    (F' : Fr g L h' m') (N' : News g L h' ((x, instObj 78 dx) :: (dx, entDict w t1 t2 t3 (.str (Str.ofString "free") t4) (.int 0 t5) (.int 65535 t6)) :: (df, o') :: (d, od) :: (Lc, oc) :: Wl))
    (hd' : o'.IsDictOf (PySem.intKind prog w) (stored kE key (.ref x)))
    (hW : Wl = (I, oI) :: (TT ++ rest)) (hI9 : ∀ p ∈ (df, o) :: (TT ++ (d, od) :: (Lc, oc) :: rest), p.1 ≠ I)
    (l1 : df < dx ∧ d < dx ∧ Lc < dx ∧ AllLt dx Wl) (l2 : dx < x) (hTT : ∀ q ∈ TT, df < q.1) (hEn : Ents w TT kE (fullList c zs i))
    (hm : ∀ z, z ≠ Str.ofString "number" → m' z = M0 z) (hn : (c.map (·.1)).Nodup) (hz : zs.Perm (freeKeys c)) (hp : c[i]? = some p) (hp0 : 0 < p.1) (hk : key = p.1) (hs : 65535 ≤ kdfLook c key 0) :
    TurnEnd g L (I, oI) (SpentJ prog w df ((d, od) :: (Lc, oc) :: rest) M0 c zs (i + 1)) s₁ Q .next { s₁ with heap := h', toks := tk' } := by
  subst hk
  rw [look_at hn hp] at hs
  have hIdx : I < dx := kst_ltOf l1.2.2.2 (I, oI) (by rw [hW]; exact List.mem_cons_self ..)
  refine ⟨h', tk', m', (df, o') :: (((x, instObj 78 dx) :: (dx, entDict w t1 t2 t3 (.str (Str.ofString "free") t4) (.int 0 t5) (.int 65535 t6)) :: TT) ++ ((d, od) :: (Lc, oc) :: rest)), rfl, F', ?_, ?_, ?_⟩
  · refine kst_newsOf N' ?_
    intro p hp
    rw [hW]
    simp only [List.mem_cons, List.mem_append] at hp ⊢
    grind
  · intro q hq
    simp only [List.mem_cons, List.mem_append] at hq
    rcases hq with rfl | (rfl | rfl | hq) | hq
    · exact hI9 (df, o) (List.mem_cons_self ..)
    · show x ≠ I; exact Nat.ne_of_gt (Nat.lt_trans hIdx l2)
    · show dx ≠ I; exact Nat.ne_of_gt hIdx
    · exact hI9 _ (List.mem_cons_of_mem _ (List.mem_append_left _ hq))
    · exact hI9 _ (List.mem_cons_of_mem _ (List.mem_append_right _ (by simpa using hq)))
  · have hst : stored kE p.1 (.ref x) = kE ++ [(p.1, .ref x)] := stored_new (by rw [hEn.keys]; exact full_fresh hn hz hp hp0 hs)
    refine ⟨o', kE ++ [(p.1, .ref x)], _, m' (Str.ofString "number"), map_ne1 hm, rfl, ?_, hst ▸ hd', ?_⟩
    · intro q hq
      simp only [List.mem_cons] at hq
      rcases hq with rfl | rfl | hq
      · show df < x; exact Nat.lt_trans l1.1 l2
      · show df < dx; exact l1.1
      · exact hTT q hq
    · unfold fullList
      rw [spent_step hp, if_pos hs, ← List.append_assoc]
      exact Ents.snoc ⟨x, dx, t1, t2, t3, t4, t5, t6, rfl, List.mem_cons_self .., List.mem_cons_of_mem _ (List.mem_cons_self ..)⟩ (hEn.mono fun p hp => List.mem_cons_of_mem _ (List.mem_cons_of_mem _ hp))
theorem spent_old
    (F' : Fr g L h' m') (N' : News g L h' ((df, o) :: (d, od) :: (Lc, oc) :: Wl)) (hd' : o.IsDictOf (PySem.intKind prog w) kE)
    (hW : Wl = (I, oI) :: (TT ++ rest)) (hI9 : ∀ p ∈ (df, o) :: (TT ++ (d, od) :: (Lc, oc) :: rest), p.1 ≠ I) (hTT : ∀ q ∈ TT, df < q.1) (hEn : Ents w TT kE (fullList c zs i))
    (hm : ∀ z, z ≠ Str.ofString "number" → m' z = M0 z) (hn : (c.map (·.1)).Nodup) (hp : c[i]? = some p) (hk : key = p.1) (hs : ¬ 65535 ≤ kdfLook c key 0) :
    TurnEnd g L (I, oI) (SpentJ prog w df ((d, od) :: (Lc, oc) :: rest) M0 c zs (i + 1)) s₁ Q .next { s₁ with heap := h', toks := tk' } := by
  subst hk
  rw [look_at hn hp] at hs
  refine ⟨h', tk', m', (df, o) :: (TT ++ ((d, od) :: (Lc, oc) :: rest)), rfl, F', ?_, hI9, ?_⟩
  · refine kst_newsOf N' ?_
    intro p hp
    rw [hW]
    simp only [List.mem_cons, List.mem_append] at hp ⊢
    grind
  · refine ⟨o, kE, TT, m' (Str.ofString "number"), map_ne1 hm, rfl, hTT, hd', ?_⟩
    unfold fullList
    rw [spent_step hp, if_neg hs, List.append_nil]
    exact hEn
theorem gen_turn {R : List (Int × Int × Int)} {kF : List (Int × Value)} {v : Int} {de : Addr} {oe : Obj} {news : List (Addr × Obj)}
    (F' : Fr g L h' m') (N' : News g L h' ((df, o') :: (de, oe) :: (I, oI) :: news)) (hd' : o'.IsDictOf (PySem.intKind prog w) kF)
    (hf' : FlatPairs PyData.int kF (kdfD (kdfPut (genList R i) (1 + (i : Int)) v))) (hv : v = genOf R (1 + (i : Int)))
    (hI9 : ∀ p ∈ (df, o) :: (de, oe) :: news, p.1 ≠ I) (hm : ∀ z, z ≠ Str.ofString "number" → m' z = M0 z) :
    TurnEnd g L (I, oI) (GenJ prog w df ((de, oe) :: news) M0 R (i + 1)) s₁ Q .next { s₁ with heap := h', toks := tk' } := by
  refine ⟨h', tk', m', (df, o') :: (de, oe) :: news, rfl, F', kst_newsOf N' ?_, ?_, o', kF, m' (Str.ofString "number"), map_ne1 hm, rfl, hd', ?_⟩
  · intro p hp; simp only [List.mem_cons] at hp ⊢; grind
  · intro q hq
    rcases List.mem_cons.mp hq with rfl | hq
    · exact hI9 (df, o) (List.mem_cons_self ..)
    · exact hI9 _ (List.mem_cons_of_mem _ hq)
  · rw [put_gen, hv, ← genList_succ] at hf'
    exact hf'
end
end Mine

namespace Mine
open PySem PySem.W PySem.Calls PyProof.Rows PyProof.V PySem.Spec
local macro_rules | `(tactic| walk_at "exec Assign cons ListComp") => `(tactic| (k_here; k_dflt (refine my_comp_keys (F₀ := by k_asm) (by with_unfolding_all rfl) (by with_unfolding_all rfl) (by decide) (by rfl) (by decide) (by rfl) (by rfl) (by rfl) ?_)))
local macro_rules | `(tactic| walk_at "call ref") => `(tactic| (k_here; (with_reducible show wpAny _ _ (call (Value.ref 78) [_, _, _]) _ _ _); k_dflt (refine' entry_make ?k1 ?k2 ?k3 ?k4 ?k5 ?k6 ?k7 ?_; (case k1 => k_asm); (case k2 => k_asm); (case k3 => k_asm); (case k4 => k_asm); (case k5 => k_asm); (case k6 => first | exact rfl | assumption); (case k7 => first | omega | ktr_room | (dsimp only [Around.deeper]; omega))); intro x' dx' t1' t2' t3' h' tk' F' N' l1 l2; (try k_lt l1); (try k_lt2 l2); (try k_sweep)))
local macro_rules | `(tactic| walk_at "call ref") => `(tactic| (k_here; (with_reducible show wpAny _ _ (call (Value.ref 87) [_, _]) _ _ _); k_dflt (refine' free_chain_spec ?k1 ?k2 ?k3 ?k4 ?k5 ?k6 ?k7 ?k8 ?k9 ?k10 ?k11 ?k12 ?k13 ?k14 ?_; (case k1 => k_asm); (case k2 => k_asm); (case k3 => k_asm); (case k4 => k_asm); (case k5 => k_asm); (case k6 => first | exact rfl | assumption); (case k7 => first | omega | ktr_room | (dsimp only [Around.deeper]; omega)); (case k8 => assumption); (case k9 => assumption); (case k10 => assumption); (case k11 => assumption); (case k12 => assumption); (case k13 => assumption); (case k14 => assumption)); intro df' of' kE' TT' zs' h' tk' F' N' l1 l2 lo' hd' hp' hw' hE'; (try k_sweep)))
local macro_rules | `(tactic| walk_at "exec For Name Name cons nil") => `(tactic| (k_here; (rename Fr _ _ _ _ => lF'); (with_unfolding_all refine' For_my lF' ?k1 ?k2 ?_; (case k1 => exact rfl); (case k2 => exact rfl); k_whole)))
local macro_rules | `(tactic| walk_at "setItem ref int") => `(tactic| (k_here; (with_reducible show wpAny _ _ (setItem _ _ (Value.ref _)) _ _ _); k_dflt (refine' my_setItem (knd := PySem.intKind _ _) (intKind_is _ _ _ _) ?F ?N ?U ?d ?z ?_; (case F => k_asm); (case N => k_asm); (case U => k_updF); (case d => k_asm); (case z => omega)); intro h' o' F' N' hd'; (try dsimp only at N'); (try k_sweep)))
section
variable {w : World} {mean : ExcName → Option Value} {mg mb : Str → Option Value} {dp un : Nat} {gd : Option (List Code)} {cn : Str} {cs : Scope} {a : Addr} {ccd : Value} {cl : List (Str × Addr)} {outer : List Env}
    {A₀ : Around} {base h₀ : Heap} {L : Addr} {m : Str → Option Value} {news : List (Addr × Obj)} {s : Shared} {Q E : Value → Shared → Prop}
theorem free_entries_spec {d : Addr} {od : Obj} {kvs : List (Int × Value)} {c : List (Int × Int)}
    (B : Below A₀ base outer h₀) (F : Fr h₀ L s.heap m) (X : (hd.heap_39 w.params).In h₀)
    (N : News h₀ L s.heap ((d, od) :: news))
    (T : Top hd.view_39 (looseW hd.view_39 [Str.ofString "PaperError"]) mean mg mb h₀) (hcs : cs.kind = .function)
    (hdp : dp + 9 < recursionLimit)

    (hod : od.IsDictOf (intKind PySem.Challenge.rw_og0124_01.row.prog w) kvs) (hfl : FlatPairs PyData.int kvs (kdfD c)) (hc : c.length ≤ 8) (hlod : (d == sysModules) = false) (hpos : ∀ p ∈ c, 0 < p.1)
    (ret : ∀ (df : Addr) (o : Obj) (kE : List (Int × Value)) (TT : List (Addr × Obj)) (zs : List Int) h' tk', Fr h₀ L h' m → News h₀ L h' ((df, o) :: (TT ++ (d, od) :: news)) →
      (∀ q ∈ TT, df < q.1) → d < df ∧ AllLt df news → (df == sysModules) = false → o.IsDictOf (intKind PySem.Challenge.rw_og0124_01.row.prog w) kE → zs.Perm (freeKeys c) → zs.Pairwise (· ≤ ·) →
      Ents w TT kE (fullList c zs c.length) → Q (.ref df) { s with heap := h', toks := tk' }) :
    wpAny (model PySem.Challenge.rw_og0124_01.row.prog w) (ktrTop dp un gd cn cs L a ccd cl outer) (call (.ref 106) [.ref d]) Q E s := by
  w_top off
  have hK := kstMark
  revert X
  k_fill
  intro X
  refine wpAny_call ?_
  k_dflt (refine' code_defC ?k1 ?k2 ?k3 ?k4 ?k5 ?kA ?kF ?kK ?k6 ?k7 ?k8 ?k9 ?kB ?kD ?_ ?c2 ?c3 ?c4; (case kA => exact rfl); (case kF => exact rfl); (case kK => assumption); (case k1 => k_asm); (case k2 => k_asm); (case k3 => k_asm); (case k4 => k_asm); (case k5 => k_asm); (case k6 => k_is); (case k7 => k_is); (case k8 => ktr_room); (case k9 => exact BindsTo.of_eq rfl); (case kB => exact rfl); (case kD => decide +kernel); (case c2 => exact rfl); (case c3 => exact rfl); (case c4 => exact rfl); k_whole; intro g' L' h' tk' cells' FG' F' N' Y' B' X' T' l1; (try k_lt l1); k_cells Y'; (try simp only [List.cons_append, List.nil_append] at N'); (try dsimp only); (try k_lift B'); (try k_fold))
  rename_i o1 d0
  have d1 : o1.data = Data.cell (some (Value.ref d)) := d0
  clear d0
  k_steps
  ·
    have hkn : (kvs.map (·.1)).Nodup := by obtain ⟨_, _, _, _, _, _, hn⟩ := hod; exact hn
    have hcl : kvs.length = c.length := by rw [← hfl.length, kdfD_length]
    refine ⟨d, od, kvs, _, rfl, rfl, F', N', List.Mem.tail _ (List.Mem.head _), hod, hlod, by omega, ?_⟩
    rintro s₂ ⟨hh, rfl⟩
    have hP : ∀ i v, i < kvs.length → (∃ k z, kvs[i]? = some (k, z) ∧ (PySem.intKind PySem.Challenge.rw_og0124_01.row.prog w).is k v = true) → ∃ k t, (kvs.map (·.1))[i]? = some k ∧ v = .int k t := by
      rintro i v _ ⟨k, z, e, hk⟩
      obtain ⟨t, rfl⟩ := Value.isInt_shape hk
      exact ⟨k, t, by rw [List.getElem?_map, e]; rfl, rfl⟩
    refine kci_rest (ks := kvs.map (·.1)) (fun l k => if kdfLook c k 0 < 65535 then l ++ [k] else l) (by simp) hP ?_ ?_ ?_
    · intro k t I oI C oC D m2 ys l h tk E' hkm hys hC hx Fc Nc off ne mk
      have off0 := off
      simp only [LCg.Off3] at off
      have hkh : kdfHas c k = true := has_iff.mpr (flat_keys hfl ▸ hkm)
      have hlk := kdfD_item hkh
      k_steps
      · rename ((_ : Int) < _) => hlt
        rename News _ _ _ _ => Nc9
        rename Fr _ _ _ _ => Fc9
        exact ⟨_, _, _, rfl, Fc9, Nc9, off0, List.Mem.tail _ (List.Mem.head _), rfl, k, t, rfl, by rw [if_pos (by omega)]⟩
      · rename (¬ (_ : Int) < _) => hlt
        rename News _ _ _ _ => Nc9
        rename Fr _ _ _ _ => Fc9
        exact ⟨_, _, _, rfl, Fc9, Nc9, off0, List.Mem.tail _ (List.Mem.head _), rfl, by rw [if_neg (by omega)]⟩
    · intro ys hI hl
      intro D h9 tk9 (F9 : Fr g' L' h9 _) (N9 : News g' L' h9 _) o9
      rw [foldl_pick (fun k => kdfLook c k 0 < 65535), List.nil_append, flat_keys hfl] at hI
      have N10 := kst_newsOf (l' := (D, LCg.lst ys) :: (d, od) :: (L' + 1, o1) :: news) N9 (by intro p hp; simp only [List.mem_cons] at hp ⊢; grind)
      clear N9
      have hfk1 : (freeKeys c).length ≤ 8 := by unfold freeKeys; exact Nat.le_trans (List.length_filter_le _ _) (by rw [List.length_map]; exact hc)
      have hfk2 : (freeKeys c).Nodup := (flat_keys hfl ▸ hkn : (c.map (·.1)).Nodup).sublist List.filter_sublist
      have hfk3 : ∀ x ∈ freeKeys c, 0 < x := by
        intro x hx
        obtain ⟨p, hp, rfl⟩ := List.mem_map.mp (List.mem_filter.mp hx).1
        exact hpos p hp
      change IntsAre ys (freeKeys c) at hI
      refine (show wpAny _ _ (execs _ _) _ _ _ from ?_)
      k_fold
      iterate 14 (first | (k_unfold; (try dsimp only)) | (k_end; wrow_close) | walk1 | (dsimp only; walk1) | (leave1; try dsimp only) | skip)
      rename_i df of kE TT zs hA tkA lT lD lof hof pzs wzs hEn hB FB NB
      obtain ⟨Wl, hWl⟩ : ∃ Wl, Wl = TT ++ (D, W.listOf ys.toArray ys.length) :: news := ⟨_, rfl⟩
      have NB2 := kst_newsOf (l' := (df, of) :: (d, od) :: (L' + 1, o1) :: Wl) NB (by intro p hp; rw [hWl] at hp; simp only [List.mem_cons, List.mem_append] at hp ⊢; grind)
      clear NB
      have NB3 := NB2
      k_steps
      unfold MyIter
      rename Fr _ _ _ _ => FB
      obtain ⟨M0, hM0, FB0⟩ := Fr.ex FB
      have hcn : (c.map (·.1)).Nodup := flat_keys hfl ▸ hkn
      refine my_keys (knd := intKind _ _) (SpentJ PySem.Challenge.rw_og0124_01.row.prog w df ((d, od) :: (L' + 1, o1) :: (D, W.listOf ys.toArray ys.length) :: news) M0 c zs) (by rfl) ?_ hod hlod ?_ FB0 (kst_newsOf (l' := (df, of) :: (TT ++ (d, od) :: (L' + 1, o1) :: (D, W.listOf ys.toArray ys.length) :: news)) NB3 ?_) ?_ ?_ ?_
      · simp
      · rintro i m l ⟨o, kE, TT, a', rfl, rfl, _⟩; simp
      · intro p hp; rw [hWl]; simp only [List.mem_cons, List.mem_append] at hp ⊢; grind
      · refine ⟨of, kE, TT, M0 (Str.ofString "number"), map_ne1 (fun _ _ => rfl), rfl, lT, hof, ?_⟩
        unfold fullList spentList
        simpa using hEn
      · rintro i m₁ l₁ h tk I oI k v key hkv hkey ⟨o, kE2, TT2, a', rfl, rfl, hTT2, hkE2, hEn2⟩ hI9 Ft Nt
        obtain ⟨tk0, rfl⟩ := Value.isInt_shape hkey
        have hk1 : (c.map (·.1))[i]? = some k := by rw [← flat_keys hfl, List.getElem?_map, hkv]; rfl
        obtain ⟨p, hp, hpk⟩ : ∃ p, c[i]? = some p ∧ k = p.1 := by
          rw [List.getElem?_map] at hk1
          cases hc : c[i]? with
          | none => rw [hc] at hk1; cases hk1
          | some p => rw [hc] at hk1; exact ⟨p, rfl, (Option.some.inj hk1).symm⟩
        have hkh : kdfHas c k = true := has_iff.mpr (List.mem_of_getElem? hk1)
        have hp0 : 0 < p.1 := hpos p (List.mem_of_getElem? hp)
        obtain ⟨W2, hW2⟩ : ∃ W2, W2 = (I, oI) :: (TT2 ++ (D, W.listOf ys.toArray ys.length) :: news) := ⟨_, rfl⟩
        have hWo : OwnOff W2 [df] := by
          intro p hp b hb
          rw [List.mem_singleton.mp hb]
          rw [hW2] at hp
          simp only [List.mem_cons, List.mem_append] at hp
          rcases hp with rfl | hp | rfl | hp
          · exact fun e => hI9 _ (List.mem_cons_self ..) e.symm
          · exact Nat.ne_of_gt (hTT2 _ hp)
          · exact Nat.ne_of_lt lD.1
          · exact Nat.ne_of_lt (kst_ltOf lD.2.2.2 p hp)
        have Nt2 := kst_newsOf (l' := (df, o) :: (d, od) :: (L' + 1, o1) :: W2) Nt (by
          intro p hp; rw [hW2] at hp; simp only [List.mem_cons, List.mem_append] at hp ⊢; grind)
        clear Nt
        have hdd := ltN lD.2.1
        have hLd := ltN lD.2.2.1
        have hkl : kE2.length ≤ 100 := by
          rw [hEn2.length]
          unfold fullList chainList spentList
          have h1 := pzs.length_eq
          simp only [List.length_append, List.length_map, List.length_range]
          have h2 : (List.filter (fun p : Int × Int => decide (65535 ≤ p.2)) (List.take i c)).length ≤ c.length := Nat.le_trans (List.length_filter_le _ _) (by simp; omega)
          omega
        subst hM0
        k_steps
        · rename Fr _ _ _ _ => F9
          rename News _ _ _ _ => N9
          rename Obj.IsDictOf _ _ (stored _ _ _) => hd9
          rename ((_ : Nat) < _ ∧ _ ∧ _ ∧ AllLt _ _) => l19
          rename ((_ : Nat) < _) => l29
          exact spent_new F9 N9 hd9 hW2 hI9 l19 l29 hTT2 hEn2 (by intro z h1; simp [h1]) hcn pzs hp hp0 hpk (by omega)
        · rename Fr _ _ _ _ => F9
          rename News _ _ _ _ => N9
          exact spent_old F9 N9 hkE2 hW2 hI9 hTT2 hEn2 (by intro z h1; simp [h1]) hcn hp hpk (by omega)
      · rintro m₁ l₁ h tk ⟨o, kE2, TT2, a', rfl, rfl, hTT2, hkE2, hEn2⟩ Ft Nt
        obtain ⟨W2, hW2⟩ : ∃ W2, W2 = TT2 ++ (D, W.listOf ys.toArray ys.length) :: news := ⟨_, rfl⟩
        have Nt2 := kst_newsOf (l' := (df, o) :: (d, od) :: (L' + 1, o1) :: W2) Nt (by
          intro p hp; rw [hW2] at hp; simp only [List.mem_cons, List.mem_append] at hp ⊢; grind)
        clear Nt
        subst hM0
        k_steps
        rename Fr _ _ _ _ => F9
        rename News _ _ _ _ => N9
        refine ret df o kE2 TT2 zs _ _ F9 (kst_newsOf N9 ?_) hTT2 ⟨lD.2.1, lD.2.2.2⟩ lof hkE2 pzs wzs (hcl ▸ hEn2)
        intro p hp; rw [hW2]; simp only [List.mem_cons, List.mem_append] at hp ⊢; grind
    · intro l k; dsimp only; split <;> simp
end
end Mine

namespace Mine
open PySem PySem.W PySem.Calls PyProof.Rows PyProof.V PySem.Spec
local macro_rules | `(tactic| walk_at "setItem ref int") => `(tactic| (k_here; k_dflt (refine' my_setItem (knd := PySem.intKind _ _) (intKind_is _ _ _ _) ?F ?N ?U ?d ?z ?_; (case F => k_asm); (case N => k_asm); (case U => k_updF); (case d => k_asm); (case z => first | omega | decide)); intro h' o' F' N' hd'; (try dsimp only at N'); (try k_sweep)))
local macro_rules | `(tactic| walk_at "exec While") => `(tactic| (k_here; (with_reducible show wpAny _ _ (exec (Stmt.While _ _ _ _) _) _ _ _); refine my_stop ?_))
local macro_rules | `(tactic| walk_at "call builtin:dict.get") => `(tactic| (k_here; k_dflt (refine' my_get1 (knd := PySem.intKind _ _) ?N ?m ?d ?lo ?k ?v ?_; (case N => k_asm); (case m => k_mem); (case d => assumption); (case lo => assumption); (case k => exact intKind_is _ _ _ _); (case v => assumption))))
local macro_rules | `(tactic| walk_at "compareOp In int ref") => `(tactic| (k_here; k_dflt (refine' my_notin (knd := PySem.intKind _ _) ?N ?m ?d ?lo ?k ?v ?_; (case N => k_asm); (case m => k_mem); (case d => assumption); (case lo => assumption); (case k => exact intKind_is _ _ _ _); (case v => assumption))))
local macro_rules | `(tactic| k_mem) => `(tactic| assumption)
section
variable {w : World} {mean : ExcName → Option Value} {mg mb : Str → Option Value} {dp un : Nat} {gd : Option (List Code)} {cn : Str} {cs : Scope} {a : Addr} {ccd : Value} {cl : List (Str × Addr)} {outer : List Env}
    {A₀ : Around} {base h₀ : Heap} {L : Addr} {m : Str → Option Value} {news : List (Addr × Obj)} {s : Shared} {Q E : Value → Shared → Prop}
theorem chain_of_spec {de : Addr} {oe : Obj} {kE : List (Int × Value)} {R : List (Int × Int × Int)} {zs : List Int}
    (B : Below A₀ base outer h₀) (F : Fr h₀ L s.heap m) (X : (hd.heap_39 w.params).In h₀)
    (N : News h₀ L s.heap ((de, oe) :: news))
    (T : Top hd.view_39 (looseW hd.view_39 [Str.ofString "PaperError"]) mean mg mb h₀) (hcs : cs.kind = .function)
    (hdp : dp + 9 < recursionLimit)
    (hoe : oe.IsDictOf (intKind PySem.Challenge.rw_og0124_01.row.prog w) kE) (hR : Ents w news kE R) (hlo : (de == sysModules) = false)
    (hch : ∀ i, i ≤ zs.length → ∃ two, ((0 :: zs).getD i 0, (0 :: zs).getD (i + 1) 0, two) ∈ R) (hzn : zs.Nodup) (hz0 : ∀ x ∈ zs, x ≠ 0) (hzl : zs.length ≤ 100)
    (ret : ∀ (D : Addr) (us : List Value) (n : Nat) h' tk', Fr h₀ L h' m → News h₀ L h' ((D, W.listOf us.toArray n) :: (de, oe) :: news) → de < D ∧ AllLt D news → IntsAre us zs → Q (.ref D) { s with heap := h', toks := tk' }) :
    wpAny (model PySem.Challenge.rw_og0124_01.row.prog w) (ktrTop dp un gd cn cs L a ccd cl outer) (call (.ref 94) [.ref de]) Q E s := by
  w_top off
  have hK := kstMark
  revert X
  k_fill
  intro X
  refine wpAny_call ?_
  k_dflt cell_enter
  k_steps
  rename_i lf hA lF1 hB dk hC o0 lok hs fs hi fi lK hD hE ok hdk hF FB NB
  unfold MyStop
  obtain ⟨M0, hM0, FB0⟩ := Fr.ex FB
  refine my_while (ChainOfJ PySem.Challenge.rw_og0124_01.row.prog w lf dk ((de, oe) :: news) M0 zs) zs.length FB0 NB ?_ (by passes_own) ?_
  · obtain ⟨t0, ht0⟩ : ∃ t0, M0 (Str.ofString "here") = some (Value.int 0 t0) := by rw [hM0]; exact ⟨_, rfl⟩
    refine ⟨0, ok, _, [], 0, t0, M0 (Str.ofString "entry"), rfl, Nat.zero_le _, ?_, rfl, hdk, rfl, .nil⟩
    funext z
    by_cases h1 : z = Str.ofString "entry"
    · subst h1; rfl
    · rw [if_neg h1]
      by_cases h2 : z = Str.ofString "here"
      · subst h2; exact ht0
      · rw [if_neg h2]
  · rintro n m₁ l₁ h tk ⟨i, ok, kK, us, nU, t, e', rfl, hi, rfl, rfl, hok, hkk, hus⟩ Ft Nt
    obtain ⟨two, hR1⟩ := hch i hi
    obtain ⟨v, hv, x, dx, t1, t2, t3, t4, t5, t6, rfl, hx, hdx⟩ := hR.at_ (dict_nodup hoe) hR1
    have hkl : kK.length ≤ 200 := by
      have := congrArg List.length hkk
      simp at this; omega
    by_cases hil : i < zs.length
    · have hzi : (0 :: zs).getD (i + 1) 0 = zs[i] := by simp [List.getD, List.getElem?_eq_getElem hil]
      have hnx : (0 :: zs).getD (i + 1) 0 ≠ 0 := by
        rw [hzi]; exact hz0 _ (List.getElem_mem hil)
      have hnd : (0 :: zs).Nodup := List.nodup_cons.mpr ⟨fun h => hz0 0 h rfl, hzn⟩
      have hno : (valueAt kK ((0 :: zs).getD (i + 1) 0)).isSome = false :=
        valueAt_none (by rw [hkk]; exact notin_take hnd (by simp; omega))
      have hkn : (0 :: zs).getD (i + 1) 0 ∉ kK.map (·.1) := by rw [hkk]; exact notin_take hnd (by simp; omega)
      generalize hcur : (0 :: zs).getD i 0 = cur at *
      generalize hnxt : (0 :: zs).getD (i + 1) 0 = nxt at *
      subst hM0
      k_steps
      · exact absurd (by assumption) hnx
      · rename Fr _ _ _ _ => F9
        rename News _ _ _ _ => N9
        rename Obj.IsDictOf _ _ (stored _ _ _) => hd9
        rw [List.push_toArray] at N9
        rw [stored_new hkn] at hd9
        refine ⟨zs.length - (i + 1), _, _, _, _, by omega, rfl, F9, N9, i + 1, _, _, _, _, t5, some (Value.ref x), rfl, by omega, ?_, rfl, hd9, ?_, ?_⟩
        · rw [hnxt]
          funext z
          by_cases h1 : z = Str.ofString "entry"
          · subst h1; rfl
          · by_cases h2 : z = Str.ofString "here"
            · subst h2; rfl
            · simp [h1, h2]
        · rw [List.map_append, hkk, List.take_add_one (i := i + 1)]
          simp [List.getElem?_eq_getElem hil, ← hnxt]
        · have e : zs.take (i + 1) = zs.take i ++ [nxt] := by rw [List.take_add_one, List.getElem?_eq_getElem hil, hzi]; rfl
          rw [e]
          exact IntsAre.append hus (.cons _ _ .nil)
    · have hie : i = zs.length := by omega
      subst hie
      have hnx : (0 :: zs).getD (zs.length + 1) 0 = 0 := by simp [List.getD]
      rw [hnx] at hdx
      generalize hcur : (0 :: zs).getD zs.length 0 = cur at *
      rw [List.take_length] at hus
      subst hM0
      k_steps
      change qk (Flow.ret (Value.ref lf)) _
      k_steps
      rename Fr _ _ _ _ => F9
      rename News _ _ _ _ => N9
      exact ret lf us nU _ _ F9 (kst_newsOf N9 fun p hp => List.mem_cons_of_mem _ hp) lF1 hus
end
end Mine

namespace Mine
open PySem PySem.W PySem.Calls PyProof.Rows PyProof.V PySem.Spec
local macro_rules | `(tactic| walk_at "exec For Name Call cons nil") => `(tactic| (k_here; (rename Fr _ _ _ _ => lF'); (with_unfolding_all refine' For_my lF' ?k1 ?k2 ?_; (case k1 => exact rfl); (case k2 => exact rfl); k_whole)))
local macro_rules | `(tactic| walk_at "compareOp NotIn int ref") => `(tactic| (k_here; k_dflt (first
  | (refine' my_ni_yes (knd := PySem.intKind _ _) ?N ?m ?d ?lo ?k ?v ?_; (case N => k_asm); (case m => k_mem); (case d => assumption); (case lo => assumption); (case k => exact intKind_is _ _ _ _); (case v => assumption))
  | (refine' my_ni_no (knd := PySem.intKind _ _) ?N ?m ?d ?lo ?k ?v ?_; (case N => k_asm); (case m => k_mem); (case d => assumption); (case lo => assumption); (case k => exact intKind_is _ _ _ _); (case v => assumption)))))
local macro_rules | `(tactic| walk_at "subscriptTail") => `(tactic| (k_here; (with_reducible show wpAny _ _ (subscriptTail _ _ (Value.ref _) (Value.int _ _)) _ _ _); k_dflt (refine' kda_item (knd := PySem.intKind _ _) ?N ?m ?d ?k ?v ?_; (case N => k_asm); (case m => k_mem); (case d => assumption); (case k => exact intKind_is _ _ _ _); (case v => assumption))))
local macro_rules | `(tactic| k_mem) => `(tactic| assumption)
section
variable {w : World} {mean : ExcName → Option Value} {mg mb : Str → Option Value} {dp un : Nat} {gd : Option (List Code)} {cn : Str} {cs : Scope} {a : Addr} {ccd : Value} {cl : List (Str × Addr)} {outer : List Env}
    {A₀ : Around} {base h₀ : Heap} {L : Addr} {m : Str → Option Value} {news : List (Addr × Obj)} {s : Shared} {Q E : Value → Shared → Prop}
theorem next_generations_spec {de : Addr} {oe : Obj} {kE : List (Int × Value)} {R : List (Int × Int × Int)} {n : Nat} {sz : Int} {tsz : Tok}
    (B : Below A₀ base outer h₀) (F : Fr h₀ L s.heap m) (X : (hd.heap_39 w.params).In h₀)
    (N : News h₀ L s.heap ((de, oe) :: news))
    (T : Top hd.view_39 (looseW hd.view_39 [Str.ofString "PaperError"]) mean mg mb h₀) (hcs : cs.kind = .function)
    (hdp : dp + 9 < recursionLimit)
    (hoe : oe.IsDictOf (intKind PySem.Challenge.rw_og0124_01.row.prog w) kE) (hR : Ents w news kE R) (hlo : (de == sysModules) = false)
    (hsz : sz = 1 + (n : Int)) (hn : n ≤ 100)
    (ret : ∀ (D : Addr) (o : Obj) (kF : List (Int × Value)) h' tk', Fr h₀ L h' m → News h₀ L h' ((D, o) :: (de, oe) :: news) → de < D ∧ AllLt D news → (D == sysModules) = false → o.IsDictOf (intKind PySem.Challenge.rw_og0124_01.row.prog w) kF →
      FlatPairs PyData.int kF (kdfD (genList R n)) → Q (.ref D) { s with heap := h', toks := tk' }) :
    wpAny (model PySem.Challenge.rw_og0124_01.row.prog w) (ktrTop dp un gd cn cs L a ccd cl outer) (call (.ref 101) [.ref de, .int sz tsz]) Q E s := by
  w_top off
  have hK := kstMark
  revert X
  k_fill
  intro X
  refine wpAny_call ?_
  k_dflt cell_enter
  k_steps
  rename_i df hA o0 lof hs fs hi fi lD hB F1 N1 hR1 tkR t1 u1 v1 rR FR NR kR
  unfold MyIter
  obtain ⟨M0, hM0, FR0⟩ := Fr.ex FR
  clear N1 F1 FR
  refine my_range (GenJ PySem.Challenge.rw_og0124_01.row.prog w df ((de, oe) :: news) M0 R) (n := n) (by rfl) rR ?_ ?_ FR0 NR ?_ ?_ ?_
  · exact small_one (by omega) (by omega) (by omega) (by omega)
  · rw [hsz]
    rw [rangeSize_nat]; omega
  · exact ⟨o0, [], M0 (Str.ofString "number"), map_ne1 (fun _ _ => rfl), rfl, hi, by simpa [genList, kdfD] using fi⟩
  · rintro i m₁ l₁ h tk I oI t hin ⟨o, kF, a', rfl, rfl, hkF, hfF⟩ hI9 Ft Nt
    have Nt2 := kst_newsOf (l' := (df, o) :: (de, oe) :: (I, oI) :: news) Nt (by
      intro p hp; simp only [List.mem_cons] at hp ⊢; grind)
    clear Nt
    have hdI : @Ne Nat df I := hI9 _ (List.mem_cons_self ..)
    have hlF : (genList R i).length ≤ 100 := by simp [genList]; omega
    rcases hR.look (1 + (i : Int)) with ⟨hv, hg⟩ | ⟨v, one, two, hv, ⟨x, dx, t1, t2, t3, t4, t5, t6, rfl, hx, hdx⟩, hg, _⟩
    · subst hM0
      k_steps
      rename Fr _ _ _ _ => F9
      rename News _ _ _ _ => N9
      rename FlatPairs _ _ _ => hf9
      exact gen_turn F9 N9 (by assumption) hf9 hg.symm hI9 (by intro z h1; simp [h1])
    · subst hM0
      k_steps
      rename Fr _ _ _ _ => F9
      rename News _ _ _ _ => N9
      rename FlatPairs _ _ _ => hf9
      exact gen_turn F9 N9 (by assumption) hf9 hg.symm hI9 (by intro z h1; simp [h1])
  · rintro m₁ l₁ h tk ⟨o, kF, a', rfl, rfl, hkF, hfF⟩ Ft Nt
    subst hM0
    k_steps
    rename Fr _ _ _ _ => F9
    rename News _ _ _ _ => N9
    exact ret df o kF _ _ F9 N9 lD lof hkF hfF
end
end Mine

namespace Mine
open PySem PySem.W PySem.Calls PyProof.Rows PyProof.V PySem.Spec
def lawBody : List Stmt := match PySem.Challenge.pw_og0124_01.main.body.drop 13 with
  | [.FunctionDef _ _ b _ _ _ _ _ _ _] => b
  | _ => []
def lawScope : Scope := match PySem.Challenge.pw_og0124_01.main.body.drop 13 with
  | [.FunctionDef _ _ _ _ _ _ sc _ _ _] => sc
  | _ => { kind := .function, names := [], isGenerator := false, isCoroutine := false, more := [] }
abbrev lawEnv (L fa : Addr) (cd : Value) : Env := envOfC (Str.ofString "law") lawScope L fa cd
theorem Fr.known {h₀ h : Heap} {L : Addr} {M : Str → Option Value} {x : Str} {v : Option Value} (F : Fr h₀ L h M) (hx : M x = v) : Fr h₀ L h (fun y => if y = x then v else M y) := by
  have e : (fun y => if y = x then v else M y) = M := by
    funext y
    by_cases h : y = x
    · rw [if_pos h, h, hx]
    · rw [if_neg h]
  rw [e]; exact F
theorem off2 {a b p : Addr} {oa ob : Obj} (h1 : @Ne Nat a p) (h2 : @Ne Nat b p) : OwnOff [(a, oa), (b, ob)] [p] := by
  intro q hq b' hb'
  rw [List.mem_singleton.mp hb']
  simp only [List.mem_cons, List.not_mem_nil, or_false] at hq
  rcases hq with rfl | rfl
  · exact h1
  · exact h2
theorem off3 {a b c p : Addr} {oa ob oc : Obj} (h1 : @Ne Nat a p) (h2 : @Ne Nat b p) (h3 : @Ne Nat c p) : OwnOff [(a, oa), (b, ob), (c, oc)] [p] := by
  intro q hq b' hb'
  rw [List.mem_singleton.mp hb']
  simp only [List.mem_cons, List.not_mem_nil, or_false] at hq
  rcases hq with rfl | rfl | rfl
  · exact h1
  · exact h2
  · exact h3
theorem draw_spec2 {w : World} {mean : ExcName → Option Value} {mg mb : Str → Option Value} {dp un : Nat} {gd : Option (List Code)} {cn : Str} {cs : Scope} {a : Addr} {ccd : Value} {cl : List (Str × Addr)} {outer : List Env}
    {A₀ : Around} {base h₀ : Heap} {L : Addr} {m : Str → Option Value} {news : List (Addr × Obj)} {s : Shared} {Q E : Value → Shared → Prop}
    {pen cells : Addr} {vs : List Value} {ns : List Int} {k sd many : Int} {tk tsd tm : Tok} {n nn : Nat} {q : Addr × Obj}
    (B : Below A₀ base outer h₀) (F : Fr h₀ L s.heap m) (X : (hd.heap_39 w.params).In h₀)
    (N : News h₀ L s.heap (q :: (pen, W.listOf #[.ref cells, .int k tk, .int sd tsd] n) :: (cells, W.listOf vs.toArray nn) :: news))
    (T : Top hd.view_39 (looseW hd.view_39 [Str.ofString "PaperError"]) mean mg mb h₀) (hcs : cs.kind = .function)
    (hdp : dp + 1 < recursionLimit)
    (hoff : OwnOff news [pen]) (hq : @Ne Nat q.1 pen) (hne : @Ne Nat cells pen) (hI : IntsAre vs ns) (hlen : ns.length ≤ 60)
    (hk : 0 ≤ k) (hk2 : k < 1000) (hs0 : 0 ≤ sd) (hs1 : sd < 997) (hm0 : 0 < many) (hm1 : many < 1000)
    (ret : ∀ x t t' h' tk', 0 ≤ x → x < many → Fr h₀ L h' m →
      News h₀ L h' (q :: (pen, W.listOf #[.ref cells, .int (k + 1) t', .int sd tsd] n) :: (cells, W.listOf vs.toArray nn) :: news) → Q (.int x t) { s with heap := h', toks := tk' }) :
    wpAny (model PySem.Challenge.rw_og0124_01.row.prog w) (ktrTop dp un gd cn cs L a ccd cl outer) (call (.ref 113) [.ref pen, .int many tm]) Q E s := by
  have N2 := kst_newsOf (l' := (pen, W.listOf #[.ref cells, .int k tk, .int sd tsd] n) :: (cells, W.listOf vs.toArray nn) :: q :: news) N (by intro p hp; simp only [List.mem_cons] at hp ⊢; grind)
  refine draw_spec B F X N2 T hcs hdp ?_ hne hI hlen hk hk2 hs0 hs1 hm0 hm1 ?_
  · intro p hp b hb
    rcases List.mem_cons.mp hp with rfl | hp
    · rw [List.mem_singleton.mp hb]; exact hq
    · exact hoff p hp b hb
  · intro x t t' h' tk' h0 h1 F' N'
    exact ret x t t' h' tk' h0 h1 F' (kst_newsOf N' (by intro p hp; simp only [List.mem_cons] at hp ⊢; grind))

end Mine

namespace Mine
open PySem PySem.W PySem.Calls PyProof.Rows PyProof.V PySem.Spec
local macro_rules | `(tactic| walk_at "no such key") => `(tactic| fail)
local macro_rules | `(tactic| walk_at "exec For Name Call cons nil") => `(tactic| (k_here; (with_reducible show wpAny _ _ (exec (Stmt.For _ _ _ _ _) _) _ _ _); refine my_stop ?_))
local macro_rules | `(tactic| walk_at "call ref") => `(tactic| (k_here; (with_reducible show wpAny _ _ (call (Value.ref 113) [_, _]) _ _ _); k_dflt (refine' draw_spec ?k1 ?k2 ?k3 ?k4 ?k5 ?k6 ?k7 ?k8 ?k9 ?k10 ?k11 ?k12 ?k13 ?k14 ?k15 ?k16 ?k17 ?_; (case k1 => k_asm); (case k2 => k_asm); (case k3 => k_asm); (case k4 => k_asm); (case k5 => k_asm); (case k6 => first | exact rfl | assumption); (case k7 => first | decide | omega | ktr_room); (case k8 => first | exact off2 (by omega) (by omega) | exact off3 (by omega) (by omega) (by omega)); (case k9 => omega); (case k10 => assumption); (case k11 => omega); (case k12 => omega); (case k13 => omega); (case k14 => omega); (case k15 => omega); (case k16 => omega); (case k17 => omega)); intro x' t1' t2' h' tk' hx0' hx1' F' N'; (try k_sweep)))
local macro_rules | `(tactic| walk_at "call ref") => `(tactic| (k_here; (with_reducible show wpAny _ _ (call (Value.ref 113) [_, _]) _ _ _); k_dflt (refine' draw_spec2 ?k1 ?k2 ?k3 ?k4 ?k5 ?k6 ?k7 ?k8 ?k8b ?k9 ?k10 ?k11 ?k12 ?k13 ?k14 ?k15 ?k16 ?k17 ?_; (case k1 => k_asm); (case k2 => k_asm); (case k3 => k_asm); (case k4 => k_asm); (case k5 => k_asm); (case k6 => first | exact rfl | assumption); (case k7 => first | decide | omega | ktr_room); (case k8 => exact off3 (by omega) (by omega) (by omega)); (case k8b => (try dsimp only); omega); (case k9 => omega); (case k10 => assumption); (case k11 => omega); (case k12 => omega); (case k13 => omega); (case k14 => omega); (case k15 => omega); (case k16 => omega); (case k17 => omega)); intro x' t1' t2' h' tk' hx0' hx1' F' N'; (try k_sweep)))
def CGood (i : Nat) (c : List (Int × Int)) : Prop := c.length ≤ i ∧ ∀ p ∈ c, 1 ≤ p.1 ∧ p.1 ≤ 12 ∧ 0 ≤ p.2 ∧ p.2 ≤ 65536
def LawJ (prog : Program) (w : World) (L lp ds D : Addr) (oc oD : Obj) (sd : Int) (tsd : Tok) (M0 : Str → Option Value) (i : Nat) (m' : Str → Option Value) (l : List (Addr × Obj)) : Prop :=
  ∃ (os : Obj) (kvs : List (Int × Value)) (c : List (Int × Int)) (k : Int) (t : Tok) (a' : Option Value), m' = (fun y => if y = Str.ofString "turn" then a' else M0 y) ∧
    l = [(lp, W.listOf #[.ref D, .int k t, .int sd tsd] 0), (D, oD), (ds, os), (L + 1, oc)] ∧ os.IsDictOf (PySem.intKind prog w) kvs ∧ FlatPairs PyData.int kvs (kdfD c) ∧ CGood i c ∧ k = 1 + 2 * (i : Int)
theorem put_good {i : Nat} {c : List (Int × Int)} {k v : Int} (h : CGood i c) (h1 : 1 ≤ k) (h2 : k ≤ 12) (h3 : 0 ≤ v) (h4 : v ≤ 65536) : CGood (i + 1) (kdfPut c k v) := by
  refine ⟨Nat.le_trans (kdfPut_len c k v) (Nat.succ_le_succ h.1), ?_⟩
  intro p hp
  unfold kdfPut at hp
  split at hp
  · obtain ⟨q, hq, rfl⟩ := List.mem_map.mp hp
    have := h.2 q hq
    split <;> simp_all
  · rcases List.mem_append.mp hp with hp | hp
    · exact h.2 p hp
    · rw [List.mem_singleton.mp hp]; exact ⟨h1, h2, h3, h4⟩
theorem menu_ok (j : Nat) : 0 ≤ ([0, 1, 7, 65534, 65535, 65536] : List Int).getD j 0 ∧ ([0, 1, 7, 65534, 65535, 65536] : List Int).getD j 0 ≤ 65536 := by
  match j with
  | 0 | 1 | 2 | 3 | 4 | 5 => decide
  | n + 6 => simp [List.getD]
theorem law_tail3 {w : World} {mean : ExcName → Option Value} {mg mb : Str → Option Value} {h₀ : Heap} {L fa lp ds D : Addr} {cd : Value} {M : Str → Option Value} {s : Shared} {Q : Flow → Shared → Prop} {E : Value → Shared → Prop}
    {os oc : Obj} {ys : List Value} {ns : List Int} {sd : Int} {t0 tsd : Tok}
    (B : Below callerA h₀ [] h₀) (X : (hd.heap_39 w.params).In h₀)
    (T : Top hd.view_39 (looseW hd.view_39 [Str.ofString "PaperError"]) mean mg mb h₀)
    (hE : PassesOwn (model PySem.Challenge.rw_og0124_01.row.prog w) (callerA.deeper (lawEnv L fa cd)) (lawEnv L fa cd) E)
    (F : Fr h₀ L s.heap M) (hMp : M (Str.ofString "pen") = some (.ref lp))
    (N : News h₀ L s.heap [(lp, W.listOf #[.ref D, .int 0 t0, .int sd tsd] 0), (D, W.listOf ys.toArray ys.length), (ds, os), (L + 1, oc)])
    (hoc : oc.data = Data.cell (some (Value.ref ds))) (l1 : @Ne Nat (L + 1) D) (l1b : @LT.lt Nat _ (L + 1) lp) (l2 : @LT.lt Nat _ D lp) (l3 : @LT.lt Nat _ lp ds)
    (hI : IntsAre ys ns) (hns : ns.length ≤ 60) (hs0 : 0 ≤ sd) (hs1 : sd < 997)
    (hos : os.IsDictOf (PySem.intKind PySem.Challenge.rw_og0124_01.row.prog w) []) (hfs : FlatPairs PyData.int [] []) (lo : (ds == sysModules) = false)
    (next : ∀ M' (os' : Obj) kvs c (k : Int) (t : Tok) h' tk', M' (Str.ofString "pen") = some (.ref lp) → Fr h₀ L h' M' →
      News h₀ L h' [(lp, W.listOf #[.ref D, .int k t, .int sd tsd] 0), (D, W.listOf ys.toArray ys.length), (ds, os'), (L + 1, oc)] →
      os'.IsDictOf (PySem.intKind PySem.Challenge.rw_og0124_01.row.prog w) kvs → FlatPairs PyData.int kvs (kdfD c) → CGood 8 c → 0 ≤ k → k ≤ 20 →
      wpAny (model PySem.Challenge.rw_og0124_01.row.prog w) (callerA.deeper (lawEnv L fa cd)) (execs (lawBody.drop 4) (lawEnv L fa cd)) Q E { s with heap := h', toks := tk' }) :
    wpAny (model PySem.Challenge.rw_og0124_01.row.prog w) (callerA.deeper (lawEnv L fa cd)) (execs (lawBody.drop 3) (lawEnv L fa cd)) Q E s := by
  w_top off
  have hK := kstMark
  revert X
  k_fill
  intro X
  have F1 := Fr.known F hMp
  clear F
  dsimp only [lawEnv, lawScope, lawBody, PySem.Challenge.pw_og0124_01, List.drop] at *

  k_steps
  unfold MyStop
  with_unfolding_all refine For_my F1 rfl rfl ?_ (hE := hE)
  k_steps
  rename_i x0 _ _ _ _ hx0 hx1 _ _ hR tkR t1 u1 v1 rR FR NR kR
  unfold MyIter
  obtain ⟨M0, hM0, FR0⟩ := Fr.ex FR
  clear FR
  obtain ⟨n, hn⟩ : ∃ n : Nat, x0 = (n : Int) := ⟨x0.toNat, by omega⟩
  subst hn
  refine my_range (LawJ PySem.Challenge.rw_og0124_01.row.prog w L lp ds D oc (W.listOf ys.toArray ys.length) sd tsd M0) (n := n) (by rfl) rR ?_ ?_ FR0 NR ?_ ?_ ?_
  · exact small_one (by omega) (by omega) (by omega) (by omega)
  · rw [rangeSize_nat]; omega
  · exact ⟨os, [], [], _, _, M0 (Str.ofString "turn"), map_ne1 (fun _ _ => rfl), rfl, hos, hfs, ⟨Nat.le_refl _, fun _ h => nomatch h⟩, by omega⟩
  · rintro i m₁ l₁ h tk I oI t hi ⟨os2, kvs, c, k, t2, a', rfl, rfl, hos2, hfl, hg, hk⟩ hI9 Ft Nt
    have Nt2 := kst_newsOf (l' := [(lp, W.listOf #[.ref D, .int k t2, .int sd tsd] 0), (D, W.listOf ys.toArray ys.length), (ds, os2), (L + 1, oc), (I, oI)]) Nt (by
      intro p hp; simp only [List.mem_cons] at hp ⊢; grind)
    clear Nt
    have hc8 : c.length ≤ 8 := by have := hg.1; omega
    have hI1 : @Ne Nat lp I := hI9 _ (List.mem_cons_self ..)
    have hI2 : @Ne Nat ds I := hI9 (ds, os2) (by simp)
    subst hM0
    k_steps
    rename_i x6 _ _ _ _ a0 a1 _ x12 _ t2b _ _ b0 b1 _ _ _ o9 kvs9 F9 N9 hd9 hf9
    have hm := menu_ok x6.toNat
    refine ⟨_, _, _, [(lp, W.listOf #[.ref D, .int (k + 1 + 1) t2b, .int sd tsd] 0), (D, W.listOf ys.toArray ys.length), (ds, o9), (L + 1, oc)], rfl, F9, kst_newsOf N9 ?_, ?_, o9, kvs9, _, k + 1 + 1, t2b, _, map_ne1 ?_, rfl, hd9, hf9, put_good hg (by omega) (by omega) hm.1 hm.2, by omega⟩
    · intro p hp; simp only [List.mem_cons] at hp ⊢; grind
    · intro q hq
      simp only [List.mem_cons, List.not_mem_nil, or_false] at hq
      rcases hq with rfl | rfl | rfl | rfl
      · exact hI1
      · exact hI9 (D, W.listOf ys.toArray ys.length) (by simp)
      · exact hI2
      · exact hI9 (L + 1, oc) (by simp)
    · intro z h1; simp [h1]
  · rintro m₁ l₁ h tk ⟨os2, kvs, c, k, t2, a', rfl, rfl, hos2, hfl, hg, hk⟩ Ft Nt
    exact next _ os2 kvs c k t2 h tk (by rw [hM0]; rfl) Ft Nt hos2 hfl ⟨by have := hg.1; omega, hg.2⟩ (by omega) (by omega)
end Mine

namespace Mine
open PySem PySem.W PySem.Calls PyProof.Rows PyProof.V PySem.Spec
section
variable {prog : Program} {w : World} {A : Around} {E : Value → Shared → Prop} {s : Shared} {h₀ : Heap} {L : Addr} {m : Str → Option Value} {news : List (Addr × Obj)} {d : Addr} {od : Obj} {kvs : List (Int × Value)} {Q : Value → Shared → Prop}
theorem my_sorted_dict (hh : A.handled = none) (F : Fr h₀ L s.heap m) (N : News h₀ L s.heap news) (hm : (d, od) ∈ news) (hod : od.IsDictOf (PySem.intKind prog w) kvs) (lo : (d == sysModules) = false) (hn : kvs.length < 64)
    (h : ∀ (D : Addr) (vs : List Value) (ns : List Int) (c : Nat) h' tk, Fr h₀ L h' m → News h₀ L h' ((D, W.listOf vs.toArray c) :: news) → (∀ q ∈ news, q.1 < D) → IntsAre vs ns → ns.Perm (kvs.map (·.1)) → ns.Pairwise (· ≤ ·) → Q (.ref D) { s with heap := h', toks := tk }) :
    wpAny (model prog w) A (call (.builtin "sorted") [.ref d]) Q E s := by
  have hD : s.heap.DictOf (PySem.intKind prog w) d kvs := Heap.dictOf_iff.mpr ⟨od, (N _ hm).1, hod⟩
  obtain ⟨ep, hat⟩ := hD.dictAt
  refine kdu_sorted (kdl_dict (knd := PySem.intKind prog w) (kvs := kvs) (ep := ep) lo) hh F N hat (by rw [sizeLine_eq]; omega) fun D h' tk vs F' N' l1 hl hv => ?_
  have hI : IntsAre vs (kvs.map (·.1)) := kdy_ints (by rw [hl, List.length_map]) fun j v hj => by
    obtain ⟨k, x, hx, hk⟩ := hv j v hj
    obtain ⟨t, rfl⟩ := Value.isInt_shape hk
    exact ⟨k, by rw [List.getElem?_map, hx]; rfl, t, rfl⟩
  have hmD := N' (D, W.listOf vs.toArray 0) (List.mem_cons_self ..)
  have ho : h'.get? D = some (seqObj "list" vs.toArray 0) := hmD.1
  refine wpAny_call_entry PyProof.Rows.slot_list_sort ⟨_, hmD.1, rfl⟩ PyProof.Rows.entry_list_sort (list_sort_tree (n := 0) (vs := vs) ho hI (by omega) fun out ns' hI' hp hP => ⟨.none, rfl, ?_⟩) (PyProof.Rows.args_list_sort _)
  obtain ⟨e, he⟩ := sortedHeap_at (vs := vs) (out := out) ho
  have old : ∀ b o, b ≠ D → h'.get? b = some o → (sortedHeap h' D vs out).get? b = some o := fun b o hb e => (sortedHeap_old hb (Heap.lt_size e)).trans e
  refine h D out.toList ns' e _ _ ⟨F'.ns.at' fun o e => old _ o (Ne.symm hmD.2.1) e, fun b o e => old b o (fun q => by rw [q, hmD.2.2] at e; cases e) (F'.keep b o e), F'.above⟩ ?_ l1 hI' hp hP
  intro p hp
  rcases List.mem_cons.mp hp with rfl | hp
  · refine ⟨?_, hmD.2⟩
    show (sortedHeap h' D vs out).get? D = some (W.listOf out.toList.toArray e)
    rw [Array.toArray_toList]; exact he
  · have := N' p (List.mem_cons_of_mem _ hp)
    exact ⟨old _ _ (Nat.ne_of_lt (l1 p hp)) this.1, this.2⟩

def pairDat (p : Int × Int) : Dat := .tuple [.int p.1, .int p.2]
theorem datAll_pairs {T : List (Addr × Obj)} : ∀ {as : List Addr} {c : List (Int × Int)}, as.length = c.length →
    (∀ (j : Nat) (a : Addr) (p : Int × Int), as[j]? = some a → c[j]? = some p → ∃ (t1 t2 : Tok), (a, ({ cls := .type "tuple", data := .seq #[Value.int p.1 t1, Value.int p.2 t2] } : Obj)) ∈ T) → DatAll T (as.map Value.ref) (c.map pairDat)
  | [], [], _, _ => .nil
  | [], _ :: _, hl, _ => by simp at hl
  | _ :: _, [], hl, _ => by simp at hl
  | a :: as, p :: c, hl, h => by
    obtain ⟨t1, t2, hm⟩ := h 0 a p rfl rfl
    exact .cons (.tuple (vs := [Value.int p.1 t1, Value.int p.2 t2]) hm (.cons (.int _ _) (.cons (.int _ _) .nil)))
      (datAll_pairs (by simpa using hl) fun j a' p' h1 h2 => h (j + 1) a' p' (by simpa using h1) (by simpa using h2))
theorem my_items {v : Addr} {c : List (Int × Int)} (hh : A.handled = none) (F : Fr h₀ L s.heap m) (N : News h₀ L s.heap news) (hv : (v, ({ cls := .type "dict_items", data := .fields #[.ref d] } : Obj)) ∈ news) (hm : (d, od) ∈ news)
    (hod : od.IsDictOf (PySem.intKind prog w) kvs) (hfl : FlatPairs PyData.int kvs (kdfD c)) (hn : kvs.length < 64)
    (h : ∀ (B : Addr) (vs : List Value) (cc : Nat) (TT : List (Addr × Obj)) h' tk, Fr h₀ L h' m → News h₀ L h' ((B, W.listOf vs.toArray cc) :: (news ++ TT)) → (∀ q ∈ news, q.1 < B) → (∀ q ∈ TT, B < q.1) → DatAll TT vs (c.map pairDat) → Q (.ref B) { s with heap := h', toks := tk }) :
    wpAny (model prog w) A (call (.type "list") [.ref v]) Q E s := by
  have hD : s.heap.DictOf (PySem.intKind prog w) d kvs := Heap.dictOf_iff.mpr ⟨od, (N _ hm).1, hod⟩
  obtain ⟨ep, hat⟩ := hD.dictAt
  have hlen : kvs.length = c.length := by rw [← hfl.length, kdfD_length]
  refine kdx_call (knd := PySem.intKind prog w) (kvs := kvs) (ep := ep) hh ⟨_, (N _ hv).1, rfl, rfl⟩ hat (by rw [sizeLine_eq]; omega) fun h' tk acc cc as hk hS hl hG hacc => ?_
  have ea : acc = (as.map Value.ref).toArray := by rw [← hacc, Array.toArray_toList]
  refine h s.heap.objs.size (as.map Value.ref) cc (as.filterMap fun a => (h'.get? a).map fun o => (a, o)) h' tk (F.keeps hk) ?_ (fun q hq => Heap.lt_size (N q hq).1) ?_ (datAll_pairs (by rw [hl, hlen]) ?_)
  · intro q hq
    rcases List.mem_cons.mp hq with rfl | hq
    · exact ⟨by rw [← ea]; exact hS, kdx_fresh F (Nat.le_refl _)⟩
    · rcases List.mem_append.mp hq with hq | hq
      · exact ⟨hk _ _ (N q hq).1, (N q hq).2⟩
      · obtain ⟨a, ha, e⟩ := List.mem_filterMap.mp hq
        cases ho : h'.get? a with
        | none => rw [ho] at e; cases e
        | some o =>
          rw [ho] at e
          have e := Option.some.inj e
          subst e
          exact ⟨ho, kdx_fresh F (Nat.le_of_lt (hG.above a ha))⟩
  · intro q hq
    obtain ⟨a, ha, e⟩ := List.mem_filterMap.mp hq
    cases ho : h'.get? a with
    | none => rw [ho] at e; cases e
    | some o =>
      rw [ho] at e
      have e := Option.some.inj e
      subst e
      exact hG.above a ha
  · intro j a p h1 h2
    obtain ⟨key, k, x, e1, e2, e3⟩ := hG.pairs j a h1
    obtain ⟨t1, rfl⟩ := Value.isInt_shape e2
    obtain ⟨p', hp', t2, rfl⟩ := kdy_valAt hfl e1
    rw [h2] at hp'
    have hp' := Option.some.inj hp'
    subst hp'
    have hk1 : k = p.1 := by
      obtain ⟨dv, hd, _⟩ := hfl.at e1
      have hd' : (c[j]?).map (fun p => (PyData.int p.1, PyData.int p.2)) = some (PyData.int k, dv) := by rw [← List.getElem?_map]; exact hd
      rw [h2] at hd'
      have := congrArg Prod.fst (Option.some.inj hd')
      injection this with this
      exact this.symm
    subst hk1
    exact ⟨t1, t2, List.mem_filterMap.mpr ⟨a, List.mem_of_getElem? h1, by rw [e3]; rfl⟩⟩
theorem my_ne_dat {a b : Addr} {xs ys : List Value} {ka kb : Nat} {n₁ n₂ : List (Addr × Obj)} {ds : List Dat} (N : News h₀ L s.heap news) (ma : (a, W.listOf xs.toArray ka) ∈ news) (Da : DatAll n₁ xs ds) (sa : ∀ p ∈ n₁, p ∈ news)
    (mb : (b, W.listOf ys.toArray kb) ∈ news) (Db : DatAll n₂ ys ds) (sb : ∀ p ∈ n₂, p ∈ news) (ha : ∀ d ∈ ds, kqdOk 8 d = true) (hu : A.units + 64 < cLine) (h : Q (.bool false) s) :
    wpAny (model prog w) A (compareOp .NotEq (.ref a) (.ref b)) Q E s :=
  kqd_ne N ma rfl rfl Da sa mb rfl rfl Db sb ha ha hu (by simpa using h)
theorem my_ne_ints {a b : Addr} {xs ys : List Value} {ka kb : Nat} {ns : List Int} (N : News h₀ L s.heap news) (ma : (a, W.listOf xs.toArray ka) ∈ news) (mb : (b, W.listOf ys.toArray kb) ∈ news) (hi : IntsAre xs ns) (hj : IntsAre ys ns)
    (hu : A.units + 64 < cLine) (h : Q (.bool false) s) : wpAny (model prog w) A (compareOp .NotEq (.ref a) (.ref b)) Q E s :=
  ke_ne_ints ⟨_, (N _ ma).1, rfl, _, rfl⟩ ⟨_, (N _ mb).1, rfl, _, rfl⟩ hi hj hu (by simpa using h)
theorem pairs_ok (c : List (Int × Int)) : ∀ d ∈ c.map pairDat, kqdOk 8 d = true := by
  intro d hd
  obtain ⟨p, _, rfl⟩ := List.mem_map.mp hd
  simp [pairDat, kqdOk]
theorem my_ne_tup {a b : Addr} {d : Dat} (N : News h₀ L s.heap news) (Da : DatIn news (.ref a) d) (Db : DatIn news (.ref b) d) (hd : kqdOk 9 d = true) (hu : A.units + 64 < cLine) (h : Q (.bool false) s) :
    wpAny (model prog w) A (compareOp .NotEq (.ref a) (.ref b)) Q E s := by
  obtain ⟨as, ra⟩ := kqd_in N 9 Da hd
  obtain ⟨bs, rb⟩ := kqd_in N 9 Db hd
  have la := kqd_lay 9 d hd
  have e : PyData.eqv (kqdP d) (kqdP d) = true := (kqd_eqv 9 d d 9 hd hd).mpr rfl
  refine ne_dataH ra rb ?_ ?_ hu (by rw [e]; exact h)
  · unfold SeqAt.shaped; rw [la.1, Bool.true_and]; exact decide_eq_true (Nat.le_trans la.2 (by decide))
  · unfold SeqAt.shaped; rw [la.1, Bool.true_and]; exact decide_eq_true (Nat.le_trans la.2 (by decide))
end
section
variable {prog : Program} {w : World} {A : Around} {E : Value → Shared → Prop} {s : Shared} {env : Env} {h₀ : Heap} {body : List Stmt} {Q : Flow → Shared → Prop}
theorem datInt {news : List (Addr × Obj)} {a b : Int} {t : Tok} (h : a = b) : DatIn news (Value.int a t) (Dat.int b) := h ▸ .int a t
theorem told_ok (one two : Int) : kqdOk 9 (Dat.tuple [.str (Str.ofString "free"), .int one, .int two]) = true := by
  have h : PyData.strOk (Str.ofString "free") = true := by decide +kernel
  simp only [kqdOk, List.all_cons, List.all_nil, Bool.and_true]
  exact h
theorem map_ne3 {m' M0 : Str → Option Value} {x y u : Str} (hm : ∀ z, z ≠ x → z ≠ y → z ≠ u → m' z = M0 z) : m' = fun z => if z = x then m' x else if z = y then m' y else if z = u then m' u else M0 z := by
  funext z
  by_cases h1 : z = x
  · rw [if_pos h1, h1]
  · rw [if_neg h1]
    by_cases h2 : z = y
    · rw [if_pos h2, h2]
    · rw [if_neg h2]
      by_cases h3 : z = u
      · rw [if_pos h3, h3]
      · rw [if_neg h3]; exact hm z h1 h2 h3
/-- a turn's end where the loop's own objects are a list `own` -/
def TurnEndO (h₀ : Heap) (L : Addr) (own : List (Addr × Obj)) (wr : List Addr) (J : (Str → Option Value) → List (Addr × Obj) → Prop) (s₁ : Shared) (Q : Flow → Shared → Prop) (f : Flow) (s₂ : Shared) : Prop :=
  match f with
  | .ret v => Q (.ret v) s₂
  | .brk => Q .next s₂
  | _ => ∃ h' tk m' news', s₂ = { s₁ with heap := h', toks := tk } ∧ Fr h₀ L h' m' ∧ News h₀ L h' (own ++ news') ∧ (∀ q ∈ news', q.1 ∉ wr) ∧ J m' news'
/-- for a, b in enumerate(l) -/
def MyEnum (prog : Program) (w : World) (A : Around) (h₀ : Heap) (env : Env) (target : Expr) (body : List Stmt) (Q : Flow → Shared → Prop) (E : Value → Shared → Prop) (xv : Value) (s₁ : Shared) : Prop :=
  wpAny (model prog w) A (pyIter xv) (fun it s₂ => TurnsAt prog w A h₀ env target body Q E it s₂) E s₁
theorem For_enum {target iter : Expr} {pos : Pos} {m : Str → Option Value} (F : Fr h₀ env.locals s.heap m)
    (h : wpAny (model prog w) A (eval iter env) (MyEnum prog w A h₀ env target body Q E) E s)
    (hs : ∀ x, foldedSetIterable iter env x = pure x := by intro _; rfl)
    (hE : PassesOwn (model prog w) A env E := by passes_own) :
    wpAny (model prog w) A (exec (.For target iter body [] pos) env) Q E s := For_turns F h hs hE
theorem my_enum {elts : List Expr} {k : Nat} {pos : Pos} {l : Addr} {vs : List Value} {n : Nat} {m₀ : Str → Option Value} {news : List (Addr × Obj)} (J : Nat → (Str → Option Value) → List (Addr × Obj) → Prop)
    (hh : A.handled = none) (F : Fr h₀ env.locals s.heap m₀) (N : News h₀ env.locals s.heap news) (hm : (l, W.listOf vs.toArray n) ∈ news) (h0 : J 0 m₀ news)
    (turn : ∀ (i : Nat) m₁ news₁ h tk own wr T (t : Tok) x, vs[i]? = some x → J i m₁ news₁ → (∀ p ∈ news₁, p.1 ∉ wr) → IsTup h T #[.int ((i : Nat) : Int) t, x] → Fr h₀ env.locals h m₁ → News h₀ env.locals h (own ++ news₁) →
      wpAny (model prog w) A (assign (.Tuple elts k pos) env (.ref T)) (fun _ s₃ => wpAny (model prog w) A (execs body env) (TurnEndO h₀ env.locals own wr (J (i + 1)) { s with heap := h, toks := tk } Q) E s₃) E { s with heap := h, toks := tk })
    (done : ∀ m₁ news₁ h tk, J vs.length m₁ news₁ → Fr h₀ env.locals h m₁ → News h₀ env.locals h news₁ → Q .next { s with heap := h, toks := tk }) :
    wpAny (model prog w) A (call (.type "enumerate") [.ref l]) (MyEnum prog w A h₀ env (.Tuple elts k pos) body Q E) E s := by
  have hax := N _ hm
  have hl : s.heap.IsList l vs.toArray := ⟨_, hax.1, rfl, n, rfl⟩
  have hlt : l < s.heap.objs.size := Heap.lt_size hax.1
  have hLs : env.locals < s.heap.objs.size := F.ns.lt
  refine call_enumerate_list hl fun h' hE hI hsz hk => ?_
  unfold MyEnum
  refine wpAny_pyIter_enum hE ?_
  refine ⟨s.heap.objs.size + 1, _, _, _, _, _, _, m₀, news, J, rfl, KTurns.ofWalksU (WalksT.enumerate hh (s.heap.objs.size + 1) s.heap.objs.size l (Nat.succ_ne_self _) (ktu_ne 1 hlt) (Nat.ne_of_lt hlt) vs.toArray).toU, ?_, ?_, ?_, ⟨⟨.none, hE⟩, hI, hl.at fun o e => hk l o e⟩, F.keeps hk, N.grown hk, h0, ?_, ?_⟩
  · intro hI'
    have hb' : env.locals = s.heap.objs.size + 1 ∨ env.locals = s.heap.objs.size ∨ env.locals = l := by simpa using hI'
    rcases hb' with e | e | e
    · exact ktu_ne 1 hLs e
    · exact Nat.ne_of_lt hLs e
    · exact hax.2.1 e.symm
  · intro b hb
    have hb' : b = s.heap.objs.size + 1 ∨ b = s.heap.objs.size := by simpa using hb
    rcases hb' with rfl | rfl
    · exact ktu_new F (Nat.le_add_right _ _)
    · exact ktu_new F (Nat.le_refl _)
  · intro p hp hI'
    have hb' : p.1 = s.heap.objs.size + 1 ∨ p.1 = s.heap.objs.size := by simpa using hI'
    have hlp := Heap.lt_size (N p hp).1
    rcases hb' with e | e
    · exact ktu_ne 1 hlp e
    · exact Nat.ne_of_lt hlp e
  · rintro i v m₁ news₁ h₁ tk₁ own hi ⟨T, vals, rfl, ⟨t, x, hx, rfl⟩, hT⟩ hJ hoff hown hownat hall st F₁ N₁
    refine wpAny_mono (turn i m₁ news₁ h₁ tk₁ own _ T t x (by simpa using hx) hJ hoff hT F₁ N₁) (fun _ s₃ h₃ => wpAny_mono h₃ (fun f s₂ p => ?_) fun _ _ e => e) fun _ _ e => e
    cases f with
    | ret v => exact .ret p
    | brk => exact .brk p
    | next => exact .next ⟨rfl, p⟩
    | cont => exact .cont ⟨rfl, p⟩
  · intro h₂ tk m' news' F' N' _ hJ
    exact done m' news' h₂ tk (by simpa using hJ) F' N'
end
end Mine

namespace Mine
open PySem PySem.W PySem.Calls PyProof.Rows PyProof.V PySem.Spec
local macro_rules | `(tactic| walk_at "call type:list") => `(tactic| (k_here; (with_reducible show wpAny _ _ (call (Value.type "list") [Value.ref _]) _ _ _); refine my_stop ?_))
local macro_rules | `(tactic| walk_at "call builtin:sorted") => `(tactic| (k_here; (with_reducible show wpAny _ _ (call (Value.builtin "sorted") [Value.ref _]) _ _ _); refine my_stop ?_))
local macro_rules | `(tactic| walk_at "compareOp NotEq ref ref") => `(tactic| (k_here; (with_reducible show wpAny _ _ (compareOp _ _ _) _ _ _); refine my_stop ?_))
local macro_rules | `(tactic| walk_at "binaryOp Add ref ref") => `(tactic| (k_here; (with_reducible show wpAny _ _ (binaryOp _ _ _) _ _ _); refine my_stop ?_))
local macro_rules | `(tactic| walk_at "call ref") => `(tactic| (k_here; (with_reducible show wpAny _ _ (call (Value.ref 106) [_]) _ _ _); refine my_stop ?_))
local macro_rules | `(tactic| walk_at "execs cons") => `(tactic| (k_here; (with_reducible show wpAny _ _ (execs (Stmt.Assign _ (Expr.ListComp _ _ _ _) _ :: _) _) _ _ _); refine my_stop ?_))
theorem full_perm {c : List (Int × Int)} {zs : List Int} (hn : (c.map (·.1)).Nodup) (hz : zs.Perm (freeKeys c)) : ((fullList c zs c.length).map (·.1)).Perm (0 :: c.map (·.1)) := by
  rw [full_keys, List.take_length, List.cons_append]
  refine List.Perm.cons 0 ((hz.append_right _).trans ?_)
  have e : freeKeys c = (c.filter fun p => decide (p.2 < 65535)).map (·.1) := by
    unfold freeKeys
    rw [List.filter_map]
    congr 1
    refine List.filter_congr fun p hp => ?_
    obtain ⟨i, hi⟩ := List.mem_iff_getElem?.mp hp
    show decide (kdfLook c p.1 0 < 65535) = _
    rw [look_at hn hi]
  rw [e, ← List.map_append]
  refine List.Perm.map _ ?_
  have h2 : (c.filter fun p => decide (65535 ≤ p.2)) = c.filter fun p => !decide (p.2 < 65535) := by
    refine List.filter_congr fun p _ => ?_
    by_cases h : p.2 < 65535
    · simp [h]
    · simp [h]; omega
  rw [h2]
  exact List.filter_append_perm _ _
theorem law_tail4 {w : World} {mean : ExcName → Option Value} {mg mb : Str → Option Value} {h₀ : Heap} {L fa lp ds D : Addr} {cd : Value} {M : Str → Option Value} {s : Shared} {Q : Flow → Shared → Prop} {E : Value → Shared → Prop}
    {os oc oD oP : Obj} {kvs : List (Int × Value)} {c : List (Int × Int)}
    (B : Below callerA h₀ [] h₀) (X : (hd.heap_39 w.params).In h₀)
    (T : Top hd.view_39 (looseW hd.view_39 [Str.ofString "PaperError"]) mean mg mb h₀)
    (F : Fr h₀ L s.heap M) (hMp : M (Str.ofString "pen") = some (.ref lp))
    (N : News h₀ L s.heap [(lp, oP), (D, oD), (ds, os), (L + 1, oc)])
    (hoc : oc.data = Data.cell (some (Value.ref ds))) (l1 : @Ne Nat (L + 1) D) (l1b : @LT.lt Nat _ (L + 1) lp) (l2 : @LT.lt Nat _ D lp) (l3 : @LT.lt Nat _ lp ds)
    (hos : os.IsDictOf (PySem.intKind PySem.Challenge.rw_og0124_01.row.prog w) kvs) (hfs : FlatPairs PyData.int kvs (kdfD c)) (lo : (ds == sysModules) = false) (hg : CGood 8 c)
    (next : ∀ M' (o : Obj) (kE : List (Int × Value)) (df : Addr) (Wl : List (Addr × Obj)) (zs : List Int) h' tk', M' (Str.ofString "pen") = some (.ref lp) → M' (Str.ofString "found") = some (.ref df) → Fr h₀ L h' M' →
      News h₀ L h' ((df, o) :: (ds, os) :: (L + 1, oc) :: (lp, oP) :: (D, oD) :: Wl) → OwnOff Wl [lp] → @LT.lt Nat _ ds df → (df == sysModules) = false →
      o.IsDictOf (PySem.intKind PySem.Challenge.rw_og0124_01.row.prog w) kE → Ents w Wl kE (fullList c zs c.length) → zs.Perm (freeKeys c) → zs.Pairwise (· ≤ ·) →
      wpAny (model PySem.Challenge.rw_og0124_01.row.prog w) (callerA.deeper (lawEnv L fa cd)) (execs (lawBody.drop 7) (lawEnv L fa cd)) Q E { s with heap := h', toks := tk' }) :
    wpAny (model PySem.Challenge.rw_og0124_01.row.prog w) (callerA.deeper (lawEnv L fa cd)) (execs (lawBody.drop 4) (lawEnv L fa cd)) Q E s := by
  w_top off
  have hK := kstMark
  revert X
  k_fill
  intro X
  have F1 := Fr.known F hMp
  clear F
  dsimp only [lawEnv, lawScope, lawBody, PySem.Challenge.pw_og0124_01, List.drop] at *
  have hlen : kvs.length = c.length := by rw [← hfs.length, kdfD_length]
  have hc8 := hg.1
  k_steps
  unfold MyStop
  rename_i v1 hv1 Fv Nv lv
  refine my_items (od := os) (c := c) rfl Fv Nv (List.mem_cons_self ..) (by simp) hos hfs (by omega) ?_
  intro K vk cck TTk h1 tk1 FK NK lK lTk datK
  have NK2 := kst_newsOf (l' := (ds, os) :: (K, W.listOf vk.toArray cck) :: (L + 1, oc) :: (lp, oP) :: (D, oD) :: TTk) NK (by intro p hp; simp only [List.mem_cons, List.mem_append] at hp ⊢; grind)
  have hKp : @LT.lt Nat _ lp K := lK (lp, oP) (by simp)
  have hKd : @LT.lt Nat _ ds K := lK (ds, os) (by simp)
  have hKD : @LT.lt Nat _ D K := lK (D, oD) (by simp)
  have hKL : @LT.lt Nat _ (L + 1) K := lK (L + 1, oc) (by simp)
  clear NK Nv Fv N
  k_steps
  unfold MyStop
  rename_i hv2 F2 N2
  k_dflt (refine' free_entries_spec ?k1 F2 ?k3 N2 ?k5 ?k6 ?k7 hos hfs hc8 lo ?k8 ?_)
  case k1 => k_asm
  case k3 => k_asm
  case k5 => k_asm
  case k6 => exact rfl
  case k7 => first | decide | omega | ktr_room
  case k8 => exact fun p hp => by have := (hg.2 p hp).1; omega
  intro df o kE TT zs h3 tk3 F3 N3 lTT lD lof hof pzs wzs hEn
  have hdf : @LT.lt Nat _ ds df := lD.1
  have hKf : @LT.lt Nat _ K df := lD.2.1
  have hLf : @LT.lt Nat _ (L + 1) df := lD.2.2.1
  obtain ⟨W1, hW1⟩ : ∃ W1, W1 = TT ++ TTk := ⟨_, rfl⟩
  have N4 := kst_newsOf (l' := (df, o) :: (ds, os) :: (L + 1, oc) :: (lp, oP) :: (D, oD) :: (K, W.listOf vk.toArray cck) :: W1) N3 (by intro p hp; rw [hW1] at hp; simp only [List.mem_cons, List.mem_append] at hp ⊢; grind)
  clear N3 N2 F2
  k_steps
  unfold MyStop
  rename_i v3 hv3 F5 N5 l5
  refine my_items (od := os) (c := c) rfl F5 N5 (List.mem_cons_self ..) (by simp) hos hfs (by omega) ?_
  intro K2 vk2 cck2 TT2 h5 tk5 F6 N6 lK2 lTT2 dat2
  obtain ⟨W2, hW2⟩ : ∃ W2, W2 = W1 ++ TT2 := ⟨_, rfl⟩
  have N7 := kst_newsOf (l' := (df, o) :: (ds, os) :: (L + 1, oc) :: (lp, oP) :: (D, oD) :: (K, W.listOf vk.toArray cck) :: (K2, W.listOf vk2.toArray cck2) :: W2) N6 (by intro p hp; rw [hW2] at hp; simp only [List.mem_cons, List.mem_append] at hp ⊢; grind)
  have hdK2 : @LT.lt Nat _ df K2 := lK2 (df, o) (by simp)
  clear N6 N5 F5
  k_steps
  unfold MyStop
  refine my_ne_dat N7 (by k_memK) dat2 (by intro p hp; rw [hW2]; simp only [List.mem_cons, List.mem_append]; grind) (by k_memK) datK (by intro p hp; rw [hW2, hW1]; simp only [List.mem_cons, List.mem_append]; grind) (pairs_ok c) (Nat.le_of_ble_eq_true rfl) ?_
  k_steps
  unfold MyStop
  rename Fr _ _ _ _ => F8
  rename News _ _ _ _ => N8
  have hkE : kE.length < 64 := by
    have h1 := congrArg List.length hEn.keys
    have h2 := (full_perm (flat_keys hfs ▸ dict_nodup hos) pzs).length_eq
    simp only [List.length_map, List.length_cons] at h1 h2
    omega
  refine my_sorted_dict rfl F8 N8 (by simp) hof lof hkE ?_
  intro Ds vs ns cs h8 tk8 F9 N9 lDs hIs hps hws
  k_steps
  unfold MyStop
  rename_i z0 hz0 Fa Na lz
  refine my_sorted_dict rfl Fa Na (by k_memK) hos lo (by omega) ?_
  intro Dq vq nq cq h9 tk9 Fb Nb lDq hIq hpq hwq
  k_steps
  unfold MyStop
  have hnq : nq.length = c.length := by have := hpq.length_eq; rw [List.length_map] at this; omega
  have hL0 : Heap.IsList _ _ [Value.int 0 _].toArray := Nb.isList (a := z0) (List.Mem.tail _ (List.Mem.head _))
  have hLq : Heap.IsList _ _ vq.toArray := Nb.isList (a := Dq) (List.Mem.head _)
  refine my_add Fb Nb hL0 hLq (.cons _ _ .nil) hIq rfl (by simp; omega) ?_
  intro Dr ur hr Fc Nc lr hIr
  have hcn : (c.map (·.1)).Nodup := flat_keys hfs ▸ dict_nodup hos
  have he : ns = [0] ++ nq := by
    refine lks_uniq (hps.trans ?_) hws ?_
    · rw [hEn.keys]
      refine (full_perm hcn pzs).trans ?_
      rw [← flat_keys hfs]
      exact (List.Perm.cons 0 hpq).symm
    · refine List.pairwise_cons.mpr ⟨fun x hx => ?_, hwq⟩
      have := hpq.mem_iff.mp hx
      rw [flat_keys hfs] at this
      obtain ⟨p, hp, rfl⟩ := List.mem_map.mp this
      have := (hg.2 p hp).1
      omega
  rw [he] at hIs
  k_steps
  unfold MyStop
  refine my_ne_ints Nc (by k_memK) (by k_memK) hIs hIr (Nat.le_of_ble_eq_true rfl) ?_
  k_steps
  unfold MyStop
  refine next _ o kE df W2 zs _ _ ?_ ?_ Fc (kst_newsOf Nc ?_) ?_ hdf lof hof (hEn.mono ?_) pzs wzs
  · rfl
  · rfl
  · intro p hp; simp only [List.mem_cons] at hp ⊢; grind
  · intro q hq b hb
    rw [List.mem_singleton.mp hb]
    rw [hW2, hW1] at hq
    simp only [List.mem_append] at hq
    rcases hq with (hq | hq) | hq
    · have := ltN (lTT q hq); exact neN (by omega)
    · have := ltN (lTk q hq); exact neN (by omega)
    · have := ltN (lTT2 q hq); exact neN (by omega)
  · intro p hp; rw [hW2, hW1]; simp only [List.mem_append]; grind
end Mine

namespace Mine
open PySem PySem.W PySem.Calls PyProof.Rows PyProof.V PySem.Spec
local macro_rules | `(tactic| walk_at "exec Assign cons ListComp") => `(tactic| (k_here; k_dflt (refine LCt.Assign_ListComp_T (F₀ := by k_asm) (by rfl) (by with_unfolding_all rfl) (by with_unfolding_all rfl) (by decide) (by rfl) (by decide) (by rfl) (by rfl) (by rfl) ?_)))
local macro_rules | `(tactic| walk_at "CompSrcT") => `(tactic| (refine my_stop ?_))
local macro_rules | `(tactic| walk_at "compareOp NotEq ref ref") => `(tactic| (k_here; (with_reducible show wpAny _ _ (compareOp _ _ _) _ _ _); refine my_stop ?_))
local macro_rules | `(tactic| walk_at "call ref") => `(tactic| (k_here; (with_reducible show wpAny _ _ (call (Value.ref 94) [_]) _ _ _); refine my_stop ?_))
local macro_rules | `(tactic| walk_at "execs cons") => `(tactic| (k_here; (with_reducible show wpAny _ _ (execs (Stmt.For _ _ _ _ _ :: _) _) _ _ _); refine my_stop ?_))
theorem look_dflt {c : List (Int × Int)} {k : Int} (h : kdfHas c k = true) (a b : Int) : kdfLook c k a = kdfLook c k b := by
  unfold kdfHas at h
  unfold kdfLook
  cases hf : c.find? (fun p => decide (p.1 = k)) with
  | some p => rfl
  | none =>
    rw [List.any_eq_true] at h
    obtain ⟨p, hp, e⟩ := h
    have := List.find?_eq_none.mp hf p hp
    exact absurd e this
theorem look_miss {c : List (Int × Int)} {k : Int} (h : ¬ kdfHas c k = true) (a : Int) : kdfLook c k a = a := by
  unfold kdfLook
  cases hf : c.find? (fun p => decide (p.1 = k)) with
  | none => rfl
  | some p =>
    refine absurd ?_ h
    unfold kdfHas
    have h2 := List.find?_some hf
    exact List.any_eq_true.mpr ⟨p, List.mem_of_find?_eq_some hf, h2⟩
theorem range12_sorted : (rangeKs 1 12).Pairwise (· ≤ ·) := by decide
theorem range12_nodup : (rangeKs 1 12).Nodup := by decide
theorem mem_range12 {k : Int} (h1 : 1 ≤ k) (h2 : k ≤ 12) : k ∈ rangeKs 1 12 := by
  unfold rangeKs
  exact List.mem_map.mpr ⟨(k - 1).toNat, by simp; omega, by omega⟩
theorem line_eq {c : List (Int × Int)} {zs : List Int} (hg : CGood 8 c) (hcn : (c.map (·.1)).Nodup) (pzs : zs.Perm (freeKeys c)) (wzs : zs.Pairwise (· ≤ ·)) :
    List.filter (fun k => decide (kdfLook c k 65535 < 65535)) (rangeKs 1 12) = zs := by
  have hzn : zs.Nodup := pzs.nodup_iff.mpr (hcn.sublist List.filter_sublist)
  refine lks_uniq ((List.perm_ext_iff_of_nodup (range12_nodup.sublist List.filter_sublist) hzn).mpr fun k => ?_) (range12_sorted.sublist List.filter_sublist) wzs
  rw [pzs.mem_iff]
  unfold freeKeys
  simp only [List.mem_filter, decide_eq_true_eq]
  constructor
  · rintro ⟨_, h⟩
    by_cases hh : kdfHas c k = true
    · exact ⟨has_iff.mp hh, by rw [look_dflt hh 0 65535]; exact h⟩
    · rw [look_miss hh] at h; omega
  · rintro ⟨h1, h⟩
    obtain ⟨p, hp, rfl⟩ := List.mem_map.mp h1
    have := hg.2 p hp
    exact ⟨mem_range12 this.1 this.2.1, by rw [look_dflt (has_iff.mpr h1) 65535 0]; exact h⟩
theorem chain_mem {c : List (Int × Int)} {zs : List Int} {n i : Nat} (hi : i ≤ zs.length) : ∃ two, ((0 :: zs).getD i 0, (0 :: zs).getD (i + 1) 0, two) ∈ fullList c zs n :=
  ⟨_, List.mem_append_left _ (List.mem_map.mpr ⟨i, List.mem_range.mpr (by omega), rfl⟩)⟩
theorem law_tail7 {w : World} {mean : ExcName → Option Value} {mg mb : Str → Option Value} {h₀ : Heap} {L fa lp ds D df : Addr} {cd : Value} {M : Str → Option Value} {s : Shared} {Q : Flow → Shared → Prop} {E : Value → Shared → Prop}
    {os oc oD oP o : Obj} {kvs kE : List (Int × Value)} {c : List (Int × Int)} {zs : List Int} {Wl : List (Addr × Obj)}
    (B : Below callerA h₀ [] h₀) (X : (hd.heap_39 w.params).In h₀)
    (T : Top hd.view_39 (looseW hd.view_39 [Str.ofString "PaperError"]) mean mg mb h₀)
    (F : Fr h₀ L s.heap M) (hMp : M (Str.ofString "pen") = some (.ref lp)) (hMf : M (Str.ofString "found") = some (.ref df))
    (N : News h₀ L s.heap ((df, o) :: (ds, os) :: (L + 1, oc) :: (lp, oP) :: (D, oD) :: Wl))
    (hoc : oc.data = Data.cell (some (Value.ref ds))) (l1 : @Ne Nat (L + 1) D) (l1b : @LT.lt Nat _ (L + 1) lp) (l2 : @LT.lt Nat _ D lp) (l3 : @LT.lt Nat _ lp ds) (l4 : @LT.lt Nat _ ds df) (hWp : OwnOff Wl [lp])
    (hos : os.IsDictOf (PySem.intKind PySem.Challenge.rw_og0124_01.row.prog w) kvs) (hfs : FlatPairs PyData.int kvs (kdfD c)) (lo : (ds == sysModules) = false) (lof : (df == sysModules) = false) (hg : CGood 8 c)
    (hof : o.IsDictOf (PySem.intKind PySem.Challenge.rw_og0124_01.row.prog w) kE) (hEn : Ents w Wl kE (fullList c zs c.length)) (pzs : zs.Perm (freeKeys c)) (wzs : zs.Pairwise (· ≤ ·))
    (next : ∀ M' (Dl : Addr) (yl : List Value) (nl : Nat) h' tk', M' (Str.ofString "pen") = some (.ref lp) → M' (Str.ofString "found") = some (.ref df) → M' (Str.ofString "line") = some (.ref Dl) → Fr h₀ L h' M' →
      News h₀ L h' ((df, o) :: (ds, os) :: (L + 1, oc) :: (lp, oP) :: (D, oD) :: (Dl, W.listOf yl.toArray nl) :: Wl) → @Ne Nat Dl lp → IntsAre yl zs →
      wpAny (model PySem.Challenge.rw_og0124_01.row.prog w) (callerA.deeper (lawEnv L fa cd)) (execs (lawBody.drop 9) (lawEnv L fa cd)) Q E { s with heap := h', toks := tk' }) :
    wpAny (model PySem.Challenge.rw_og0124_01.row.prog w) (callerA.deeper (lawEnv L fa cd)) (execs (lawBody.drop 7) (lawEnv L fa cd)) Q E s := by
  w_top off
  have hK := kstMark
  revert X
  k_fill
  intro X
  have F1 := Fr.known (Fr.known F hMf) (x := Str.ofString "pen") (v := some (.ref lp)) (by rw [if_neg (by decide)]; exact hMp)
  clear F
  dsimp only [lawEnv, lawScope, lawBody, PySem.Challenge.pw_og0124_01, List.drop] at *
  have hlen : kvs.length = c.length := by rw [← hfs.length, kdfD_length]
  have hc8 := hg.1
  have hcn : (c.map (·.1)).Nodup := flat_keys hfs ▸ dict_nodup hos
  k_steps
  unfold MyStop
  rename_i hR tkR t1 u1 v1 rR FR NR kR
  refine LCt.CompSrcT.range (by rfl) FR NR rR (by decide) (n := 12) (by rfl) (Nat.le_of_ble_eq_true rfl) ?_
  intro g'
  refine kci_range (n := 12) (fun l k => if kdfLook c k 65535 < 65535 then l ++ [k] else l) ?_ ?_ ?_
  · intro k t I oI C oC D' m2 ys l h tk E' hlo hhi hys hC hx Fc Nc off ne mk
    have off0 := off
    simp only [LCg.Off3] at off
    k_steps
    · rename ((_ : Int) < _) => hlt
      rename News _ _ _ _ => Nc9
      rename Fr _ _ _ _ => Fc9
      exact ⟨_, _, _, rfl, Fc9, Nc9, off0, trivial, rfl, k, t, rfl, by rw [if_pos (by assumption)]⟩
    · rename (¬ (_ : Int) < _) => hlt
      rename News _ _ _ _ => Nc9
      rename Fr _ _ _ _ => Fc9
      exact ⟨_, _, _, rfl, Fc9, Nc9, off0, trivial, rfl, by rw [if_neg (by assumption)]⟩
  · intro yl hI hl
    intro Dl h9 tk9 F9 N9 o9
    rw [foldl_pick (fun k => kdfLook c k 65535 < 65535), List.nil_append] at hI
    rw [line_eq hg hcn pzs wzs] at hI
    have hDn := o9
    simp only [LCg.Off1] at hDn
    have N10 := kst_newsOf (l' := (df, o) :: (ds, os) :: (L + 1, oc) :: (lp, oP) :: (D, oD) :: (Dl, LCg.lst yl) :: Wl) N9 (by intro p hp; simp only [List.mem_cons] at hp ⊢; grind)
    clear N9
    refine (show wpAny _ _ (execs _ _) _ _ _ from ?_)
    k_steps
    unfold MyStop
    have hzn : zs.Nodup := pzs.nodup_iff.mpr (hcn.sublist List.filter_sublist)
    have hz0 : ∀ x ∈ zs, x ≠ 0 := by
      intro x hx
      obtain ⟨p, hp, rfl⟩ := List.mem_map.mp (List.mem_filter.mp (pzs.mem_iff.mp hx)).1
      have := (hg.2 p hp).1
      omega
    have hzl : zs.length ≤ 100 := by
      rw [pzs.length_eq]
      have : (freeKeys c).length ≤ c.length := by unfold freeKeys; exact Nat.le_trans (List.length_filter_le _ _) (by simp)
      omega
    k_dflt (refine' chain_of_spec (zs := zs) ?k1 ?k2 ?k3 N10 ?k5 ?k6 ?k7 hof (hEn.mono ?k8) lof (fun i hi => chain_mem hi) hzn hz0 hzl ?_)
    case k1 => k_asm
    case k2 => k_asm
    case k3 => k_asm
    case k5 => k_asm
    case k6 => exact rfl
    case k7 => first | decide | omega | ktr_room
    case k8 => intro p hp; simp [hp]
    intro Dc us nc h3 tk3 F3 N3 lDc hIc
    k_steps
    unfold MyStop
    refine my_ne_ints N3 (by k_memK) (by k_memK) hIc hI (Nat.le_of_ble_eq_true rfl) ?_
    k_steps
    unfold MyStop
    exact next _ Dl yl yl.length _ _ rfl rfl rfl F3 (kst_newsOf N3 fun p hp => List.mem_cons_of_mem _ hp) (Ne.symm hDn.2.2.2.1) hI
  · intro l k; dsimp only; split <;> simp
end Mine

namespace Mine
open PySem PySem.W PySem.Calls PyProof.Rows PyProof.V PySem.Spec
local macro_rules | `(tactic| walk_at "exec For Tuple Call cons nil") => `(tactic| (k_here; refine my_stop ?_))
local macro_rules | `(tactic| walk_at "binaryOp Add ref ref") => `(tactic| (k_here; (with_reducible show wpAny _ _ (binaryOp _ _ _) _ _ _); refine my_stop ?_))
local macro_rules | `(tactic| walk_at "call type:enumerate") => `(tactic| (k_here; refine my_stop ?_))
local macro_rules | `(tactic| walk_at "compareOp NotEq ref ref") => `(tactic| (k_here; (with_reducible show wpAny _ _ (compareOp _ _ _) _ _ _); refine my_stop ?_))
local macro_rules | `(tactic| walk_at "execs cons") => `(tactic| (k_here; (with_reducible show wpAny _ _ (execs (Stmt.For (Expr.Name _ _) _ _ _ _ :: _) _) _ _ _); refine my_stop ?_))
local macro_rules | `(tactic| k_mem) => `(tactic| assumption)
local macro_rules | `(tactic| walk_at "subscriptTail") => `(tactic| (k_here; (with_reducible show wpAny _ _ (subscriptTail _ _ (Value.ref _) (Value.int _ _)) _ _ _); k_dflt (refine' kda_item (knd := PySem.intKind _ _) ?N ?m ?d ?k ?v ?_; (case N => k_asm); (case m => k_mem); (case d => assumption); (case k => exact intKind_is _ _ _ _); (case v => assumption))))
theorem law_tail9 {w : World} {mean : ExcName → Option Value} {mg mb : Str → Option Value} {h₀ : Heap} {L fa lp ds D df Dl : Addr} {cd : Value} {M : Str → Option Value} {s : Shared} {Q : Flow → Shared → Prop} {E : Value → Shared → Prop}
    {os oc oD oP o : Obj} {kvs kE : List (Int × Value)} {c : List (Int × Int)} {zs : List Int} {Wl : List (Addr × Obj)} {yl : List Value} {nl : Nat}
    (B : Below callerA h₀ [] h₀) (X : (hd.heap_39 w.params).In h₀)
    (T : Top hd.view_39 (looseW hd.view_39 [Str.ofString "PaperError"]) mean mg mb h₀)
    (hE : PassesOwn (model PySem.Challenge.rw_og0124_01.row.prog w) (callerA.deeper (lawEnv L fa cd)) (lawEnv L fa cd) E)
    (F : Fr h₀ L s.heap M) (hMp : M (Str.ofString "pen") = some (.ref lp)) (hMf : M (Str.ofString "found") = some (.ref df)) (hMl : M (Str.ofString "line") = some (.ref Dl))
    (N : News h₀ L s.heap ((df, o) :: (ds, os) :: (L + 1, oc) :: (lp, oP) :: (D, oD) :: (Dl, W.listOf yl.toArray nl) :: Wl))
    (hoc : oc.data = Data.cell (some (Value.ref ds)))
    (hos : os.IsDictOf (PySem.intKind PySem.Challenge.rw_og0124_01.row.prog w) kvs) (hfs : FlatPairs PyData.int kvs (kdfD c)) (lo : (ds == sysModules) = false) (lof : (df == sysModules) = false) (hg : CGood 8 c)
    (hof : o.IsDictOf (PySem.intKind PySem.Challenge.rw_og0124_01.row.prog w) kE) (hEn : Ents w Wl kE (fullList c zs c.length)) (pzs : zs.Perm (freeKeys c)) (hIl : IntsAre yl zs)
    (next : ∀ M' h' tk', M' (Str.ofString "pen") = some (.ref lp) → M' (Str.ofString "found") = some (.ref df) → Fr h₀ L h' M' →
      News h₀ L h' ((df, o) :: (ds, os) :: (L + 1, oc) :: (lp, oP) :: (D, oD) :: (Dl, W.listOf yl.toArray nl) :: Wl) →
      wpAny (model PySem.Challenge.rw_og0124_01.row.prog w) (callerA.deeper (lawEnv L fa cd)) (execs (lawBody.drop 10) (lawEnv L fa cd)) Q E { s with heap := h', toks := tk' }) :
    wpAny (model PySem.Challenge.rw_og0124_01.row.prog w) (callerA.deeper (lawEnv L fa cd)) (execs (lawBody.drop 9) (lawEnv L fa cd)) Q E s := by
  w_top off
  have hK := kstMark
  revert X
  k_fill
  intro X
  have F1 := Fr.known (Fr.known (Fr.known F hMl) (x := Str.ofString "found") (v := some (.ref df)) (by rw [if_neg (by decide)]; exact hMf)) (x := Str.ofString "pen") (v := some (.ref lp)) (by rw [if_neg (by decide), if_neg (by decide)]; exact hMp)
  clear F
  dsimp only [lawEnv, lawScope, lawBody, PySem.Challenge.pw_og0124_01, List.drop] at *
  have hlen : kvs.length = c.length := by rw [← hfs.length, kdfD_length]
  have hc8 := hg.1
  have hcn : (c.map (·.1)).Nodup := flat_keys hfs ▸ dict_nodup hos
  have hzl : zs.length ≤ 8 := by
    rw [pzs.length_eq]
    have : (freeKeys c).length ≤ c.length := by unfold freeKeys; exact Nat.le_trans (List.length_filter_le _ _) (by simp)
    omega
  k_steps
  unfold MyStop
  with_unfolding_all refine For_enum F1 ?_ (hE := hE)
  k_steps
  rename_i z0 hz0 Fz Nz lz
  unfold MyStop
  have hL0 : Heap.IsList _ _ [Value.int 0 _].toArray := Nz.isList (a := z0) (List.Mem.head _)
  have hLl : Heap.IsList _ _ yl.toArray := Nz.isList (a := Dl) (by k_memK)
  refine my_add Fz Nz hL0 hLl (.cons _ _ .nil) hIl rfl (by simp; omega) ?_
  intro Dq uq hq Fq Nq lq hIq
  k_steps
  unfold MyStop
  obtain ⟨M0, hM0, Fq0⟩ := Fr.ex Fq
  have Nq0 := kst_newsOf (l' := (df, o) :: (ds, os) :: (L + 1, oc) :: (lp, oP) :: (D, oD) :: (Dl, W.listOf yl.toArray nl) :: (Dq, W.listOf uq.toArray 0) :: Wl) Nq (by intro p hp; simp only [List.mem_cons] at hp ⊢; grind)
  refine my_enum (fun _ m' l => (∃ a' n' g', m' = (fun y => if y = Str.ofString "goal" then g' else if y = Str.ofString "number" then n' else if y = Str.ofString "at" then a' else M0 y)) ∧
    l = (df, o) :: (ds, os) :: (L + 1, oc) :: (lp, oP) :: (D, oD) :: (Dl, W.listOf yl.toArray nl) :: (Dq, W.listOf uq.toArray 0) :: Wl) (by rfl) Fq0 Nq0 (by k_memK) ⟨⟨_, _, _, map_at3 M0 _ _ _⟩, rfl⟩ ?_ ?_
  · rintro i m₁ news₁ h tk own wr T t x hx ⟨⟨a', n', g', rfl⟩, rfl⟩ hoff hT Ft Nt
    obtain ⟨num, t', rfl, hnum⟩ := IntsAre.at hIq i x hx
    have hi : i < (0 :: zs).length := by
      rcases Nat.lt_or_ge i (0 :: zs).length with h | h
      · exact h
      · rw [show ([0] ++ zs : List Int) = 0 :: zs from rfl, List.getElem?_eq_none h] at hnum; cases hnum
    have hnum2 : (0 :: zs).getD i 0 = num := by
      rw [List.getD_eq_getElem?_getD, show (0 :: zs : List Int) = [0] ++ zs from rfl, hnum]; rfl
    have hmem : (num, (0 :: zs).getD (i + 1) 0, if i = 0 then 65535 else kdfLook c num 0) ∈ fullList c zs c.length := by
      refine List.mem_append_left _ (List.mem_map.mpr ⟨i, List.mem_range.mpr (by simpa using hi), ?_⟩)
      unfold chainAt; rw [hnum2]
    obtain ⟨v, hv, x, dx, t1, t2, t3, t4, t5, t6, rfl, hx1, hdx1⟩ := hEn.at_ (dict_nodup hof) hmem
    obtain ⟨Wo, hWo⟩ : ∃ Wo, Wo = Wl ++ own := ⟨_, rfl⟩
    have hx2 : (x, instObj 78 dx) ∈ Wo := by rw [hWo]; exact List.mem_append_left _ hx1
    have hdx2 := hWo ▸ List.mem_append_left own hdx1
    have Nt2 := kst_newsOf (l' := (df, o) :: (ds, os) :: (L + 1, oc) :: (lp, oP) :: (D, oD) :: (Dl, W.listOf yl.toArray nl) :: (Dq, W.listOf uq.toArray 0) :: Wo) Nt (by intro p hp; rw [hWo] at hp; simp only [List.mem_cons, List.mem_append] at hp ⊢; grind)
    clear Nt hx1 hdx1
    generalize hone : (0 :: zs).getD (i + 1) 0 = one at *
    generalize htwo : (if i = 0 then (65535 : Int) else kdfLook c num 0) = two at *
    rcases Nat.eq_zero_or_pos i with hi0 | hi0
    · subst hi0
      have hnum0 : num = 0 := by rw [← hnum2]; rfl
      subst hM0
      k_steps
      all_goals (
        unfold MyStop
        rename News _ _ _ _ => Nx
        refine my_ne_tup (d := Dat.tuple [.str (Str.ofString "free"), .int one, .int two]) Nx (DatIn.tuple (vs := [_, _, _]) (List.Mem.tail _ (List.Mem.head _)) (.cons (.str _ _) (.cons (.int _ _) (.cons (.int _ _) .nil)))) (DatIn.tuple (vs := [_, _, _]) (List.Mem.head _) (.cons (.str _ _) (.cons (datInt ?_) (.cons (datInt ?_) .nil)))) (told_ok one two) (Nat.le_of_ble_eq_true rfl) ?_)
      all_goals first
        | (rw [← htwo]; rfl)
        | (rw [← htwo, if_neg (by omega)]; done)
        | (rw [← hone]; rfl)
        | (rw [← hone, List.getD_eq_getElem?_getD, List.getElem?_eq_none (by rw [List.length_cons]; omega)]; rfl)
        | (k_steps
           rename Fr _ _ _ _ => Fx
           rename News _ _ _ _ => Nx
           exact ⟨_, _, _, _, rfl, Fx, kst_newsOf Nx (by intro p hp; rw [hWo]; simp only [List.mem_cons, List.mem_append] at hp ⊢; grind), hoff, ⟨_, _, _, map_ne3 (by intro z h1 h2 h3; simp [h1, h2, h3])⟩, rfl⟩)
    · have hzm : num ∈ zs := by
        obtain ⟨j, rfl⟩ : ∃ j, i = j + 1 := ⟨i - 1, by omega⟩
        have : zs[j]? = some num := by simpa using hnum
        exact List.mem_of_getElem? this
      have hkc : num ∈ c.map (·.1) := (List.mem_filter.mp (pzs.mem_iff.mp hzm)).1
      have hkh : kdfHas c num = true := has_iff.mpr hkc
      have hnp : 0 < num := by
        obtain ⟨p, hp, e⟩ := List.mem_map.mp hkc
        have := (hg.2 p hp).1
        omega
      subst hM0
      k_steps
      all_goals (
        unfold MyStop
        rename News _ _ _ _ => Nx
        refine my_ne_tup (d := Dat.tuple [.str (Str.ofString "free"), .int one, .int two]) Nx (DatIn.tuple (vs := [_, _, _]) (List.Mem.tail _ (List.Mem.head _)) (.cons (.str _ _) (.cons (.int _ _) (.cons (.int _ _) .nil)))) (DatIn.tuple (vs := [_, _, _]) (List.Mem.head _) (.cons (.str _ _) (.cons (datInt ?_) (.cons (datInt ?_) .nil)))) (told_ok one two) (Nat.le_of_ble_eq_true rfl) ?_)
      all_goals first
        | (rw [← htwo, if_neg (by omega)]; done)
        | (rw [← hone, show (i : Int).toNat = i from Int.toNat_natCast i, List.getD_cons_succ]; done)
        | (rw [← hone, List.getD_eq_getElem?_getD, List.getElem?_eq_none (by rw [List.length_cons]; omega)]; rfl)
        | (k_steps
           rename Fr _ _ _ _ => Fx
           rename News _ _ _ _ => Nx
           exact ⟨_, _, _, _, rfl, Fx, kst_newsOf Nx (by intro p hp; rw [hWo]; simp only [List.mem_cons, List.mem_append] at hp ⊢; grind), hoff, ⟨_, _, _, map_ne3 (by intro z h1 h2 h3; simp [h1, h2, h3])⟩, rfl⟩)
  · rintro m₁ l₁ h tk ⟨⟨a', n', g', rfl⟩, rfl⟩ Ft Nt
    subst hM0
    refine (show wpAny _ _ (execs _ _) _ _ _ from ?_)
    k_steps
    unfold MyStop
    exact next _ _ _ rfl rfl Ft (kst_newsOf Nt (by intro p hp; simp only [List.mem_cons] at hp ⊢; grind))
end Mine

namespace Mine
open PySem PySem.W PySem.Calls PyProof.Rows PyProof.V PySem.Spec
local macro_rules | `(tactic| walk_at "exec For Name Name cons nil") => `(tactic| (k_here; refine my_stop ?_))
local macro_rules | `(tactic| walk_at "compareOp NotEq ref ref") => `(tactic| (k_here; (with_reducible show wpAny _ _ (compareOp _ _ _) _ _ _); refine my_stop ?_))
local macro_rules | `(tactic| walk_at "execs cons") => `(tactic| (k_here; (with_reducible show wpAny _ _ (execs (Stmt.Assign _ (Expr.BinOp _ _ _ _) _ :: _) _) _ _ _); refine my_stop ?_))
local macro_rules | `(tactic| k_mem) => `(tactic| assumption)
theorem my_item {prog : Program} {w : World} {A : Around} {E : Value → Shared → Prop} {s : Shared} {h₀ : Heap} {L d : Addr} {news : List (Addr × Obj)} {o : Obj} {kvs : List (Int × Value)} {k : Int} {tk : Tok} {v : Value} {value slice : PySem.Expr} {Q : Value → Shared → Prop}
    (N : News h₀ L s.heap news) (hp : (d, o) ∈ news) (hd : o.IsDictOf (PySem.intKind prog w) kvs) (hl : valueAt kvs k = some v) (h : Q v { s with toks := s.toks + 1 })
    (hs : subscripted slice false (.ref d) (.int k tk) = operate [.ref d, .int k tk] (getItem (.ref d) (.int k tk)) := by with_unfolding_all rfl) (hg : ∀ r, letTemporaryGo value (.ref d) r = pure () := by intro _; with_unfolding_all rfl) :
    wpAny (model prog w) A (subscriptTail value slice (.ref d) (.int k tk)) Q E s := kda_item N hp hd (intKind_is _ _ _ _) hl h hs hg
local macro_rules | `(tactic| walk_at "subscriptTail") => `(tactic| (k_here; (with_reducible show wpAny _ _ (subscriptTail _ _ (Value.ref _) (Value.int _ _)) _ _ _); k_dflt (refine' my_item ?N ?m ?d ?v ?_; (case N => k_asm); (case m => k_mem); (case d => assumption); (case v => assumption))))
theorem law_tail10 {w : World} {mean : ExcName → Option Value} {mg mb : Str → Option Value} {h₀ : Heap} {L fa lp ds D df : Addr} {cd : Value} {M : Str → Option Value} {s : Shared} {Q : Flow → Shared → Prop} {E : Value → Shared → Prop}
    {os oc oD oP o : Obj} {kvs kE : List (Int × Value)} {c : List (Int × Int)} {zs : List Int} {Wl : List (Addr × Obj)}
    (B : Below callerA h₀ [] h₀) (X : (hd.heap_39 w.params).In h₀)
    (T : Top hd.view_39 (looseW hd.view_39 [Str.ofString "PaperError"]) mean mg mb h₀)
    (hE : PassesOwn (model PySem.Challenge.rw_og0124_01.row.prog w) (callerA.deeper (lawEnv L fa cd)) (lawEnv L fa cd) E)
    (F : Fr h₀ L s.heap M) (hMp : M (Str.ofString "pen") = some (.ref lp)) (hMf : M (Str.ofString "found") = some (.ref df))
    (N : News h₀ L s.heap ((df, o) :: (ds, os) :: (L + 1, oc) :: (lp, oP) :: (D, oD) :: Wl))
    (hoc : oc.data = Data.cell (some (Value.ref ds)))
    (hos : os.IsDictOf (PySem.intKind PySem.Challenge.rw_og0124_01.row.prog w) kvs) (hfs : FlatPairs PyData.int kvs (kdfD c)) (lo : (ds == sysModules) = false) (lof : (df == sysModules) = false)
    (hof : o.IsDictOf (PySem.intKind PySem.Challenge.rw_og0124_01.row.prog w) kE) (hEn : Ents w Wl kE (fullList c zs c.length))
    (next : ∀ M' h' tk', M' (Str.ofString "pen") = some (.ref lp) → M' (Str.ofString "found") = some (.ref df) → Fr h₀ L h' M' →
      News h₀ L h' ((df, o) :: (ds, os) :: (L + 1, oc) :: (lp, oP) :: (D, oD) :: Wl) →
      wpAny (model PySem.Challenge.rw_og0124_01.row.prog w) (callerA.deeper (lawEnv L fa cd)) (execs (lawBody.drop 11) (lawEnv L fa cd)) Q E { s with heap := h', toks := tk' }) :
    wpAny (model PySem.Challenge.rw_og0124_01.row.prog w) (callerA.deeper (lawEnv L fa cd)) (execs (lawBody.drop 10) (lawEnv L fa cd)) Q E s := by
  w_top off
  have hK := kstMark
  revert X
  k_fill
  intro X
  have F1 := Fr.known (Fr.known F hMf) (x := Str.ofString "pen") (v := some (.ref lp)) (by rw [if_neg (by decide)]; exact hMp)
  clear F
  dsimp only [lawEnv, lawScope, lawBody, PySem.Challenge.pw_og0124_01, List.drop] at *
  have hcn : (c.map (·.1)).Nodup := flat_keys hfs ▸ dict_nodup hos
  k_steps
  unfold MyStop
  with_unfolding_all refine For_my F1 rfl rfl ?_ (hE := hE)
  k_steps
  unfold MyIter
  obtain ⟨M0, hM0, F0⟩ := Fr.ex F1
  refine my_keys (knd := intKind _ _) (fun _ m' l => (∃ a', m' = fun y => if y = Str.ofString "number" then a' else M0 y) ∧ l = (df, o) :: (ds, os) :: (L + 1, oc) :: (lp, oP) :: (D, oD) :: Wl) (by rfl) (List.Mem.tail _ (List.Mem.head _)) hos lo ?_ F0 N ⟨⟨_, map_ne1 fun _ _ => rfl⟩, rfl⟩ ?_ ?_
  · rintro i m l ⟨_, rfl⟩; exact List.Mem.tail _ (List.Mem.head _)
  · rintro i m₁ l₁ h tk I oI k v key hkv hkey ⟨⟨a', rfl⟩, rfl⟩ hI9 Ft Nt
    obtain ⟨tk0, rfl⟩ := Value.isInt_shape hkey
    have hk1 : (c.map (·.1))[i]? = some k := by rw [← flat_keys hfs, List.getElem?_map, hkv]; rfl
    obtain ⟨p, hp, hpk⟩ : ∃ p, c[i]? = some p ∧ k = p.1 := by
      rw [List.getElem?_map] at hk1
      cases hc : c[i]? with
      | none => rw [hc] at hk1; cases hk1
      | some p => rw [hc] at hk1; exact ⟨p, rfl, (Option.some.inj hk1).symm⟩
    have hkh : kdfHas c k = true := has_iff.mpr (List.mem_of_getElem? hk1)
    have Nt2 := kst_newsOf (l' := (df, o) :: (ds, os) :: (L + 1, oc) :: (lp, oP) :: (D, oD) :: (I, oI) :: Wl) Nt (by intro p hp; simp only [List.mem_cons] at hp ⊢; grind)
    clear Nt
    by_cases hsp : 65535 ≤ kdfLook c k 0
    · have hmem : (k, 0, 65535) ∈ fullList c zs c.length := by
        refine List.mem_append_right _ (List.mem_map.mpr ⟨p, List.mem_filter.mpr ⟨by rw [List.take_length]; exact List.mem_of_getElem? hp, ?_⟩, by rw [hpk]⟩)
        rw [hpk, look_at hcn hp] at hsp
        exact decide_eq_true hsp
      obtain ⟨v', hv, x, dx, t1, t2, t3, t4, t5, t6, rfl, hx1, hdx1⟩ := hEn.at_ (dict_nodup hof) hmem
      subst hM0
      k_steps
      unfold MyStop
      rename News _ _ _ _ => Ny
      refine my_ne_tup (d := Dat.tuple [.str (Str.ofString "free"), .int 0, .int 65535]) Ny (DatIn.tuple (vs := [_, _, _]) (List.Mem.tail _ (List.Mem.head _)) (.cons (.str _ _) (.cons (.int _ _) (.cons (.int _ _) .nil)))) (DatIn.tuple (vs := [_, _, _]) (List.Mem.head _) (.cons (.str _ _) (.cons (.int _ _) (.cons (.int _ _) .nil)))) (told_ok 0 65535) (Nat.le_of_ble_eq_true rfl) ?_
      k_steps
      rename Fr _ _ _ _ => Fx
      rename News _ _ _ _ => Nx
      exact ⟨_, _, _, _, rfl, Fx, kst_newsOf Nx (by intro p hp; simp only [List.mem_cons] at hp ⊢; grind), hI9, ⟨_, map_ne1 (by intro z h1; simp [h1])⟩, rfl⟩
    · subst hM0
      k_steps
      rename Fr _ _ _ _ => Fx
      rename News _ _ _ _ => Nx
      exact ⟨_, _, _, _, rfl, Fx, kst_newsOf Nx (by intro p hp; simp only [List.mem_cons] at hp ⊢; grind), hI9, ⟨_, map_ne1 (by intro z h1; simp [h1])⟩, rfl⟩
  · rintro m₁ l₁ h tk ⟨⟨a', rfl⟩, rfl⟩ Ft Nt
    subst hM0
    refine (show wpAny _ _ (execs _ _) _ _ _ from ?_)
    k_steps
    unfold MyStop
    exact next _ _ _ rfl rfl Ft Nt
end Mine

namespace Mine
open PySem PySem.W PySem.Calls PyProof.Rows PyProof.V PySem.Spec
theorem miss_keys : typeLookup (.type "list") (Str.ofString "keys") = pure none := am_miss_of_fast (by decide +kernel)
theorem entry_upd_loop : entryFor table "dict.update.loop" = some Builtin.«dict.update.loop» := entryFor_of_fast (by kernel_rfl)
theorem plain_upd_loop : plainId "dict.update.loop" = true := by decide +kernel
section
variable {prog : Program} {w : World} {A : Around} {E : Value → Shared → Prop}
theorem my_by_miss {a : Addr} {xs : Array Value} {k : Nat} {tk : Tok} {Q : Value → Shared → Prop} {s : Shared}
    (hx : s.heap.get? a = some { cls := .type "list", dict := none, data := .seq xs k }) (hA : A.handled = none)
    (h : ∀ h' tk e, Heap.NewExcOf s.heap h' e "AttributeError" → E (.ref e) { s with heap := h', toks := tk }) :
    wpAny (model prog w) A (getAttrBy (.ref a) (.str (Str.ofString "keys") tk) false) Q E s := by
  obtain ⟨hp, g, d, t, os⟩ := s
  have hT : ∀ tk', (⟨hp, g, d, tk', os⟩ : Shared).TypeIs (.ref a) "list" := fun _ => ⟨_, hx, rfl⟩
  have f1 := sub_AttributeError
  have f3 := F.slot_list_getattribute.lookup
  have f4 := F.slot_list_getattribute.bind (.ref a)
  have f5 := am_list_getattr_none
  unfold getAttrBy
  repeat (any_goals (first | assumption | exact hT _ | ((with_reducible show wpAny _ _ (call (Value.builtin "list.__getattribute__") _ _) _ _ _); refine call_meets F.slot_list_getattribute (hT _) am_entry_list_getattribute (F.args_list_getattribute_2 _ _) (meets_getattribute_miss_list a xs k #[] _ _ miss_keys (by decide +kernel) (by size_fits)) ⟨hx, hA, fun h' tk' e hx' => ?_⟩) | wp_step))
  obtain ⟨t', u', he⟩ := hx'.there
  show wpAny _ _ (getattributeRaised _ _ _ _ _ _ _) _ _ _
  unfold getattributeRaised
  repeat (any_goals (first | assumption | wp_step))
  exact h _ _ _ hx'.of
theorem my_no_keys {a : Addr} {xs : Array Value} {k : Nat} {s : Shared} {Q : Option Value → Shared → Prop} (hx : s.heap.get? a = some { cls := .type "list", dict := none, data := .seq xs k }) (hA : A.handled = none)
    (h : ∀ h' tk, (∀ b ob, s.heap.get? b = some ob → h'.get? b = some ob) → Q none { s with heap := h', toks := tk }) :
    wpAny (model prog w) A (getAttr? (.ref a) "keys") Q E s := by
  unfold getAttr? getAttrBy?
  refine wpAny_bind ?_
  obtain ⟨hp, g, d, t, os⟩ := s
  have f1 := sub_AttributeError
  repeat (any_goals (first | assumption | ((with_reducible show wpAny _ _ (getAttrBy _ _ _) _ _ _); refine my_by_miss hx hA fun h' tk' e hx' => ?_) | wp_step))
  obtain ⟨ob, vs, he, hc, _⟩ := hx'.there
  refine wpAny_loadPart he (wpAny_pure ?_)
  rw [hc]
  refine wpAny_of_eq f1 ?_
  rw [if_pos rfl]
  exact wpAny_pure (h _ _ hx'.keeps)
theorem my_pairs_loop {h0 : Heap} {I l D : Addr} {ps : List (Int × Int)} {vs : List Value} {R : Result → Shared → Prop}
    (hh : A.in1.handled = none) (hI : I ≠ D) (hIl : l ≠ I) (hIn : h0.get? I = none) (hDn : h0.get? D = none) (hl0 : h0.IsList l vs.toArray)
    (hps : ∀ (j : Nat) v, vs[j]? = some v → ∃ (T : Addr) (p : Int × Int) (t1 t2 : Tok) (kk : Nat), v = .ref T ∧ ps[j]? = some p ∧ h0.get? T = some { cls := .type "tuple", data := .seq #[.int p.1 t1, .int p.2 t2] kk })
    (hsz : vs.length ≤ 1000) (hnd : (ps.map (·.1)).Nodup) (hlen : ps.length = vs.length) :
    ∀ (k i : Nat) (s : Shared) (kvs : List (Int × Value)), vs.length - i = k → i ≤ vs.length → (∀ b o, h0.get? b = some o → s.heap.get? b = some o) → s.heap.IsListIter I l i →
      s.heap.DictOf (PySem.intKind prog w) D kvs → FlatPairs PyData.int kvs (kdfD (ps.take i)) → kvs.map (·.1) = (ps.take i).map (·.1) →
      (∀ h' tk kvs', (∀ b o, h0.get? b = some o → h'.get? b = some o) → h'.DictOf (PySem.intKind prog w) D kvs' → FlatPairs PyData.int kvs' (kdfD ps) → R (.ok (.ret .none)) { s with heap := h', toks := tk }) →
      codeAny (model prog w) A (.builtin "dict.update.loop" ⟨[.ref D, .ref I, rawInt ((i : Nat) : Int), .none], []⟩) R s := by
  intro k
  have W := Walks.list (prog := prog) (w := w) hh I l hIl vs.toArray
  induction k with
  | zero =>
    intro i s kvs hk hi hold hit hD hf hkeys hR
    have hin : i = vs.length := by omega
    subst hin
    refine codeAny_builtin entry_upd_loop ?_
    rw [Around.under_plainId plain_upd_loop _]
    show wpAny _ A.in1 (pyNext (.ref I) >>= _) _ _ s
    refine wpAny_bind (W.done s _ _ (by rw [List.size_toArray]; exact ⟨hit, hl0.at fun o e => hold _ o e⟩) fun h' tk hkp => ?_)
    show wpAny _ _ (Builtin.Dict.addKeywords D [] >>= fun _ => ret Value.none) _ _ _
    refine wpAny_bind (wpAny_pure (wpAny_pure (hR h' tk kvs (fun b o e => hkp b o (fun q => ?_) (hold b o e)) ?_ ?_)))
    · rw [List.mem_singleton.mp q, hIn] at e; cases e
    · obtain ⟨od, ho, hod⟩ := Heap.dictOf_iff.mp hD
      exact Heap.dictOf_iff.mpr ⟨od, hkp _ _ (by simpa using Ne.symm hI) ho, hod⟩
    · rw [← hlen, List.take_length] at hf; exact hf
  | succ k ih =>
    intro i s kvs hk hi hold hit hD hf hkeys hR
    have hlt : i < vs.length := by omega
    refine codeAny_builtin entry_upd_loop ?_
    rw [Around.under_plainId plain_upd_loop _]
    show wpAny _ A.in1 (pyNext (.ref I) >>= _) _ _ s
    refine wpAny_bind (W.item i s _ _ (by rw [List.size_toArray]; exact hlt) ⟨hit, hl0.at fun o e => hold _ o e⟩ fun v h' tk hP hst' hkp => ?_)
    obtain ⟨T, p, t1, t2, kk, rfl, hp, hT⟩ := hps i v (by simpa using hP)
    have hold' : ∀ b o, h0.get? b = some o → h'.get? b = some o := fun b o e => hkp b o (fun q => by rw [List.mem_singleton.mp q, hIn] at e; cases e) (hold b o e)
    have hD' : h'.DictOf (PySem.intKind prog w) D kvs := by
      obtain ⟨od, ho, hod⟩ := Heap.dictOf_iff.mp hD
      exact Heap.dictOf_iff.mpr ⟨od, hkp _ _ (by simpa using Ne.symm hI) ho, hod⟩
    have hT' := hold' _ _ hT
    show wpAny _ A.in1 (holding [.ref T] _ >>= _) _ _ _
    refine wpAny_bind (wpAny_holding (wpAny_bind (wpAny_tryCatch ?_)))
    unfold Builtin.Dict.pairItems
    refine wpAny_bind (wpAny_typeOf (T := "tuple") ⟨_, hT', rfl⟩ ?_)
    rw [if_pos (by decide)]
    unfold seqItems?
    refine wpAny_bind (wpAny_bind (wpAny_load hT' (wpAny_pure ?_)))
    refine wpAny_pure ?_
    have htk : ps.take (i + 1) = ps.take i ++ [p] := by rw [List.take_add_one, hp]; rfl
    have hnew : p.1 ∉ kvs.map (·.1) := by
      rw [hkeys]
      intro hm
      rw [← List.take_append_drop (i + 1) ps, htk, List.map_append, List.map_append] at hnd
      have := (List.nodup_append.mp (List.nodup_append.mp hnd).1).2.2 _ hm p.1 (by simp)
      exact this rfl
    show wpAny _ A.in1 (holding [.int p.1 t1, .int p.2 t2] (dictSet D (.int p.1 t1) (.int p.2 t2))) _ _ _
    refine wpAny_holding (wpAny_dictSet_pairs (knd := PySem.intKind prog w) (intKind_is _ _ _ _) hD' (fun h2 hD2 hs2 => ?_) ?_)
    · rw [stored_new hnew] at hD2
      refine wpAny_pure ⟨plainId_quiet plain_upd_loop _, ?_⟩
      have e1 : ((i : Nat) : Int) + 1 = ((i + 1 : Nat) : Int) := rfl
      rw [e1]
      refine ih (i + 1) _ (kvs ++ [(p.1, .int p.2 t2)]) (by omega) hlt (fun b o e => hs2.extBut b o (fun q => by rw [q, hDn] at e; cases e) (hold' b o e)) (hst'.1.at fun o e => hs2.extBut I o hI e) hD2 ?_ ?_ ?_
      · rw [htk]
        show FlatPairs _ _ (List.map _ _)
        rw [List.map_append]
        exact hf.snoc p.1 (Flat.int _ _)
      · rw [htk, List.map_append, List.map_append, hkeys]; rfl
      · intro h3 tk3 kvs3 h31 h32 h33
        exact hR h3 tk3 kvs3 h31 h32 h33
    · have h1 := congrArg List.length hkeys
      rw [List.length_map, List.length_map, List.length_take] at h1
      rw [sizeLine_eq]; omega
end
theorem datAll_at {T : List (Addr × Obj)} : ∀ {c : List (Int × Int)} {vs : List Value}, DatAll T vs (c.map pairDat) → vs.length = c.length ∧ ∀ (j : Nat) v, vs[j]? = some v →
    ∃ (Tt : Addr) (p : Int × Int) (t1 t2 : Tok) (kk : Nat), v = .ref Tt ∧ c[j]? = some p ∧ (Tt, ({ cls := .type "tuple", data := .seq #[Value.int p.1 t1, Value.int p.2 t2] kk } : Obj)) ∈ T
  | [], _, h => by
    cases h
    exact ⟨rfl, fun j v hj => by simp at hj⟩
  | p :: c, _, h => by
    cases h with
    | cons h1 h2 =>
      obtain ⟨e, r⟩ := datAll_at h2
      refine ⟨by simp [e], fun j v hj => ?_⟩
      cases j with
      | zero =>
        have hj : _ = v := Option.some.inj hj
        subst hj
        cases h1 with
        | tuple hm hd =>
          cases hd with
          | cons a1 r1 =>
            cases r1 with
            | cons a2 r2 =>
              cases r2
              cases a1
              cases a2
              exact ⟨_, p, _, _, _, rfl, rfl, hm⟩
      | succ j => exact r j v hj
section
variable {prog : Program} {w : World} {A : Around} {E : Value → Shared → Prop} {s : Shared} {h₀ : Heap} {L : Addr} {m : Str → Option Value} {news : List (Addr × Obj)} {Q : Value → Shared → Prop}
theorem my_dict_of_pairs {l : Addr} {vs : List Value} {n : Nat} {c : List (Int × Int)} (hh : A.handled = none) (Fh : Fr h₀ L s.heap m) (N : News h₀ L s.heap news) (hbig : sysModules < h₀.objs.size)
    (hm : (l, W.listOf vs.toArray n) ∈ news) (hd : DatAll news vs (c.map pairDat)) (hnd : (c.map (·.1)).Nodup) (hc : c.length ≤ 1000)
    (h : ∀ (D : Addr) o kvs h' tk, Fr h₀ L h' m → News h₀ L h' ((D, o) :: news) → (∀ q ∈ news, q.1 < D) → (D == sysModules) = false → o.IsDictOf (PySem.intKind prog w) kvs → FlatPairs PyData.int kvs (kdfD c) → Q (.ref D) { s with heap := h', toks := tk }) :
    wpAny (model prog w) A (call (.type "dict") [.ref l]) Q E s := by
  obtain ⟨hlen, hat⟩ := datAll_at hd
  have hl := (N _ hm).1
  have hll : l < s.heap.objs.size := Heap.lt_size hl
  refine callType_codes (Q₁ := fun obj s₁ => obj = .ref s.heap.objs.size ∧ s₁ = { s with heap := s.heap.push { cls := .type "dict", data := .dict #[] } }) F.kt_called_dict (F.kt_typeCall_dict_1 _) F.entry_dict_init (kt_code_dict_new _ ⟨rfl, rfl⟩) ?_
  rintro obj s₁ ⟨rfl, rfl⟩
  have hnew : (s.heap.push { cls := .type "dict", data := .dict #[] }).DictOf (PySem.intKind prog w) s.heap.objs.size [] := Heap.DictOf.new s.heap
  have up : ∀ b o, s.heap.get? b = some o → (s.heap.push { cls := .type "dict", data := .dict #[] }).get? b = some o := fun b o e => Heap.get?_push_of_some _ e
  refine ⟨hnew.typeIs, F.args_dict_init_2 _ _, ?_⟩
  unfold Builtin.«dict.__init__»
  refine wpAny_bind ?_
  unfold Builtin.Dict.selfAndRest
  refine wpAny_bind (wpAny_notOrdered_dict hnew.typeIs ?_)
  show wpAny _ _ (pure (s.heap.objs.size, [Value.ref l])) _ _ _
  refine wpAny_pure ?_
  show wpAny _ _ (Builtin.Dict.updateFrom "dict.__init__" s.heap.objs.size (.ref l) [] .none) _ _ _
  unfold Builtin.Dict.updateFrom
  refine wpAny_bind (wpAny_typeOf (T := "list") ⟨_, up _ _ hl, rfl⟩ ?_)
  rw [if_pos (by decide)]
  refine wpAny_bind (my_no_keys (up _ _ hl) hh fun h1 tk1 hk1 => ?_)
  rw [if_pos (by decide)]
  refine wpAny_bind (wpAny_rule ?_)
  have hk2 : ∀ b ob, s.heap.get? b = some ob → h1.get? b = some ob := fun b ob e => hk1 b ob (up b ob e)
  have hD1 : h1.DictOf (PySem.intKind prog w) s.heap.objs.size [] := by
    obtain ⟨od, ho, hod⟩ := Heap.dictOf_iff.mp hnew
    exact Heap.dictOf_iff.mpr ⟨od, hk1 _ _ ho, hod⟩
  have hDlt : s.heap.objs.size < h1.objs.size := by
    obtain ⟨od, ho, hod⟩ := Heap.dictOf_iff.mp hD1
    exact Heap.lt_size ho
  have none_at : ∀ a, s.heap.objs.size ≤ a → s.heap.get? a = none := fun a ha => by
    cases e : s.heap.get? a with
    | none => rfl
    | some o' => exact absurd (Heap.lt_size e) (Nat.not_lt.mpr ha)
  have hl1 : h1.IsList l vs.toArray := ⟨_, hk2 _ _ hl, rfl, n, rfl⟩
  refine wpAny_bind (wpAny_pyIter_list hl1 ?_)
  refine wpAny_pure ⟨plainId_quiet plain_upd_loop _, ?_⟩
  refine my_pairs_loop (prog := prog) (w := w) (A := A.in1) (ps := c) (vs := vs) (h0 := s.heap) hh (Nat.ne_of_gt hDlt) (Nat.ne_of_lt (Nat.lt_trans hll hDlt)) (none_at _ (Nat.le_of_lt hDlt)) (none_at _ (Nat.le_refl _)) ⟨_, hl, rfl, n, rfl⟩ ?_ (by omega) hnd hlen.symm vs.length 0 _ [] (by omega) (Nat.zero_le _) ?_ ?_ ?_ ?_ ?_ ?_
  · intro j v hj
    obtain ⟨Tt, p, t1, t2, kk, e1, e2, e3⟩ := hat j v hj
    exact ⟨Tt, p, t1, t2, kk, e1, e2, (N _ e3).1⟩
  · exact fun b o e => Heap.get?_push_of_some _ (hk2 b o e)
  · exact ⟨_, Heap.get?_push_size _ rfl, rfl, rfl⟩
  · exact hD1.push _
  · rw [List.take_zero]; exact .nil
  · rw [List.take_zero]; rfl
  · intro h' tk kvs' hold hD' hf'
    obtain ⟨od, ho, hod⟩ := Heap.dictOf_iff.mp hD'
    refine ⟨rfl, h s.heap.objs.size od kvs' h' tk (Fh.keeps hold) ?_ (fun q hq => Heap.lt_size (N q hq).1) (Fh.notModules hbig) hod hf'⟩
    intro q hq
    rcases List.mem_cons.mp hq with rfl | hq
    · exact ⟨ho, kdx_fresh Fh (Nat.le_refl _)⟩
    · exact ⟨hold _ _ (N q hq).1, (N q hq).2⟩
end
end Mine

namespace Mine
open PySem PySem.W PySem.Calls PyProof.Rows PyProof.V PySem.Spec
def PairEnd (h₀ : Heap) (L : Addr) (m : Str → Option Value) (s₁ : Shared) (old : List (Addr × Obj)) (I C D : Addr) (a b : Int) (y : Value) (s₂ : Shared) : Prop :=
  ∃ (T : Addr) (t1 t2 : Tok) (h' : Heap) (tk : Nat), y = .ref T ∧ s₂ = { s₁ with heap := h', toks := tk } ∧ Fr h₀ L h' m ∧ News h₀ L h' ((T, ({ cls := .type "tuple", data := .seq #[Value.int a t1, Value.int b t2] } : Obj)) :: old) ∧ @Ne Nat T I ∧ @Ne Nat T C ∧ @Ne Nat T D
theorem datAll_snoc {T : List (Addr × Obj)} {v : Value} {d : Dat} (h : DatIn T v d) : ∀ {vs : List Value} {ds : List Dat}, DatAll T vs ds → DatAll T (vs ++ [v]) (ds ++ [d])
  | _, _, .nil => .cons h .nil
  | _, _, .cons a r => .cons a (datAll_snoc h r)
theorem datAll_mono {T T' : List (Addr × Obj)} (hs : ∀ p ∈ T, p ∈ T') : ∀ {vs : List Value} {ds : List Dat}, DatAll T vs ds → DatAll T' vs ds
  | _, _, .nil => .nil
  | _, _, .cons a r => .cons (a.mono hs) (datAll_mono hs r)
def pairsTo (a : Int) (f : Int → Int) (n : Nat) : List (Int × Int) := (List.range n).map fun (i : Nat) => (a + (i : Int), f (a + (i : Int)))
theorem pairsTo_succ (a : Int) (f : Int → Int) (n : Nat) : pairsTo a f (n + 1) = pairsTo a f n ++ [(a + (n : Int), f (a + (n : Int)))] := by
  simp [pairsTo, List.range_succ]
theorem pairsTo_keys (a : Int) (f : Int → Int) (n : Nat) : ((pairsTo a f n).map (·.1)).Nodup := by
  unfold pairsTo
  rw [List.map_map]
  refine List.pairwise_map.mpr (List.pairwise_lt_range.imp fun {i j} h e => ?_)
  have e : a + (i : Int) = a + (j : Int) := e
  omega
section
variable {prog : Program} {w : World} {A : Around} {s : Shared} {h₀ : Heap} {L : Addr} {m : Str → Option Value} {env : Env} {elt : Expr} {x : Str} {scope : Scope} {cl : List (Str × Addr)} {Fin : List Value → List (Addr × Obj) → Prop}
theorem my_comp_pairs {n : Nat} {a : Int} {Wl : List (Addr × Obj)} (G : List (Addr × Obj) → List (Addr × Obj)) (hG : ∀ W p, p ∈ G W ↔ p ∈ W ∨ p ∈ G []) (f : Int → Int)
    (turn : ∀ (i : Nat) t I oI C oC D m₂ ys W h tk (E' : Value → Shared → Prop), i < n → (∀ p ∈ Wl, p ∈ W) → LCg.NsObj oC m₂ → m₂ x = some (.int (a + (i : Int)) t) → Fr h₀ L h m → News h₀ L h ((I, oI) :: (C, oC) :: (D, LCg.lst ys) :: G W) → LCg.Off3 I C D (G W) →
      ((@Ne Nat I C) ∧ (@Ne Nat I D) ∧ (@Ne Nat C D)) →
      wpAny (model prog w) A (eval elt (compEnvC scope cl C env)) (PairEnd h₀ L m { s with heap := h, toks := tk } ((I, oI) :: (C, oC) :: (D, LCg.lst ys) :: G W) I C D (a + (i : Int)) (f (a + (i : Int)))) E' { s with heap := h, toks := tk })
    (fin : ∀ ys W, (∀ p ∈ Wl, p ∈ W) → ys.length = n → DatAll (G W) ys ((pairsTo a f n).map pairDat) → Fin ys (G W)) :
    LCg.CompRest prog w A h₀ L m env elt x scope cl s (fun _ => True) (fun i v => ∃ t, v = .int (a + (i : Int)) t) Fin n 0 [] (G Wl) := by
  have key : ∀ (k i : Nat) ys W, n - i = k → i ≤ n → (∀ p ∈ Wl, p ∈ W) → DatAll (G W) ys ((pairsTo a f i).map pairDat) → ys.length = i →
      LCg.CompRest prog w A h₀ L m env elt x scope cl s (fun _ => True) (fun i v => ∃ t, v = .int (a + (i : Int)) t) Fin k i ys (G W) := by
    intro k
    induction k with
    | zero =>
      intro i ys W hk hi hW hd hl
      have hin : i = n := by omega
      subst hin
      exact LCg.CompRest.zero (fin ys W hW hl hd)
    | succ k ih =>
      intro i ys W hk hi hW hd hl
      refine LCg.CompRest.succ ?_
      rintro v I oI C oC D m₂ h tk E' ⟨t, rfl⟩ hC hx F N off ne
      refine wpAny_mono (turn i t I oI C oC D m₂ ys W h tk E' (by omega) hW hC hx F N off ne) (fun y s₂ hy => ?_) fun _ _ e => e
      obtain ⟨T, t1, t2, h', tk', rfl, rfl, F', N', n1, n2, n3⟩ := hy
      have hsub : ∀ p ∈ G W, p ∈ G ((T, ({ cls := .type "tuple", data := .seq #[Value.int (a + (i : Int)) t1, Value.int (f (a + (i : Int))) t2] } : Obj)) :: W) := fun p hp => (hG _ p).mpr (((hG W p).mp hp).imp (fun h => List.mem_cons_of_mem _ h) id)
      refine LCg.CompEnd.intro F' N' (G ((T, ({ cls := .type "tuple", data := .seq #[Value.int (a + (i : Int)) t1, Value.int (f (a + (i : Int))) t2] } : Obj)) :: W)) ?_ ?_ trivial ?_
      · intro p hp
        simp only [List.mem_cons] at hp ⊢
        rcases hp with h | h | h | h
        · exact .inr (.inl h)
        · exact .inr (.inr (.inl h))
        · exact .inr (.inr (.inr (.inl h)))
        · rcases (hG _ p).mp h with h | h
          · rcases List.mem_cons.mp h with h | h
            · exact .inl h
            · exact .inr (.inr (.inr (.inr ((hG _ p).mpr (.inl h)))))
          · exact .inr (.inr (.inr (.inr ((hG _ p).mpr (.inr h)))))
      · refine LCg.Off3.of fun p hp => ?_
        rcases (hG _ p).mp hp with h | h
        · rcases List.mem_cons.mp h with rfl | h
          · exact ⟨n1, n2, n3⟩
          · exact off.mem p ((hG _ p).mpr (.inl h))
        · exact off.mem p ((hG _ p).mpr (.inr h))
      · refine ih (i + 1) (ys ++ [.ref T]) _ (by omega) (by omega) (fun p hp => List.mem_cons_of_mem _ (hW p hp)) ?_ (by simp [hl])
        rw [pairsTo_succ, List.map_append]
        refine datAll_snoc ?_ (datAll_mono hsub hd)
        exact .tuple (vs := [_, _]) ((hG _ _).mpr (.inl (List.mem_cons_self ..))) (.cons (.int _ _) (.cons (.int _ _) .nil))
  exact key n 0 [] Wl (by omega) (Nat.zero_le _) (fun p hp => hp) .nil rfl
end
theorem rows_same {c : List (Int × Int)} (hn : (c.map (·.1)).Nodup) : KeqRows (kdfD c) (kdfD c) true := by
  have key : ∀ (l : List (Int × Int)), (∀ p ∈ l, p ∈ c) → KeqRows (kdfD c) (kdfD l) true := by
    intro l
    induction l with
    | nil => intro _; exact .nil
    | cons p l ih =>
      intro h
      have hp := h p (List.mem_cons_self ..)
      have hl : PySem.Spec.lookup (PyData.int p.1) (kdfD c) = some (PyData.int p.2) := by
        obtain ⟨i, hi⟩ := List.mem_iff_getElem?.mp hp
        rw [kdfD_item (has_iff.mpr (List.mem_map.mpr ⟨p, hp, rfl⟩)), look_at hn hi]
      have he : PyData.eqv (PyData.int p.2) (PyData.int p.2) = true := by
        unfold PyData.eqv; simp
      have := KeqRows.hit (v := PyData.int p.2) hl (ih fun q hq => h q (List.mem_cons_of_mem _ hq))
      rw [he] at this
      exact this
  exact key c fun p hp => hp
end Mine

namespace Mine
open PySem PySem.W PySem.Calls PyProof.Rows PyProof.V PySem.Spec
def capOf (c : List (Int × Int)) (k : Int) : Int := if kdfLook c k 0 < 65535 then kdfLook c k 0 else 65535
theorem full_val {c : List (Int × Int)} {zs : List Int} (hcn : (c.map (·.1)).Nodup) (pzs : zs.Perm (freeKeys c)) {k : Int} (hk : 1 ≤ k) {e : Int × Int × Int} (he : e ∈ fullList c zs c.length) (h1 : e.1 = k) : e.2.2 = capOf c k := by
  unfold fullList at he
  unfold capOf
  rcases List.mem_append.mp he with he | he
  · obtain ⟨i, hi, rfl⟩ := List.mem_map.mp he
    have hi := List.mem_range.mp hi
    have h1 : (0 :: zs).getD i 0 = k := h1
    show (if i = 0 then (65535 : Int) else kdfLook c ((0 :: zs).getD i 0) 0) = _
    cases i with
    | zero =>
      have : (0 : Int) = k := h1
      omega
    | succ j =>
      rw [if_neg (by omega), h1]
      have hj : j < zs.length := by omega
      have hz : zs.getD j 0 = k := h1
      have hm : k ∈ zs := by
        rw [← hz, List.getD_eq_getElem?_getD, List.getElem?_eq_getElem hj]
        exact List.getElem_mem hj
      have hf := pzs.mem_iff.mp hm
      unfold freeKeys at hf
      have hlt : kdfLook c k 0 < 65535 := of_decide_eq_true (List.mem_filter.mp hf).2
      rw [if_pos hlt]
  · unfold spentList at he
    rw [List.take_length] at he
    obtain ⟨p, hp, rfl⟩ := List.mem_map.mp he
    have hp2 : 65535 ≤ p.2 := of_decide_eq_true (List.mem_filter.mp hp).2
    obtain ⟨i, hi⟩ := List.mem_iff_getElem?.mp (List.mem_filter.mp hp).1
    have h1 : p.1 = k := h1
    rw [← h1, look_at hcn hi, if_neg (by omega)]
theorem full_there {c : List (Int × Int)} {zs : List Int} (hcn : (c.map (·.1)).Nodup) (pzs : zs.Perm (freeKeys c)) {k : Int} (h : capOf c k ≠ 0) : ∃ e ∈ fullList c zs c.length, e.1 = k := by
  by_cases hh : kdfHas c k = true
  · obtain ⟨p, hp, rfl⟩ := List.mem_map.mp (has_iff.mp hh)
    obtain ⟨i, hi⟩ := List.mem_iff_getElem?.mp hp
    by_cases hv : p.2 < 65535
    · have hz : p.1 ∈ zs := by
        refine pzs.mem_iff.mpr ?_
        unfold freeKeys
        refine List.mem_filter.mpr ⟨List.mem_map.mpr ⟨p, hp, rfl⟩, ?_⟩
        rw [look_at hcn hi]
        exact decide_eq_true hv
      obtain ⟨j, hj⟩ := List.mem_iff_getElem?.mp hz
      have hlt : j < zs.length := by
        rcases Nat.lt_or_ge j zs.length with h | h
        · exact h
        · rw [List.getElem?_eq_none h] at hj; cases hj
      refine ⟨chainAt c (0 :: zs) (j + 1), List.mem_append_left _ (List.mem_map.mpr ⟨j + 1, List.mem_range.mpr (by omega), rfl⟩), ?_⟩
      show zs.getD j 0 = p.1
      rw [List.getD_eq_getElem?_getD, hj]; rfl
    · refine ⟨(p.1, 0, 65535), List.mem_append_right _ ?_, rfl⟩
      unfold spentList
      rw [List.take_length]
      exact List.mem_map.mpr ⟨p, List.mem_filter.mpr ⟨hp, decide_eq_true (by omega)⟩, rfl⟩
  · refine absurd ?_ h
    unfold capOf
    rw [look_miss hh]; rfl
theorem genOf_full {c : List (Int × Int)} {zs : List Int} (hcn : (c.map (·.1)).Nodup) (pzs : zs.Perm (freeKeys c)) {k : Int} (hk : 1 ≤ k) : genOf (fullList c zs c.length) k = capOf c k := by
  unfold genOf
  cases hf : (fullList c zs c.length).find? fun e => decide (e.1 = k) with
  | some e => exact full_val hcn pzs hk (List.mem_of_find?_eq_some hf) (by have h2 := List.find?_some hf; exact of_decide_eq_true h2)
  | none =>
    by_cases h : capOf c k = 0
    · rw [h]; rfl
    · obtain ⟨e, he, h1⟩ := full_there hcn pzs h
      have := List.find?_eq_none.mp hf e he
      exact absurd (decide_eq_true h1) this
theorem genList_full {c : List (Int × Int)} {zs : List Int} (hcn : (c.map (·.1)).Nodup) (pzs : zs.Perm (freeKeys c)) (n : Nat) : genList (fullList c zs c.length) n = pairsTo 1 (capOf c) n := by
  unfold genList pairsTo
  refine List.map_congr_left fun i _ => ?_
  rw [genOf_full hcn pzs (by omega)]
end Mine

namespace Mine
open PySem PySem.W PySem.Calls PyProof.Rows PyProof.V PySem.Spec
local macro_rules | `(tactic| walk_at "eval ListComp") => `(tactic| (k_here; k_dflt (refine LCg.ListComp_U (F₀ := by k_asm) (by with_unfolding_all rfl) (by decide) (by rfl) (by decide) (by rfl) ?_)))
local macro_rules | `(tactic| walk_at "CompSrc") => `(tactic| (refine my_stop ?_))
local macro_rules | `(tactic| walk_at "call type:dict") => `(tactic| (k_here; (with_reducible show wpAny _ _ (call (Value.type "dict") [Value.ref _]) _ _ _); refine my_stop ?_))
local macro_rules | `(tactic| walk_at "compareOp Eq ref ref") => `(tactic| (k_here; (with_reducible show wpAny _ _ (compareOp _ _ _) _ _ _); refine my_stop ?_))
local macro_rules | `(tactic| walk_at "call ref") => `(tactic| (k_here; (with_reducible show wpAny _ _ (call (Value.ref 113) [_, _]) _ _ _); refine my_stop ?_))
local macro_rules | `(tactic| walk_at "call ref") => `(tactic| (k_here; (with_reducible show wpAny _ _ (call (Value.ref 101) [_, _]) _ _ _); refine my_stop ?_))
theorem offTail {W : List (Addr × Obj)} {p a b c : Addr} {oa ob oc : Obj} (h : OwnOff W [p]) (ha : @Ne Nat a p) (hb : @Ne Nat b p) (hc : @Ne Nat c p) : OwnOff ((a, oa) :: (b, ob) :: (c, oc) :: W) [p] := by
  intro q hq r hr
  have hr' := List.mem_singleton.mp hr
  rcases List.mem_cons.mp hq with rfl | hq
  · rw [hr']; exact ha
  · rcases List.mem_cons.mp hq with rfl | hq
    · rw [hr']; exact hb
    · rcases List.mem_cons.mp hq with rfl | hq
      · rw [hr']; exact hc
      · exact h q hq r hr
theorem cap_eq (c : List (Int × Int)) (k : Int) : (if 65535 < kdfLook c k 0 then 65535 else kdfLook c k 0) = capOf c k := by
  unfold capOf
  split <;> split <;> omega
theorem law_tail11 {w : World} {mean : ExcName → Option Value} {mg mb : Str → Option Value} {h₀ : Heap} {L fa lp ds D df : Addr} {cd : Value} {M : Str → Option Value} {s : Shared} {Q : Flow → Shared → Prop} {E : Value → Shared → Prop}
    {os oc o : Obj} {kvs kE : List (Int × Value)} {c : List (Int × Int)} {zs : List Int} {Wl : List (Addr × Obj)} {ys : List Value} {ns : List Int} {k sd : Int} {tk0 tsd : Tok}
    (B : Below callerA h₀ [] h₀) (X : (hd.heap_39 w.params).In h₀)
    (T : Top hd.view_39 (looseW hd.view_39 [Str.ofString "PaperError"]) mean mg mb h₀)
    (F : Fr h₀ L s.heap M) (hMp : M (Str.ofString "pen") = some (.ref lp)) (hMf : M (Str.ofString "found") = some (.ref df))
    (N : News h₀ L s.heap ((df, o) :: (ds, os) :: (L + 1, oc) :: (lp, W.listOf #[.ref D, .int k tk0, .int sd tsd] 0) :: (D, W.listOf ys.toArray ys.length) :: Wl))
    (hoc : oc.data = Data.cell (some (Value.ref ds))) (l1 : @Ne Nat (L + 1) D) (l1b : @LT.lt Nat _ (L + 1) lp) (l2 : @LT.lt Nat _ D lp) (l3 : @LT.lt Nat _ lp ds) (l4 : @LT.lt Nat _ ds df) (hWp : OwnOff Wl [lp])
    (hI : IntsAre ys ns) (hns : ns.length ≤ 60) (hs0 : 0 ≤ sd) (hs1 : sd < 997) (hk0 : 0 ≤ k) (hk1 : k ≤ 20)
    (hos : os.IsDictOf (PySem.intKind PySem.Challenge.rw_og0124_01.row.prog w) kvs) (hfs : FlatPairs PyData.int kvs (kdfD c)) (lo : (ds == sysModules) = false) (lof : (df == sysModules) = false) (hg : CGood 8 c)
    (hof : o.IsDictOf (PySem.intKind PySem.Challenge.rw_og0124_01.row.prog w) kE) (hEn : Ents w Wl kE (fullList c zs c.length)) (pzs : zs.Perm (freeKeys c))
    (ret : ∀ M' h' tk', Fr h₀ L h' M' → Q (.ret (.bool true)) { s with heap := h', toks := tk' }) :
    wpAny (model PySem.Challenge.rw_og0124_01.row.prog w) (callerA.deeper (lawEnv L fa cd)) (execs (lawBody.drop 11) (lawEnv L fa cd)) Q E s := by
  w_top off
  have hK := kstMark
  revert X
  k_fill
  intro X
  have F1 := Fr.known (Fr.known F hMf) (x := Str.ofString "pen") (v := some (.ref lp)) (by rw [if_neg (by decide)]; exact hMp)
  clear F
  dsimp only [lawEnv, lawScope, lawBody, PySem.Challenge.pw_og0124_01, List.drop] at *
  have hcn : (c.map (·.1)).Nodup := flat_keys hfs ▸ dict_nodup hos
  k_steps
  unfold MyStop
  have N1 := kst_newsOf (l' := (lp, W.listOf #[.ref D, .int k tk0, .int sd tsd] 0) :: (D, W.listOf ys.toArray ys.length) :: (df, o) :: (ds, os) :: (L + 1, oc) :: Wl) N (by intro p hp; simp only [List.mem_cons] at hp ⊢; grind)
  clear N
  k_dflt (refine' draw_spec ?k1 ?k2 ?k3 N1 ?k5 ?k6 ?k7 ?k8 ?k9 hI hns hk0 ?k13 hs0 hs1 ?k16 ?k17 ?_)
  case k1 => k_asm
  case k2 => k_asm
  case k3 => k_asm
  case k5 => k_asm
  case k6 => exact rfl
  case k7 => first | decide | omega | ktr_room
  case k8 => exact offTail hWp (show @Ne Nat df lp from by omega) (show @Ne Nat ds lp from by omega) (show @Ne Nat (L + 1) lp from by omega)
  case k9 => show @Ne Nat D lp; omega
  case k13 => omega
  case k16 => decide
  case k17 => decide
  intro x t t' h1 tk1 hx0 hx1 F2 N2
  clear N1
  obtain ⟨n, hn⟩ : ∃ n : Nat, x = (n : Int) := ⟨x.toNat, by omega⟩
  subst hn
  k_steps
  unfold MyStop
  rename_i hR tkR t1 u1 v1 rR FR NR kR
  refine LCg.CompSrc.range (by rfl) FR NR rR (small_one (by omega) (by omega) (by omega) (by omega)) (n := n) (by rw [rangeSize_nat]; omega) (by rw [sizeLine_eq]; omega) ?_
  intro g'
  refine my_comp_pairs (Wl := Wl) (fun W' => (lp, W.listOf #[.ref D, .int (k + 1) t', .int sd tsd] 0) :: (D, W.listOf ys.toArray ys.length) :: (df, o) :: (ds, os) :: (L + 1, oc) :: W') (fun W p => ?_) (capOf c) ?_ ?_
  · simp only [List.mem_cons, List.not_mem_nil, or_false]; grind
  · intro i tt I oI C oC D' m2 yl W h tk E' hi hW hC hx Fc Nc off ne
    have off0 := off
    simp only [LCg.Off3] at off
    k_steps
    rename News _ _ _ _ => N9
    rename Fr _ _ _ _ => F9
    rename _ ∧ _ => l9
    rw [cap_eq] at N9
    exact ⟨_, _, _, _, _, rfl, rfl, F9, N9, Nat.ne_of_gt l9.1, Nat.ne_of_gt l9.2.1, Nat.ne_of_gt l9.2.2.1⟩
  · intro yl W hW hl hd
    intro Dl h9 tk9 F9 N9 o9
    have hDn := o9
    simp only [LCg.Off1] at hDn
    refine (show wpAny _ _ (spliced _) _ _ _ from ?_)
    k_steps
    unfold MyStop
    refine my_dict_of_pairs (c := pairsTo 1 (capOf c) n) (by rfl) F9 N9 (modules_low (Top.nolimit T)) (List.mem_cons_self ..) (datAll_mono (fun p hp => List.mem_cons_of_mem _ hp) hd) (pairsTo_keys _ _ _) (by unfold pairsTo; rw [List.length_map, List.length_range]; omega) ?_
    intro Dd od kd h3 tk3 F3 N3 lDd lod hod hfd
    k_steps
    unfold MyStop
    rename News _ _ _ _ => N3b
    have N4 := kst_newsOf (l' := (df, o) :: (Dd, od) :: W) N3b (by intro p hp; simp only [List.mem_cons] at hp ⊢; grind)
    k_dflt (refine' next_generations_spec (R := fullList c zs c.length) (n := n) ?k1 ?k2 ?k3 N4 ?k5 ?k6 ?k7 hof (hEn.mono ?k8) lof rfl ?k9 ?_)
    case k1 => k_asm
    case k2 => k_asm
    case k3 => k_asm
    case k5 => k_asm
    case k6 => exact rfl
    case k7 => first | decide | omega | ktr_room
    case k8 => intro p hp; exact List.mem_cons_of_mem _ (hW p hp)
    case k9 => omega
    intro De oe ke h5 tk5 F5 N5 lDe loe hoe hfe
    rw [genList_full hcn pzs] at hfe
    clear N4 N3b
    k_steps
    unfold MyStop
    rename News _ _ _ _ => N6
    refine keq_tabs (knd := PySem.intKind _ _) (enc := PyData.int) PyProof.V.same_int ⟨loe, ke, Heap.dictOf_iff.mpr ⟨oe, (N6 (De, oe) (by simp)).1, hoe⟩, hfe⟩ ⟨lod, kd, Heap.dictOf_iff.mpr ⟨od, (N6 (Dd, od) (by simp)).1, hod⟩, hfd⟩ rfl (Nat.le_of_ble_eq_true rfl) (rows_same (pairsTo_keys _ _ _)) ?_
    k_steps
    exact ret _ _ _ F5
end Mine

namespace Mine
open PySem PySem.W PySem.Calls PyProof.Rows PyProof.V PySem.Spec
local macro_rules | `(tactic| walk_at "execs cons") => `(tactic| (k_here; (with_reducible show wpAny _ _ (execs (Stmt.For (Expr.Name _ _) (Expr.Call _ _ _ _) _ _ _ :: _) _) _ _ _); refine my_stop ?_))
theorem offCons {W : List (Addr × Obj)} {p a : Addr} {oa : Obj} (ha : @Ne Nat a p) (h : OwnOff W [p]) : OwnOff ((a, oa) :: W) [p] := by
  intro q hq r hr
  rcases List.mem_cons.mp hq with rfl | hq
  · rw [List.mem_singleton.mp hr]; exact ha
  · exact h q hq r hr
theorem fin : PySem.Challenge.rw_og0124_01.Holds := by
  refine hd ?_
  k_go0
  all_goals try k_fold
  k_steps
  unfold MyStop
  rename Below _ _ _ _ => B9
  rename Top _ _ _ _ _ _ => T9
  rename News _ _ _ _ => N9
  rename Fr _ _ _ _ => F9
  rename _ = Data.cell (some (Value.ref _)) => hoc9
  rename IntsAre _ (List.map _ _) => hI9
  rename (_ ≠ _ ∧ _ ≠ _) => o19
  rename (_ < _ ∧ _ < _ ∧ _ < _ ∧ _ < _) => l49
  rename (_ < _ ∧ _ < _ ∧ _ < _) => l39
  rename (_ == sysModules) = false => lo9
  rename Obj.IsDictOf (PySem.intKind _ _) _ _ => hd9
  rename Frag.In _ _ => X9
  have N91 := kst_newsOf (l' := [_, _, _, _]) N9 (by intro p hp; simp only [List.mem_cons, List.not_mem_nil, or_false] at hp ⊢; rcases hp with h | h | h | h; exact .inr (.inl h); exact .inr (.inr (.inl h)); exact .inl h; exact .inr (.inr (.inr (.inr h))))
  refine law_tail3 B9 X9 T9 (by passes_own) F9 rfl N91 hoc9 o19.2 l39.2.2 l39.1 l49.1 hI9 ?_ ?_ ?_ hd9 .nil lo9 ?_
  · rw [List.length_map, List.length_take]; omega
  · exact Int.fmod_nonneg_of_pos _ (by decide)
  · exact Int.fmod_lt_of_pos _ (by decide)
  intro M4 os4 kvs4 c4 k4 t4 h4 tk4 hp4 F4 N4 hd4 hf4 hg4 hk4 hk5
  refine law_tail4 B9 X9 T9 F4 hp4 (kst_newsOf (l' := [_, _, _, _]) N4 fun p hp => hp) hoc9 o19.2 l39.2.2 l39.1 l49.1 hd4 hf4 lo9 hg4 ?_
  intro M7 o7 kE7 df7 Wl7 zs7 h7 tk7 hp7 hf7 F7 N7 hW7 l7 lo7 ho7 hE7 pz7 wz7
  refine law_tail7 B9 X9 T9 F7 hp7 hf7 N7 hoc9 o19.2 l39.2.2 l39.1 l49.1 l7 hW7 hd4 hf4 lo9 lo7 hg4 ho7 hE7 pz7 wz7 ?_
  intro M9 Dl9 yl9 nl9 h9 tk9 hp9 hf9 hl9 F9b N9b ne9 hI9b
  refine law_tail9 B9 X9 T9 (by passes_own) F9b hp9 hf9 hl9 N9b hoc9 hd4 hf4 lo9 lo7 hg4 ho7 hE7 pz7 hI9b ?_
  intro M10 h10 tk10 hp10 hf10 F10 N10
  refine law_tail10 B9 X9 T9 (by passes_own) F10 hp10 hf10 (Wl := (Dl9, W.listOf yl9.toArray nl9) :: Wl7) N10 hoc9 hd4 hf4 lo9 lo7 ho7 (hE7.mono fun p hp => List.mem_cons_of_mem _ hp) ?_
  intro M11 h11 tk11 hp11 hf11 F11 N11
  refine law_tail11 B9 X9 T9 F11 hp11 hf11 N11 hoc9 o19.2 l39.2.2 l39.1 l49.1 l7 (offCons ne9 hW7) hI9 ?_ ?_ ?_ hk4 hk5 hd4 hf4 lo9 lo7 hg4 ho7 (hE7.mono fun p hp => List.mem_cons_of_mem _ hp) pz7 ?_
  · rw [List.length_map, List.length_take]; omega
  · exact Int.fmod_nonneg_of_pos _ (by decide)
  · exact Int.fmod_lt_of_pos _ (by decide)
  intro M12 h12 tk12 F12
  k_unfold
  try dsimp only
  wrow_close
end Mine

theorem PySem.Challenge.cw_og0124_01_holds : PySem.Challenge.rw_og0124_01.Holds := by
  exact Mine.fin
