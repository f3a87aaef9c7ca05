import PyProof.Rows.All
import Wide.All
import OpenK.AllK
import Wide.FinOn
import PySem.Challenge.RW_nz0301_01
open PySem PySem.W PyProof.Rows PySem.Spec PySem.Calls
set_option Elab.async false
set_option compiler.extract_closed false
set_option linter.unusedSimpArgs false
set_option linter.unusedVariables false
set_option maxRecDepth 100000
set_option maxHeartbeats 1500000
namespace Mine
section
/-- a goal at which the walk is to stop -/
def Stopped (P : Prop) : Prop := P
theorem stop_ {P : Prop} (h : Stopped P) : P := h

abbrev prg : Program := PySem.Challenge.rw_nz0301_01.prog
abbrev Led := List (Addr × Obj)
abbrev tupO (vs : List Value) (n : Nat) : Obj := { cls := .type "tuple", data := .seq vs.toArray n }

section
variable {prog : Program} {w : World} {A : Around} {E : Value → Shared → Prop} {s : Shared} {env : Env} {h₀ : Heap} {target : Expr} {body : List Stmt} {Q : Flow → Shared → Prop}

/-- a turn's end: the iterator lies as it lay, the word holds of the rest -/
def TEnd (h₀ : Heap) (L : Addr) (J : (Str → Option Value) → Led → Prop) (I : Addr) (oI : Obj) (s₁ s₂ : Shared) : Prop :=
  ∃ h' tk m' nx, s₂ = { s₁ with heap := h', toks := tk } ∧ Fr h₀ L h' m' ∧ News h₀ L h' ((I, oI) :: nx) ∧ (∀ p ∈ nx, p.1 ≠ I) ∧ J m' nx
def TPost (h₀ : Heap) (L : Addr) (J : (Str → Option Value) → Led → Prop) (I : Addr) (oI : Obj) (s₁ : Shared) (Q : Flow → Shared → Prop) (f : Flow) (s₂ : Shared) : Prop :=
  match f with
  | .ret v => Q (.ret v) s₂
  | .brk => Q .next s₂
  | _ => TEnd h₀ L J I oI s₁ s₂

theorem turns_core {fp : List Addr} {n : Nat} {P : Nat → Value → Prop} {St : Nat → Heap → Prop} {m : Str → Option Value} {news : Led} {I : Addr}
    (J : Nat → (Str → Option Value) → Led → Prop) (W : Walks prog w A I fp [I] n P St)
    (hgo : ∀ i v (s : Shared) (Q : Unit → Shared → Prop) (E : Value → Shared → Prop), St i s.heap → Q () s → wpAny (model prog w) A (letOwnedTupleGo target (.ref I) v) Q E s)
    (hfp : ∀ b ∈ fp, b = I ∨ ∃ o, ∀ i m nx, J i m nx → (b, o) ∈ nx)
    (hIf : I ∈ fp) (hIo : ∀ i h, St i h → ∃ o, h.get? I = some o)
    (hL : env.locals ≠ I) (hLf : env.locals ∉ fp) (hI0 : h₀.get? I = none) (hst : St 0 s.heap) (F : Fr h₀ env.locals s.heap m) (N : News h₀ env.locals s.heap news) (hoff : ∀ p ∈ news, p.1 ≠ I) (hj : J 0 m news)
    (turn : ∀ i v m₁ nx h tk oI, i < n → P i v → J i m₁ nx → (∀ p ∈ nx, p.1 ≠ I) → Fr h₀ env.locals h m₁ → News h₀ env.locals h ((I, oI) :: nx) →
      wpAny (model prog w) A (assign target env v) (fun _ s₃ => wpAny (model prog w) A (execs body env) (TPost h₀ env.locals (J (i + 1)) I oI { s with heap := h, toks := tk } Q) E s₃) E { s with heap := h, toks := tk })
    (done : ∀ m₁ nx h tk, J n m₁ nx → Fr h₀ env.locals h m₁ → News h₀ env.locals h nx → Q .next { s with heap := h, toks := tk }) :
    TurnsAt prog w A h₀ env target body Q E (.ref I) s := by
  refine ⟨I, fp, [I], n, _, _, St, m, news, J, rfl, KTurns.ofWalks W hgo, hLf, ?_, ?_, hst, F, N, hj, ?_, ?_⟩
  · intro b hb
    rw [List.mem_singleton.mp hb]
    exact hI0
  · intro p hp hb
    exact hoff p hp (List.mem_singleton.mp hb)
  · rintro i v m₁ nx h₁ tk₁ own hi hP hJ hnw hown hget hall hst₁ F₁ N₁
    obtain ⟨oI, hoI⟩ := hIo _ _ hst₁
    have hIown : (I, oI) ∈ own := hall I hIf hI0 oI hoI
    have hsep : ∀ p ∈ nx, p.1 ≠ I := fun p hp e => hnw p hp (List.mem_singleton.mpr e)
    have N₂ : News h₀ env.locals h₁ ((I, oI) :: nx) := fun p hp => by
      rcases List.mem_cons.mp hp with rfl | hp
      · exact N₁ _ (List.mem_append_left _ hIown)
      · exact N₁ _ (List.mem_append_right _ hp)
    refine wpAny_mono (turn i v m₁ nx h₁ tk₁ oI hi hP hJ hsep F₁ N₂) (fun _ s₃ h₃ => wpAny_mono h₃ (fun f s₂ p => ?_) fun _ _ e => e) fun _ _ e => e
    have fin : TEnd h₀ env.locals (J (i + 1)) I oI { s with heap := h₁, toks := tk₁ } s₂ → LoopStepU h₀ env.locals [I] own (J (i + 1)) { s with heap := h₁, toks := tk₁ } .next s₂ := by
      rintro ⟨h', tk, m', nx', e, F', N', ho', hJ'⟩
      refine ⟨rfl, h', tk, m', nx', e, F', fun p hp => ?_, fun p hp hq => ho' p hp (List.mem_singleton.mp hq), hJ'⟩
      rcases List.mem_append.mp hp with hp | hp
      · have hg := hget p hp
        rcases hfp _ (hown p hp) with e1 | ⟨o, ho⟩
        · have : p = (I, oI) := by
            obtain ⟨a, b⟩ := p
            dsimp only at e1 hg
            subst e1
            rw [hoI] at hg
            cases hg
            rfl
          rw [this]
          exact N' _ (.head _)
        · have h1 := (N₂ _ (.tail _ (ho i m₁ nx hJ))).1
          have : p = (p.1, o) := by
            obtain ⟨a, b⟩ := p
            dsimp only at h1 hg ⊢
            rw [h1] at hg
            cases hg
            rfl
          rw [this]
          exact N' _ (.tail _ (ho (i + 1) m' nx' hJ'))
      · exact N' _ (.tail _ hp)
    cases f with
    | ret v => exact .ret p
    | brk => exact .brk p
    | next => exact .next (fin p)
    | cont => exact .cont (fin p)
  · rintro h' tk m' news' F' N' _ hJ
    exact done m' news' h' tk hJ F' N'

theorem go_list {I l : Addr} {elts : List Expr} {k : Nat} {pos : Pos} {items : Array Value} : ∀ i v (s : Shared) (Q : Unit → Shared → Prop) (E : Value → Shared → Prop), (s.heap.IsListIter I l i ∧ s.heap.IsList l items) → Q () s →
    wpAny (model prog w) A (letOwnedTupleGo (.Tuple elts k pos) (.ref I) v) Q E s := fun i v s Q E st hQ => by
  cases v with
  | ref T => exact wpAny_letOwnedTupleGo_listiter st.1 hQ
  | _ => exact wpAny_pure hQ

theorem go_tup {I l : Addr} {elts : List Expr} {k : Nat} {pos : Pos} {items : Array Value} : ∀ i v (s : Shared) (Q : Unit → Shared → Prop) (E : Value → Shared → Prop), (s.heap.IsTupleIter I l i ∧ s.heap.IsTuple l items) → Q () s →
    wpAny (model prog w) A (letOwnedTupleGo (.Tuple elts k pos) (.ref I) v) Q E s := fun i v s Q E st hQ => by
  cases v with
  | ref T =>
    obtain ⟨o, ho, hc, hd⟩ := st.1
    unfold letOwnedTupleGo
    refine wpAny_bind (wpAny_load ho ?_)
    rw [hc, hd]
    show wpAny _ A (if (["enumerate", "zip", "dict_itemiterator", "dict_reverseitemiterator", "odict_iterator", "itertools.zip_longest", "itertools.pairwise"].contains "tuple_iterator" &&
      (#[.ref l, .int i 0] : Array Value)[0]? == some (rawInt T)) = true then _ else _) Q E s
    rw [if_neg (by
      intro h
      rw [show (["enumerate", "zip", "dict_itemiterator", "dict_reverseitemiterator", "odict_iterator", "itertools.zip_longest", "itertools.pairwise"].contains "tuple_iterator") = false from by decide, Bool.false_and] at h
      cases h)]
    exact wpAny_pure hQ
  | _ => exact wpAny_pure hQ

theorem turns_list {l : Addr} {vs : List Value} {nn : Nat} {m : Str → Option Value} {news : Led} (J : Nat → (Str → Option Value) → Led → Prop)
    (hh : A.handled = none) (hJl : ∀ i m nx, J i m nx → (l, listOf vs.toArray nn) ∈ nx) (F : Fr h₀ env.locals s.heap m) (N : News h₀ env.locals s.heap news) (hj : J 0 m news)
    (hgo : ∀ I i v (s : Shared) (Q : Unit → Shared → Prop) (E : Value → Shared → Prop), (s.heap.IsListIter I l i ∧ s.heap.IsList l vs.toArray) → Q () s → wpAny (model prog w) A (letOwnedTupleGo target (.ref I) v) Q E s)
    (turn : ∀ i v m₁ nx h tk I oI, vs[i]? = some v → J i m₁ nx → (∀ p ∈ nx, p.1 ≠ I) → Fr h₀ env.locals h m₁ → News h₀ env.locals h ((I, oI) :: nx) →
      wpAny (model prog w) A (assign target env v) (fun _ s₃ => wpAny (model prog w) A (execs body env) (TPost h₀ env.locals (J (i + 1)) I oI { s with heap := h, toks := tk } Q) E s₃) E { s with heap := h, toks := tk })
    (done : ∀ m₁ nx h tk, J vs.length m₁ nx → Fr h₀ env.locals h m₁ → News h₀ env.locals h nx → Q .next { s with heap := h, toks := tk }) :
    wpAny (model prog w) A (pyIter (.ref l)) (fun it s₂ => TurnsAt prog w A h₀ env target body Q E it s₂) E s := by
  have hl := hJl _ _ _ hj
  have hol : s.heap.get? l = some (listOf vs.toArray nn) := (N _ hl).1
  have hls : s.heap.IsList l vs.toArray := ⟨_, hol, rfl, nn, rfl⟩
  have hne : l ≠ s.heap.objs.size := Nat.ne_of_lt (Heap.lt_size hol)
  refine wpAny_pyIter_list hls ?_
  have W := Walks.list (prog := prog) (w := w) hh s.heap.objs.size l hne vs.toArray
  have hlen : vs.toArray.size = vs.length := by simp
  rw [hlen] at W
  refine turns_core J W (hgo _) ?_ (.head _) (fun i h st => by obtain ⟨o, e, _⟩ := st.1; exact ⟨o, e⟩) (Nat.ne_of_lt F.ns.lt) ?_ (next_is_new F) ⟨⟨_, Heap.get?_push_size _ rfl, rfl, rfl⟩, hls.at fun o e => Heap.get?_push_of_some _ e⟩ (F.push _)
    (fun p hp => ⟨Heap.get?_push_of_some _ (N p hp).1, (N p hp).2⟩) (fun p hp => Nat.ne_of_lt (Heap.lt_size (N p hp).1)) hj ?_ ?_
  · intro b hb
    rcases List.mem_cons.mp hb with rfl | hb
    · exact .inl rfl
    · rw [List.mem_singleton.mp hb]
      exact .inr ⟨_, hJl⟩
  · intro hm
    rcases List.mem_cons.mp hm with e | hm
    · exact absurd F.ns.lt (e ▸ Nat.lt_irrefl _)
    · exact (N _ hl).2.1 ((List.mem_singleton.mp hm).symm)
  · intro i v m₁ nx h tk oI hi hP
    have hP' : vs[i]? = some v := by simpa using hP
    exact turn i v m₁ nx h tk _ oI hP'
  · exact done

theorem turns_tuple {l : Addr} {vs : List Value} {nn : Nat} {m : Str → Option Value} {news : Led} (J : Nat → (Str → Option Value) → Led → Prop)
    (hh : A.handled = none) (hJl : ∀ i m nx, J i m nx → (l, tupO vs nn) ∈ nx) (F : Fr h₀ env.locals s.heap m) (N : News h₀ env.locals s.heap news) (hj : J 0 m news)
    (hgo : ∀ I i v (s : Shared) (Q : Unit → Shared → Prop) (E : Value → Shared → Prop), (s.heap.IsTupleIter I l i ∧ s.heap.IsTuple l vs.toArray) → Q () s → wpAny (model prog w) A (letOwnedTupleGo target (.ref I) v) Q E s)
    (turn : ∀ i v m₁ nx h tk I oI, vs[i]? = some v → J i m₁ nx → (∀ p ∈ nx, p.1 ≠ I) → Fr h₀ env.locals h m₁ → News h₀ env.locals h ((I, oI) :: nx) →
      wpAny (model prog w) A (assign target env v) (fun _ s₃ => wpAny (model prog w) A (execs body env) (TPost h₀ env.locals (J (i + 1)) I oI { s with heap := h, toks := tk } Q) E s₃) E { s with heap := h, toks := tk })
    (done : ∀ m₁ nx h tk, J vs.length m₁ nx → Fr h₀ env.locals h m₁ → News h₀ env.locals h nx → Q .next { s with heap := h, toks := tk }) :
    wpAny (model prog w) A (pyIter (.ref l)) (fun it s₂ => TurnsAt prog w A h₀ env target body Q E it s₂) E s := by
  have hl := hJl _ _ _ hj
  have hol : s.heap.get? l = some (tupO vs nn) := (N _ hl).1
  have hls : s.heap.IsTuple l vs.toArray := ⟨_, hol, rfl, nn, rfl⟩
  have hne : l ≠ s.heap.objs.size := Nat.ne_of_lt (Heap.lt_size hol)
  refine wpAny_pyIter_tuple hls ?_
  have W := Walks.tuple (prog := prog) (w := w) hh s.heap.objs.size l hne vs.toArray
  have hlen : vs.toArray.size = vs.length := by simp
  rw [hlen] at W
  refine turns_core J W (hgo _) ?_ (.head _) (fun i h st => by obtain ⟨o, e, _⟩ := st.1; exact ⟨o, e⟩) (Nat.ne_of_lt F.ns.lt) ?_ (next_is_new F) ⟨⟨_, Heap.get?_push_size _ rfl, rfl, rfl⟩, hls.at fun o e => Heap.get?_push_of_some _ e⟩ (F.push _)
    (fun p hp => ⟨Heap.get?_push_of_some _ (N p hp).1, (N p hp).2⟩) (fun p hp => Nat.ne_of_lt (Heap.lt_size (N p hp).1)) hj ?_ ?_
  · intro b hb
    rcases List.mem_cons.mp hb with rfl | hb
    · exact .inl rfl
    · rw [List.mem_singleton.mp hb]
      exact .inr ⟨_, hJl⟩
  · intro hm
    rcases List.mem_cons.mp hm with e | hm
    · exact absurd F.ns.lt (e ▸ Nat.lt_irrefl _)
    · exact (N _ hl).2.1 ((List.mem_singleton.mp hm).symm)
  · intro i v m₁ nx h tk oI hi hP
    have hP' : vs[i]? = some v := by simpa using hP
    exact turn i v m₁ nx h tk _ oI hP'
  · exact done

theorem turns_range {r : Addr} {a₀ b₀ : Int} {t₀ u₀ v₀ : Tok} {n : Nat} {m : Str → Option Value} {news : Led} (J : Nat → (Str → Option Value) → Led → Prop)
    (hh : A.handled = none) (hr : IsRange s.heap r a₀ b₀ 1 t₀ u₀ v₀) (hsmall : Builtin.Range.small a₀ b₀ 1 = true) (hsz : Builtin.Range.rangeSize a₀ b₀ 1 = (n : Int)) (F : Fr h₀ env.locals s.heap m) (N : News h₀ env.locals s.heap news) (hj : J 0 m news)
    (hgo : ∀ I v (s : Shared) (Q : Unit → Shared → Prop) (E : Value → Shared → Prop), Q () s → wpAny (model prog w) A (letOwnedTupleGo target (.ref I) v) Q E s)
    (turn : ∀ (i : Nat) t m₁ nx h tk I oI, i < n → J i m₁ nx → (∀ p ∈ nx, p.1 ≠ I) → Fr h₀ env.locals h m₁ → News h₀ env.locals h ((I, oI) :: nx) →
      wpAny (model prog w) A (assign target env (.int (a₀ + (i : Int)) t)) (fun _ s₃ => wpAny (model prog w) A (execs body env) (TPost h₀ env.locals (J (i + 1)) I oI { s with heap := h, toks := tk } Q) E s₃) E { s with heap := h, toks := tk })
    (done : ∀ m₁ nx h tk, J n m₁ nx → Fr h₀ env.locals h m₁ → News h₀ env.locals h nx → Q .next { s with heap := h, toks := tk }) :
    wpAny (model prog w) A (pyIter (.ref r)) (fun it s₂ => TurnsAt prog w A h₀ env target body Q E it s₂) E s := by
  refine wpAny_pyIter_range hr hsmall ?_
  refine turns_core J (LCg.range_walks hh a₀ n) (fun i v s Q E _ => hgo _ v s Q E) ?_ (.head _) (fun i h st => ⟨_, st⟩) (Nat.ne_of_lt F.ns.lt) ?_ (next_is_new F) (by show IsRangeIter _ _ _ _ _; rw [hsz]; simpa using Heap.get?_push_size _ rfl) (F.push _)
    (fun p hp => ⟨Heap.get?_push_of_some _ (N p hp).1, (N p hp).2⟩) (fun p hp => Nat.ne_of_lt (Heap.lt_size (N p hp).1)) hj ?_ ?_
  · intro b hb
    exact .inl (List.mem_singleton.mp hb)
  · intro hm
    exact absurd F.ns.lt ((List.mem_singleton.mp hm) ▸ Nat.lt_irrefl _)
  · rintro i v m₁ nx h tk oI hi ⟨t, rfl⟩
    exact turn i t m₁ nx h tk _ oI hi
  · exact done

theorem go_name {x : Str} {px : Pos} : ∀ I v (s : Shared) (Q : Unit → Shared → Prop) (E : Value → Shared → Prop), Q () s → wpAny (model prog w) A (letOwnedTupleGo (.Name x px) (.ref I) v) Q E s := fun _ _ _ _ _ hQ => wpAny_pure hQ

theorem or_im {a b c : Prop} (h : a → c) (k : b → c) : a ∨ b → c := fun x => x.elim h k
def Grow (T al T' : Led) : Prop := (∀ p ∈ T, p ∈ T') ∧ ∀ p ∈ T', p ∈ T ∨ ∀ q ∈ al, p.1 ≠ q.1
theorem Grow.refl {T al : Led} : Grow T al T := ⟨fun _ h => h, fun _ h => .inl h⟩
theorem Grow.new {T al T' : Led} {x : Addr} {o : Obj} (g : Grow T al T') (h : ∀ q ∈ al, x ≠ q.1) : Grow T al ((x, o) :: T') :=
  ⟨fun p hp => .tail _ (g.1 p hp), fun p hp => by
    rcases List.mem_cons.mp hp with rfl | hp
    · exact .inr h
    · exact g.2 p hp⟩
theorem Grow.of {T al T' al' T'' : Led} (g : Grow T al T') (h : Grow T' al' T'') (hs : ∀ q ∈ al, ∃ q' ∈ al', q'.1 = q.1) : Grow T al T'' :=
  ⟨fun p hp => h.1 p (g.1 p hp), fun p hp => by
    rcases h.2 p hp with hp | hn
    · exact g.2 p hp
    · refine .inr fun q hq => ?_
      obtain ⟨q', hq', e⟩ := hs q hq
      rw [← e]
      exact hn q' hq'⟩
theorem Grow.weak {T al al' T' : Led} (g : Grow T al T') (h : ∀ p ∈ al', p ∈ al) : Grow T al' T' := ⟨g.1, fun p hp => (g.2 p hp).imp id fun k q hq => k q (h q hq)⟩
theorem Grow.ne {T al T' : Led} (g : Grow T al T') {a : Addr} {o : Obj} (hm : (a, o) ∈ al) (h : ∀ p ∈ T, p.1 ≠ a) : ∀ p ∈ T', p.1 ≠ a := fun p hp => by
  rcases g.2 p hp with hp | hn
  · exact h p hp
  · exact hn _ hm

def LJ {σ : Type} (Le : σ → Led) (ex fz al : Led) (ps : σ → List (Str × Value)) (Inv : Nat → σ → Led → Prop) (i : Nat) (m : Str → Option Value) (nx : Led) : Prop :=
  ∃ c T, nx = Le c ++ (ex ++ T) ∧ Grow fz al T ∧ (∀ p ∈ ps c, m p.1 = some p.2) ∧ Inv i c T
theorem kstB_self {m : Str → Option Value} {ps : List (Str × Value)} (h : ∀ p ∈ ps, m p.1 = some p.2) : kstB m ps = m := by
  funext z
  exact kstB_eq h fun _ => rfl

def LEnd {σ : Type} (Le : σ → Led) (ex : Led) (ps : σ → List (Str × Value)) (Inv : σ → Led → Prop) (h₀ : Heap) (L I : Addr) (oI : Obj) (c : σ) (T : Led) (s₁ s₂ : Shared) : Prop :=
  ∃ h' tk m' c' T', s₂ = { s₁ with heap := h', toks := tk } ∧ Fr h₀ L h' m' ∧ News h₀ L h' ((I, oI) :: (Le c' ++ (ex ++ T'))) ∧ Grow T ((I, oI) :: (Le c ++ (ex ++ T))) T' ∧ (∀ p ∈ ps c', m' p.1 = some p.2) ∧ Inv c' T'
def LPost {σ : Type} (Le : σ → Led) (ex : Led) (ps : σ → List (Str × Value)) (Inv : σ → Led → Prop) (h₀ : Heap) (L I : Addr) (oI : Obj) (c : σ) (T : Led) (s₁ : Shared) (Q : Flow → Shared → Prop) (f : Flow) (s₂ : Shared) : Prop :=
  match f with
  | .ret v => Q (.ret v) s₂
  | .brk => Q .next s₂
  | _ => LEnd Le ex ps Inv h₀ L I oI c T s₁ s₂
theorem lend {σ : Type} {Le : σ → Led} {ex : Led} {ps : σ → List (Str × Value)} {Inv : σ → Led → Prop} {L I : Addr} {oI : Obj} {c : σ} {T : Led} {s₁ : Shared} (c' : σ) (T' : Led) {h' : Heap} {tk : Nat} {m' : Str → Option Value} {news : Led}
    (F : Fr h₀ L h' m') (N : News h₀ L h' news) (hs : ∀ p ∈ (I, oI) :: (Le c' ++ (ex ++ T')), p ∈ news) (g : Grow T ((I, oI) :: (Le c ++ (ex ++ T))) T') (hp : ∀ p ∈ ps c', m' p.1 = some p.2) (hi : Inv c' T') :
    LEnd Le ex ps Inv h₀ L I oI c T s₁ { s₁ with heap := h', toks := tk } := ⟨h', tk, m', c', T', rfl, F, fun p h => N p (hs p h), g, hp, hi⟩

theorem lend_new {σ : Type} {Le : σ → Led} {ex : Led} {ps : σ → List (Str × Value)} {Inv : σ → Led → Prop} {L I : Addr} {oI : Obj} {c : σ} {T : Led} {s₁ : Shared} (c' : σ) {x : Addr} {o : Obj} {h' : Heap} {tk : Nat} {m' : Str → Option Value}
    (F : Fr h₀ L h' m') (N : News h₀ L h' ((x, o) :: (I, oI) :: (Le c' ++ (ex ++ T)))) (hx : AllLt x ((I, oI) :: (Le c ++ (ex ++ T)))) (hp : ∀ p ∈ ps c', m' p.1 = some p.2) (hi : Inv c' ((x, o) :: T)) :
    LEnd Le ex ps Inv h₀ L I oI c T s₁ { s₁ with heap := h', toks := tk } := by
  refine lend c' ((x, o) :: T) F N ?_ (Grow.refl.new fun q hq => Nat.ne_of_gt (kst_ltOf hx q hq)) hp hi
  intro p hp
  rcases List.mem_cons.mp hp with rfl | hp
  · exact .tail _ (.head _)
  · rcases List.mem_append.mp hp with hp | hp
    · exact .tail _ (.tail _ (List.mem_append_left _ hp))
    · rcases List.mem_append.mp hp with hp | hp
      · exact .tail _ (.tail _ (List.mem_append_right _ (List.mem_append_left _ hp)))
      · rcases List.mem_cons.mp hp with rfl | hp
        · exact .head _
        · exact .tail _ (.tail _ (List.mem_append_right _ (List.mem_append_right _ hp)))

/-- what a loop asks -/
def LTurn {σ : Type} (prog : Program) (w : World) (A : Around) (Le : σ → Led) (ex fz : Led) (adr : List Addr) (ps : σ → List (Str × Value)) (Inv : Nat → σ → Led → Prop) (item : Nat → Value → Prop) (h₀ : Heap) (env : Env) (target : Expr) (body : List Stmt) (Q : Flow → Shared → Prop) (E : Value → Shared → Prop) (s : Shared) : Prop :=
  ∀ i v c T u h tk I oI, item i v → Inv i c T → (∀ p ∈ fz, p ∈ T) → (∀ p ∈ ex ++ T, ∀ a ∈ adr, p.1 ≠ a) → (∀ p ∈ Le c ++ (ex ++ T), p.1 ≠ I) → Fr h₀ env.locals h (kstB u (ps c)) → News h₀ env.locals h ((I, oI) :: (Le c ++ (ex ++ T))) →
    wpAny (model prog w) A (assign target env v) (fun _ s₃ => wpAny (model prog w) A (execs body env) (LPost Le ex ps (Inv (i + 1)) h₀ env.locals I oI c T { s with heap := h, toks := tk } Q) E s₃) E { s with heap := h, toks := tk }
def LDone {σ : Type} (Le : σ → Led) (ex fz al : Led) (adr : List Addr) (ps : σ → List (Str × Value)) (Inv : Nat → σ → Led → Prop) (n : Nat) (h₀ : Heap) (L : Addr) (Q : Flow → Shared → Prop) (s : Shared) : Prop :=
  ∀ c T u h tk, Inv n c T → Grow fz al T → (∀ p ∈ ex ++ T, ∀ a ∈ adr, p.1 ≠ a) → Fr h₀ L h (kstB u (ps c)) → News h₀ L h (Le c ++ (ex ++ T)) → Q .next { s with heap := h, toks := tk }

theorem lj_off {σ : Type} {Le : σ → Led} {ex fz : Led} {adr : List Addr} {c₀ : σ} {T : Led} (hadr : ∀ c, (Le c).map (·.1) = adr) (ho : ∀ p ∈ ex ++ fz, ∀ a ∈ adr, p.1 ≠ a) (g : Grow fz (Le c₀ ++ (ex ++ fz)) T) : ∀ p ∈ ex ++ T, ∀ a ∈ adr, p.1 ≠ a := by
  intro p hp a ha
  rcases List.mem_append.mp hp with hp | hp
  · exact ho p (List.mem_append_left _ hp) a ha
  rcases g.2 p hp with hp | hn
  · exact ho p (List.mem_append_right _ hp) a ha
  · rw [← hadr c₀] at ha
    obtain ⟨q, hq, rfl⟩ := List.mem_map.mp ha
    exact hn q (List.mem_append_left _ hq)
theorem lj_turn {σ : Type} {Le : σ → Led} {ex fz : Led} {adr : List Addr} {ps : σ → List (Str × Value)} {Inv : Nat → σ → Led → Prop} {item : Nat → Value → Prop} {c₀ : σ} (hadr : ∀ c, (Le c).map (·.1) = adr) (ho : ∀ p ∈ ex ++ fz, ∀ a ∈ adr, p.1 ≠ a)
    (turn : LTurn prog w A Le ex fz adr ps Inv item h₀ env target body Q E s) :
    ∀ i v m₁ nx h tk I oI, item i v → LJ Le ex fz (Le c₀ ++ (ex ++ fz)) ps Inv i m₁ nx → (∀ p ∈ nx, p.1 ≠ I) → Fr h₀ env.locals h m₁ → News h₀ env.locals h ((I, oI) :: nx) →
      wpAny (model prog w) A (assign target env v) (fun _ s₃ => wpAny (model prog w) A (execs body env) (TPost h₀ env.locals (LJ Le ex fz (Le c₀ ++ (ex ++ fz)) ps Inv (i + 1)) I oI { s with heap := h, toks := tk } Q) E s₃) E { s with heap := h, toks := tk } := by
  rintro i v m₁ nx h tk I oI hit ⟨c, T, rfl, g, hp, hi⟩ hI F N
  rw [← kstB_self hp] at F
  refine wpAny_mono (turn i v c T m₁ h tk I oI hit hi g.1 (lj_off hadr ho g) hI F N) (fun _ s₃ h₃ => wpAny_mono h₃ (fun f s₂ p => ?_) fun _ _ e => e) fun _ _ e => e
  have fin : LEnd Le ex ps (Inv (i + 1)) h₀ env.locals I oI c T { s with heap := h, toks := tk } s₂ → TEnd h₀ env.locals (LJ Le ex fz (Le c₀ ++ (ex ++ fz)) ps Inv (i + 1)) I oI { s with heap := h, toks := tk } s₂ := by
    rintro ⟨h', tk', m', c', T', e, F', N', g', hp', hi'⟩
    refine ⟨h', tk', m', Le c' ++ (ex ++ T'), e, F', N', ?_, c', T', rfl, ?_, hp', hi'⟩
    · intro p hp
      rcases List.mem_append.mp hp with hp | hp
      · have : p.1 ∈ (Le c).map (·.1) := by rw [hadr c, ← hadr c']; exact List.mem_map_of_mem hp
        obtain ⟨q, hq, e⟩ := List.mem_map.mp this
        rw [← e]
        exact hI q (List.mem_append_left _ hq)
      · rcases List.mem_append.mp hp with hp | hp
        · exact hI p (List.mem_append_right _ (List.mem_append_left _ hp))
        · rcases g'.2 p hp with hp | hn
          · exact hI p (List.mem_append_right _ (List.mem_append_right _ hp))
          · exact hn _ (.head _)
    · refine g.of g' fun q hq => ?_
      rcases List.mem_append.mp hq with hq | hq
      · have : q.1 ∈ (Le c).map (·.1) := by rw [hadr c, ← hadr c₀]; exact List.mem_map_of_mem hq
        obtain ⟨q', hq', e⟩ := List.mem_map.mp this
        exact ⟨q', .tail _ (List.mem_append_left _ hq'), e⟩
      · rcases List.mem_append.mp hq with hq | hq
        · exact ⟨q, .tail _ (List.mem_append_right _ (List.mem_append_left _ hq)), rfl⟩
        · exact ⟨q, .tail _ (List.mem_append_right _ (List.mem_append_right _ (g.1 q hq))), rfl⟩
  cases f with
  | ret v => exact p
  | brk => exact p
  | next => exact fin p
  | cont => exact fin p
theorem lj_done {σ : Type} {Le : σ → Led} {ex fz : Led} {adr : List Addr} {ps : σ → List (Str × Value)} {Inv : Nat → σ → Led → Prop} {n : Nat} {c₀ : σ} (hadr : ∀ c, (Le c).map (·.1) = adr) (ho : ∀ p ∈ ex ++ fz, ∀ a ∈ adr, p.1 ≠ a)
    (done : LDone Le ex fz (Le c₀ ++ (ex ++ fz)) adr ps Inv n h₀ env.locals Q s) :
    ∀ m₁ nx h tk, LJ Le ex fz (Le c₀ ++ (ex ++ fz)) ps Inv n m₁ nx → Fr h₀ env.locals h m₁ → News h₀ env.locals h nx → Q .next { s with heap := h, toks := tk } := by
  rintro m₁ nx h tk ⟨c, T, rfl, g, hp, hi⟩ F N
  rw [← kstB_self hp] at F
  exact done c T m₁ h tk hi g (lj_off hadr ho g) F N

theorem lp_list {σ : Type} {l : Addr} {vs : List Value} {nn : Nat} {m : Str → Option Value} {news : Led} (Le : σ → Led) (ex fz : Led) (ps : σ → List (Str × Value)) (Inv : Nat → σ → Led → Prop) (adr : List Addr) (c₀ : σ)
    (hh : A.handled = none) (hl : (l, listOf vs.toArray nn) ∈ ex ++ fz) (F : Fr h₀ env.locals s.heap m) (N : News h₀ env.locals s.heap news) (hn : ∀ p ∈ Le c₀ ++ (ex ++ fz), p ∈ news) (hadr : ∀ c, (Le c).map (·.1) = adr) (ho : ∀ p ∈ ex ++ fz, ∀ a ∈ adr, p.1 ≠ a) (hps : ∀ p ∈ ps c₀, m p.1 = some p.2) (hi : Inv 0 c₀ fz)
    (hgo : ∀ I i v (s : Shared) (Q : Unit → Shared → Prop) (E : Value → Shared → Prop), (s.heap.IsListIter I l i ∧ s.heap.IsList l vs.toArray) → Q () s → wpAny (model prog w) A (letOwnedTupleGo target (.ref I) v) Q E s)
    (turn : LTurn prog w A Le ex fz adr ps Inv (fun i v => vs[i]? = some v) h₀ env target body Q E s) (done : LDone Le ex fz (Le c₀ ++ (ex ++ fz)) adr ps Inv vs.length h₀ env.locals Q s) :
    wpAny (model prog w) A (pyIter (.ref l)) (fun it s₂ => TurnsAt prog w A h₀ env target body Q E it s₂) E s :=
  turns_list (LJ Le ex fz (Le c₀ ++ (ex ++ fz)) ps Inv) hh (fun i m nx => by
    rintro ⟨c, T, rfl, g, _⟩
    rcases List.mem_append.mp hl with hl | hl
    · exact List.mem_append_right _ (List.mem_append_left _ hl)
    · exact List.mem_append_right _ (List.mem_append_right _ (g.1 _ hl))) F (fun p hp => N p (hn p hp)) ⟨c₀, fz, rfl, Grow.refl, hps, hi⟩ hgo
    (lj_turn hadr ho turn) (lj_done hadr ho done)
theorem lp_tuple {σ : Type} {l : Addr} {vs : List Value} {nn : Nat} {m : Str → Option Value} {news : Led} (Le : σ → Led) (ex fz : Led) (ps : σ → List (Str × Value)) (Inv : Nat → σ → Led → Prop) (adr : List Addr) (c₀ : σ)
    (hh : A.handled = none) (hl : (l, tupO vs nn) ∈ ex ++ fz) (F : Fr h₀ env.locals s.heap m) (N : News h₀ env.locals s.heap news) (hn : ∀ p ∈ Le c₀ ++ (ex ++ fz), p ∈ news) (hadr : ∀ c, (Le c).map (·.1) = adr) (ho : ∀ p ∈ ex ++ fz, ∀ a ∈ adr, p.1 ≠ a) (hps : ∀ p ∈ ps c₀, m p.1 = some p.2) (hi : Inv 0 c₀ fz)
    (hgo : ∀ I i v (s : Shared) (Q : Unit → Shared → Prop) (E : Value → Shared → Prop), (s.heap.IsTupleIter I l i ∧ s.heap.IsTuple l vs.toArray) → Q () s → wpAny (model prog w) A (letOwnedTupleGo target (.ref I) v) Q E s)
    (turn : LTurn prog w A Le ex fz adr ps Inv (fun i v => vs[i]? = some v) h₀ env target body Q E s) (done : LDone Le ex fz (Le c₀ ++ (ex ++ fz)) adr ps Inv vs.length h₀ env.locals Q s) :
    wpAny (model prog w) A (pyIter (.ref l)) (fun it s₂ => TurnsAt prog w A h₀ env target body Q E it s₂) E s :=
  turns_tuple (LJ Le ex fz (Le c₀ ++ (ex ++ fz)) ps Inv) hh (fun i m nx => by
    rintro ⟨c, T, rfl, g, _⟩
    rcases List.mem_append.mp hl with hl | hl
    · exact List.mem_append_right _ (List.mem_append_left _ hl)
    · exact List.mem_append_right _ (List.mem_append_right _ (g.1 _ hl))) F (fun p hp => N p (hn p hp)) ⟨c₀, fz, rfl, Grow.refl, hps, hi⟩ hgo
    (lj_turn hadr ho turn) (lj_done hadr ho done)
theorem lp_range {σ : Type} {r : Addr} {a₀ b₀ : Int} {t₀ u₀ v₀ : Tok} {n : Nat} {m : Str → Option Value} {news : Led} (Le : σ → Led) (ex fz : Led) (ps : σ → List (Str × Value)) (Inv : Nat → σ → Led → Prop) (adr : List Addr) (c₀ : σ)
    (hh : A.handled = none) (hr : IsRange s.heap r a₀ b₀ 1 t₀ u₀ v₀) (hsmall : Builtin.Range.small a₀ b₀ 1 = true) (hsz : Builtin.Range.rangeSize a₀ b₀ 1 = (n : Int)) (F : Fr h₀ env.locals s.heap m) (N : News h₀ env.locals s.heap news) (hn : ∀ p ∈ Le c₀ ++ (ex ++ fz), p ∈ news) (hadr : ∀ c, (Le c).map (·.1) = adr) (ho : ∀ p ∈ ex ++ fz, ∀ a ∈ adr, p.1 ≠ a) (hps : ∀ p ∈ ps c₀, m p.1 = some p.2) (hi : Inv 0 c₀ fz)
    (hgo : ∀ I v (s : Shared) (Q : Unit → Shared → Prop) (E : Value → Shared → Prop), Q () s → wpAny (model prog w) A (letOwnedTupleGo target (.ref I) v) Q E s)
    (turn : LTurn prog w A Le ex fz adr ps Inv (fun i v => i < n ∧ ∃ t, v = .int (a₀ + (i : Int)) t) h₀ env target body Q E s) (done : LDone Le ex fz (Le c₀ ++ (ex ++ fz)) adr ps Inv n h₀ env.locals Q s) :
    wpAny (model prog w) A (pyIter (.ref r)) (fun it s₂ => TurnsAt prog w A h₀ env target body Q E it s₂) E s :=
  turns_range (LJ Le ex fz (Le c₀ ++ (ex ++ fz)) ps Inv) hh hr hsmall hsz F (fun p hp => N p (hn p hp)) ⟨c₀, fz, rfl, Grow.refl, hps, hi⟩ hgo
    (fun i t m₁ nx h tk I oI hi => lj_turn hadr ho turn i _ m₁ nx h tk I oI ⟨hi, t, rfl⟩) (lj_done hadr ho done)
end

theorem sub_x {x : Addr × Obj} {ex T : Led} : ∀ p ∈ [] ++ (ex ++ (x :: T)), p ∈ x :: (ex ++ T) := fun p hp => by
  rw [List.nil_append] at hp
  rcases List.mem_append.mp hp with hp | hp
  · exact .tail _ (List.mem_append_left _ hp)
  · rcases List.mem_cons.mp hp with rfl | hp
    · exact .head _
    · exact .tail _ (List.mem_append_right _ hp)
theorem sub_mx {x m : Addr × Obj} {ex T : Led} : ∀ p ∈ [m] ++ (ex ++ (x :: T)), p ∈ x :: m :: (ex ++ T) := fun p hp => by
  rcases List.mem_cons.mp hp with rfl | hp
  · exact .tail _ (.head _)
  · rcases List.mem_cons.mp (sub_x p hp) with rfl | hp
    · exact .head _
    · exact .tail _ (.tail _ hp)
theorem out_ex {ex T : Led} {P : Addr × Obj → Prop} (h : ∀ p ∈ ex ++ T, P p) : ∀ p ∈ T, P p := fun p hp => h p (List.mem_append_right _ hp)
theorem in_ex {ex T : Led} {P : Addr × Obj → Prop} (h : ∀ p ∈ ex ++ T, P p) : ∀ p ∈ ex, P p := fun p hp => h p (List.mem_append_left _ hp)
theorem on_ex {ex T : Led} {P : Addr × Obj → Prop} (h : ∀ p ∈ ex, P p) (k : ∀ p ∈ T, P p) : ∀ p ∈ ex ++ T, P p := fun p hp => (List.mem_append.mp hp).elim (h p) (k p)

/-- a contract of the def at f: mt is what it turns, ex what it never sees, fz what lies as it lay -/
def Con (K : Params → Frag) (w : World) (rm ur : Nat) (f : Addr) (args : List Value) (mt fz : Led) (Post : Value → Led → Led → Prop) : Prop :=
  ∀ (ex : Led) (p : Program) (loose : List Str) (mean : ExcName → Option Value) (mg mb : Str → Option Value) (dp un : Nat) (gd : Option (List Code)) (cn : Str) (cs : Scope) (a : Addr) (ccd : Value) (cl : List (Str × Addr)) (outer : List Env) (A₀ : Around) (base h₀ : Heap) (L : Addr) (m : Str → Option Value) (s : Shared)
    (Q E : Value → Shared → Prop),
    Below A₀ base outer h₀ → Fr h₀ L s.heap m → (K w.params).In h₀ → News h₀ L s.heap (mt ++ (ex ++ fz)) → Top p loose mean mg mb h₀ → cs.kind = .function → dp + rm < recursionLimit → un + ur < cLine → (∀ p ∈ ex ++ fz, ∀ q ∈ mt, p.1 ≠ q.1) →
    (∀ r mt' T' h' tk', Fr h₀ L h' m → News h₀ L h' (mt' ++ (ex ++ T')) → Grow fz (mt ++ (ex ++ fz)) T' → (∀ p ∈ mt', p.1 ∈ mt.map (·.1) ∨ ∀ q ∈ mt ++ (ex ++ fz), p.1 ≠ q.1) → Post r mt' T' → Q r { s with heap := h', toks := tk' }) →
    wpAny (model prg w) (ktrTop dp un gd cn cs L a ccd cl outer) (call (.ref f) args) Q E s

theorem con_ret {ex mt fz : Led} {Post : Value → Led → Led → Prop} {Q : Value → Shared → Prop} {s : Shared} {h₀ : Heap} {L : Addr} {m : Str → Option Value}
    (ret : ∀ r mt' T' h' tk', Fr h₀ L h' m → News h₀ L h' (mt' ++ (ex ++ T')) → Grow fz (mt ++ (ex ++ fz)) T' → (∀ p ∈ mt', p.1 ∈ mt.map (·.1) ∨ ∀ q ∈ mt ++ (ex ++ fz), p.1 ≠ q.1) → Post r mt' T' → Q r { s with heap := h', toks := tk' })
    {r : Value} (mt' T' : Led) {h' : Heap} {tk' : Nat} {news : Led} (F : Fr h₀ L h' m) (N : News h₀ L h' news) (hm : mt'.map (·.1) = mt.map (·.1)) (hs : ∀ p ∈ mt' ++ (ex ++ T'), p ∈ news) (g : Grow fz (mt ++ (ex ++ fz)) T') (hP : Post r mt' T') : Q r { s with heap := h', toks := tk' } :=
  ret r mt' T' h' tk' F (fun p hp => N p (hs p hp)) g (fun p hp => .inl (hm ▸ List.mem_map_of_mem hp)) hP

theorem con_ret_new {ex fz : Led} {Post : Value → Led → Led → Prop} {Q : Value → Shared → Prop} {s : Shared} {h₀ : Heap} {L : Addr} {m : Str → Option Value}
    (ret : ∀ r mt' T' h' tk', Fr h₀ L h' m → News h₀ L h' (mt' ++ (ex ++ T')) → Grow fz ([] ++ (ex ++ fz)) T' → (∀ p ∈ mt', p.1 ∈ ([] : Led).map (·.1) ∨ ∀ q ∈ [] ++ (ex ++ fz), p.1 ≠ q.1) → Post r mt' T' → Q r { s with heap := h', toks := tk' })
    {r : Value} (T : Led) {D : Addr} {o : Obj} {h' : Heap} {tk' : Nat} {rest : Led} (F : Fr h₀ L h' m) (N : News h₀ L h' ((D, o) :: rest)) (hx : AllLt D rest) (hs : ∀ p ∈ ex ++ T, p ∈ rest) (g : Grow fz ([] ++ (ex ++ fz)) T) (hP : Post r [] ((D, o) :: T)) : Q r { s with heap := h', toks := tk' } := by
  refine con_ret ret [] ((D, o) :: T) F N rfl (fun p hp => ?_) (g.new fun q hq => ?_) hP
  · rcases List.mem_cons.mp (sub_x p hp) with rfl | hp
    · exact .head _
    · exact .tail _ (hs p hp)
  · refine Nat.ne_of_gt (kst_ltOf hx q (hs q ?_))
    rcases List.mem_append.mp (show q ∈ ex ++ fz from hq) with hq | hq
    · exact List.mem_append_left _ hq
    · exact List.mem_append_right _ (g.1 q hq)
theorem Grow.seq {ex fz al' T T' : Led} (g : Grow fz ([] ++ (ex ++ fz)) T) (h : Grow T al' T') (hs : ∀ q ∈ ex ++ T, q ∈ al') : Grow fz ([] ++ (ex ++ fz)) T' :=
  g.of h fun q hq => ⟨q, hs q ((List.mem_append.mp (show q ∈ ex ++ fz from hq)).elim (fun k => List.mem_append_left _ k) fun k => List.mem_append_right _ (g.1 q k)), rfl⟩

theorem Con.use {K : Params → Frag} {w : World} {rm ur : Nat} {f : Addr} {args : List Value} {mt T : Led} {Post : Value → Led → Led → Prop} (C : Con K w rm ur f args mt T Post) (ex : Led)
    {p : Program} {loose : List Str} {mean : ExcName → Option Value} {mg mb : Str → Option Value} {dp un : Nat} {gd : Option (List Code)} {cn : Str} {cs : Scope} {a : Addr} {ccd : Value} {cl : List (Str × Addr)} {outer : List Env} {A₀ : Around} {base h₀ : Heap} {L : Addr} {m : Str → Option Value} {s : Shared} {news : Led}
    {Q E : Value → Shared → Prop} (B : Below A₀ base outer h₀) (F : Fr h₀ L s.heap m) (X : (K w.params).In h₀) (N : News h₀ L s.heap news) (T₀ : Top p loose mean mg mb h₀) (hk : cs.kind = .function) (hd : dp + rm < recursionLimit) (hu : un + ur < cLine)
    (hs : ∀ p ∈ mt ++ (ex ++ T), p ∈ news) (ho : ∀ p ∈ ex ++ T, ∀ q ∈ mt, p.1 ≠ q.1)
    (ret : ∀ r mt' T' h' tk', Fr h₀ L h' m → News h₀ L h' (mt' ++ (ex ++ T')) → Grow T (mt ++ (ex ++ T)) T' → (∀ p ∈ mt', p.1 ∈ mt.map (·.1) ∨ ∀ q ∈ mt ++ (ex ++ T), p.1 ≠ q.1) → Post r mt' T' → Q r { s with heap := h', toks := tk' }) :
    wpAny (model prg w) (ktrTop dp un gd cn cs L a ccd cl outer) (call (.ref f) args) Q E s :=
  C ex p loose mean mg mb dp un gd cn cs a ccd cl outer A₀ base h₀ L m s Q E B F X (fun q hq => N q (hs q hq)) T₀ hk hd hu ho ret
end
section
abbrev pairD (p : Int × Int) : Dat := .tuple [.int p.1, .int p.2]
abbrev pairsD (ps : List (Int × Int)) : List Dat := ps.map pairD
theorem dat_pair {fz : Led} {v : Value} {lo hi : Int} (h : DatIn fz v (.tuple [.int lo, .int hi])) : ∃ a t1 t2 n, v = .ref a ∧ (a, tupO [.int lo t1, .int hi t2] n) ∈ fz := by
  cases h with
  | tuple hm r =>
    cases r with
    | cons h1 r =>
      cases h1
      cases r with
      | cons h2 r =>
        cases h2
        cases r
        exact ⟨_, _, _, _, rfl, hm⟩
theorem dat_tup {fz : Led} {v : Value} {ds : List Dat} (h : DatIn fz v (.tuple ds)) : ∃ a vs n, v = .ref a ∧ (a, tupO vs n) ∈ fz ∧ DatAll fz vs ds := by
  cases h with
  | tuple hm r => exact ⟨_, _, _, rfl, hm, r⟩
theorem dat_lst {fz : Led} {v : Value} {ds : List Dat} (h : DatIn fz v (.list ds)) : ∃ a vs n, v = .ref a ∧ (a, listOf vs.toArray n) ∈ fz ∧ DatAll fz vs ds := by
  cases h with
  | list hm r => exact ⟨_, _, _, rfl, hm, r⟩
theorem dat_at {fz : Led} {vs : List Value} {ds : List Dat} (h : DatAll fz vs ds) {i : Nat} {v : Value} (hv : vs[i]? = some v) : ∃ d, ds[i]? = some d ∧ DatIn fz v d := by
  have hl := h.length
  have hi : i < ds.length := by rw [← hl]; exact (List.getElem?_eq_some_iff.mp hv).1
  obtain ⟨v', e, hd⟩ := h.get hi
  rw [hv] at e
  cases e
  exact ⟨_, List.getElem?_eq_getElem hi, hd⟩
section
variable {prog : Program} {w : World} {A : Around} {E : Value → Shared → Prop} {s : Shared} {h₀ : Heap} {L : Addr} {m : Str → Option Value}
theorem tup_len {l : Addr} {news : Led} {us : List Value} {k c : Nat} {Q : Value → Shared → Prop} (N : News h₀ L s.heap news) (hm : (l, tupO us c) ∈ news) (e : us.length = k) (hfit : (k : Int) < 2 ^ 63)
    (h : Q (.int (k : Int) (s.toks + 1)) { s with toks := s.toks + 1 + 1 }) : wpAny (model prog w) A (call (.builtin "len") [.ref l]) Q E s := by
  have hl : s.heap.IsTuple l us.toArray := ⟨_, (N _ hm).1, rfl, c, rfl⟩
  have e2 : us.toArray.size = k := by rw [List.size_toArray, e]
  exact len_tuple hl (by rw [e2]; exact hfit) (by rw [e2]; exact h)
theorem list_last {value slice : Expr} {a : Addr} {news : Led} {ws : List Value} {x : Value} {n k : Nat} {u : Tok} {Q : Value → Shared → Prop} (N : News h₀ L s.heap news) (hm : (a, listOf (ws ++ [x]).toArray n) ∈ news) (e : (ws ++ [x]).length = k) (hfit : (k : Int) < 2 ^ 63) (h : Q x s)
    (hs : subscripted slice false (.ref a) (.int (-1) u) = operate [.ref a, .int (-1) u] (getItem (.ref a) (.int (-1) u)) := by with_unfolding_all rfl) (hg : ∀ r, letTemporaryGo value (.ref a) r = pure () := by intro _; with_unfolding_all rfl) :
    wpAny (model prog w) A (subscriptTail value slice (.ref a) (.int (-1) u)) Q E s :=
  kim_back (l := ws ++ [x]) (k := -1) N hm rfl rfl (by decide) (by rw [List.length_append, List.length_singleton]; omega) (by decide) (by
    have : (-1 + ((ws ++ [x]).length : Int)).toNat = ws.length := by rw [List.length_append, List.length_singleton]; omega
    rw [this]
    simp) h hs hg
theorem tup_of {l : Addr} {news : Led} {us : List Value} {c : Nat} {Q : Value → Shared → Prop} (F : Fr h₀ L s.heap m) (N : News h₀ L s.heap news) (hm : (l, listOf us.toArray c) ∈ news) (hz : us.length ≤ 16384)
    (h : ∀ D h', Fr h₀ L h' m → News h₀ L h' ((D, tupO us 0) :: news) → (∀ p ∈ news, p.1 < D) → Q (.ref D) { s with heap := h' }) : wpAny (model prog w) A (call (.type "tuple") [.ref l]) Q E s :=
  kde_tupleOf (items := us.toArray) (zs := us) F N (News.isList N hm) (by rw [List.size_toArray]; exact hz) (by simp) h
theorem list_at {value slice : Expr} {a : Addr} {news : Led} {us : List Value} {x : Value} {n i : Nat} {u : Tok} {Q : Value → Shared → Prop} (N : News h₀ L s.heap news) (hm : (a, listOf us.toArray n) ∈ news) (hx : us[i]? = some x) (hfit : (i : Int) < 2 ^ 63) (h : Q x s)
    (hs : subscripted slice false (.ref a) (.int (i : Int) u) = operate [.ref a, .int (i : Int) u] (getItem (.ref a) (.int (i : Int) u)) := by with_unfolding_all rfl) (hg : ∀ r, letTemporaryGo value (.ref a) r = pure () := by intro _; with_unfolding_all rfl) :
    wpAny (model prog w) A (subscriptTail value slice (.ref a) (.int (i : Int) u)) Q E s :=
  kim_list (l := us) N hm rfl rfl (Int.natCast_nonneg i) hfit (by rw [Int.toNat_natCast]; exact hx) h hs hg
theorem tup_at {value slice : Expr} {a : Addr} {news : Led} {us : List Value} {x : Value} {n i : Nat} {u : Tok} {Q : Value → Shared → Prop} (N : News h₀ L s.heap news) (hm : (a, tupO us n) ∈ news) (hx : us[i]? = some x) (hfit : (i : Int) < 2 ^ 63) (h : Q x s)
    (hs : subscripted slice false (.ref a) (.int (i : Int) u) = operate [.ref a, .int (i : Int) u] (getItem (.ref a) (.int (i : Int) u)) := by with_unfolding_all rfl) (hg : ∀ r, letTemporaryGo value (.ref a) r = pure () := by intro _; with_unfolding_all rfl) :
    wpAny (model prog w) A (subscriptTail value slice (.ref a) (.int (i : Int) u)) Q E s :=
  kim_tup (l := us) (j := i) N hm rfl rfl (by omega) hfit (by
    have hi := (List.getElem?_eq_some_iff.mp hx).1
    unfold seqIndex?
    simp
    omega) hx h hs hg
theorem tup_last {value slice : Expr} {a : Addr} {news : Led} {ws : List Value} {x : Value} {n k : Nat} {u : Tok} {Q : Value → Shared → Prop} (N : News h₀ L s.heap news) (hm : (a, tupO (ws ++ [x]) n) ∈ news) (e : (ws ++ [x]).length = k) (hfit : (k : Int) < 2 ^ 63) (h : Q x s)
    (hs : subscripted slice false (.ref a) (.int (-1) u) = operate [.ref a, .int (-1) u] (getItem (.ref a) (.int (-1) u)) := by with_unfolding_all rfl) (hg : ∀ r, letTemporaryGo value (.ref a) r = pure () := by intro _; with_unfolding_all rfl) :
    wpAny (model prog w) A (subscriptTail value slice (.ref a) (.int (-1) u)) Q E s :=
  kim_tup (l := ws ++ [x]) (k := -1) (j := ws.length) N hm rfl rfl (by decide) (by decide) (by
    rw [List.length_append, List.length_singleton]
    unfold seqIndex?
    simp
    omega) (by simp) h hs hg
end
end
section
structure Sep (ps : List (Int × Int)) : Prop where
  pos : ∀ p ∈ ps, 1 ≤ p.1 ∧ p.1 ≤ p.2
  pw : ps.Pairwise fun p q => p.2 + 1 < q.1

theorem asc_wp {cmp : Nat → Nat → (Bool → Shared → Prop) → Shared → Prop} {p : Array Nat} {N : Nat} {Q : Nat → Shared → Prop} {s : Shared} (H : ∀ n, 1 ≤ n → n < N → ∀ C : Bool → Shared → Prop, C false s → cmp (p.getD n 0) (p.getD (n - 1) 0) C s) (hQ : Q N s) :
    ∀ f n, 1 ≤ n → n + f = N → (kas_asc p f n).kasWp cmp Q s
  | 0, n, _, h => by
    have : n = N := by omega
    subst this
    exact hQ
  | f + 1, n, h1, h => by
    refine H n h1 (by omega) _ ?_
    show (if false = true then KasT.ret n else kas_asc p f (n + 1)).kasWp cmp Q s
    rw [if_neg (by simp)]
    exact asc_wp H hQ f (n + 1) (by omega) (by omega)
theorem sort_wp {cmp : Nat → Nat → (Bool → Shared → Prop) → Shared → Prop} {N : Nat} {Q : Array Nat → Shared → Prop} {s : Shared} (hN : 1 ≤ N) (H : ∀ n, n + 1 < N → ∀ C : Bool → Shared → Prop, C false s → cmp (n + 1) n C s) (hQ : Q (List.range N).toArray s) :
    (kas_sort N).kasWp cmp Q s := by
  unfold kas_sort
  rw [KasT.kasWp_bind]
  unfold kas_count
  rw [KasT.kasWp_bind]
  have g : ∀ n, n < N → (List.range N).toArray.getD n 0 = n := fun n hn => by simp [hn]
  refine asc_wp (N := N) (fun n h1 h2 C hC => ?_) ?_ (N - 1) 1 (Nat.le_refl _) (by omega)
  · rw [g n h2, g (n - 1) (by omega)]
    have := H (n - 1) (by omega) C hC
    rwa [Nat.sub_add_cancel h1] at this
  · rw [if_pos (by simp)]
    show (if N < N then _ else KasT.ret (List.range N).toArray).kasWp cmp Q s
    rw [if_neg (Nat.lt_irrefl _)]
    exact hQ
theorem range_getD (vs : List Value) : (List.range vs.length).map (fun i => vs.getD i Value.none) = vs := by
  apply List.ext_getElem?
  intro i
  rw [List.getElem?_map]
  by_cases h : i < vs.length
  · simp [h]
  · simp [h]

section
variable {prog : Program} {w : World} {A : Around} {E : Value → Shared → Prop} {s : Shared} {h₀ : Heap} {L : Addr} {m : Str → Option Value}
theorem pairs_tups {h : Heap} {T : Led} (N : News h₀ L h T) : ∀ {vs : List Value} {ps : List (Int × Int)}, DatAll T vs (pairsD ps) → ∃ fs, KatTups h vs fs ∧ fs.length = ps.length ∧ ∀ v ∈ fs, ∃ i t, v = Value.int i t
  | _, [], h => by cases h; exact ⟨[], .nil, rfl, fun _ h => nomatch h⟩
  | _, p :: ps, h => by
    cases h with
    | cons h r =>
      obtain ⟨a, t1, t2, n, rfl, hm⟩ := dat_pair h
      obtain ⟨fs, k, hl, hv⟩ := pairs_tups N r
      refine ⟨.int p.1 t1 :: fs, KatTups.cons (N.get hm) rfl rfl rfl k, by simp [hl], fun v hv' => ?_⟩
      rcases List.mem_cons.mp hv' with rfl | hv'
      · exact ⟨_, _, rfl⟩
      · exact hv v hv'

theorem sort_pairs {D : Addr} {vs : List Value} {n : Nat} {T : Led} {ps : List (Int × Int)} {Q : Value → Shared → Prop} (F : Fr h₀ L s.heap m) (N : News h₀ L s.heap ((D, listOf vs.toArray n) :: T)) (hoff : ∀ p ∈ T, p.1 ≠ D)
    (hD : DatAll T vs (pairsD ps)) (hS : Sep ps) (h64 : ps.length < 64) (k : ∀ h' c, Fr h₀ L h' m → News h₀ L h' ((D, listOf vs.toArray c) :: T) → Q .none { s with heap := h' }) :
    wpAny (model prog w) A (call (.builtin "list.sort") [.ref D]) Q E s := by
  have hl : vs.length = ps.length := by rw [hD.length, List.length_map]
  by_cases h2 : 2 ≤ vs.length
  · refine kat_lsort F N (.head hoff) (by simp) h2 (by omega) fun e1 h' F' N' => ?_
    have NT : News h₀ L h' T := fun p hp => N' p (.tail _ hp)
    obtain ⟨fs, ht, hfl, hfi⟩ := pairs_tups NT hD
    refine kat_kind (T := .type "int") ht (by omega) (fun v hv => ?_) (by decide +kernel) ?_
    · obtain ⟨i, t, rfl⟩ := hfi v hv
      exact Looks.of_pure rfl
    · refine sort_wp (by omega) (fun i hi C hC => ?_) ?_
      · unfold kas_ask
        obtain ⟨v1, e1', d1⟩ := hD.get (k := i + 1) (by rw [List.length_map]; omega)
        obtain ⟨v0, e0', d0⟩ := hD.get (k := i) (by rw [List.length_map]; omega)
        rw [List.getElem_map] at d1 d0
        obtain ⟨a1, t1, u1, n1, rfl, m1⟩ := dat_pair d1
        obtain ⟨a0, t0, u0, n0, rfl, m0⟩ := dat_pair d0
        have g1 : vs.getD (i + 1) Value.none = .ref a1 := by rw [List.getD_eq_getElem?_getD, e1', Option.getD_some]
        have g0 : vs.getD i Value.none = .ref a0 := by rw [List.getD_eq_getElem?_getD, e0', Option.getD_some]
        rw [g1, g0]
        have hlt := List.pairwise_iff_getElem.mp hS.pw i (i + 1) (by omega) (by omega) (Nat.lt_succ_self _)
        have hp0 := hS.pos ps[i] (List.getElem_mem _)
        refine kat_lt (NT.get m1) rfl (NT.get m0) rfl ?_
        refine kat_cons (wpAny_eqBool_int ?_)
        have e : ((ps[i + 1]).1 == (ps[i]).1) = false := by rw [beq_eq_false_iff_ne]; omega
        rw [e]
        refine kat_no ?_
        refine oneLt_int ?_
        have e : decide ((ps[i + 1]).1 < (ps[i]).1) = false := by rw [decide_eq_false_iff_not]; omega
        rw [e]
        exact hC
      · refine KasFin.intro F' N' (.head hoff) fun h3 c F3 N3 => ?_
        rw [show ((List.range vs.length).toArray.toList.map fun i => vs.getD i Value.none) = vs from range_getD vs] at N3
        exact k h3 c F3 N3
  · have nz := N (D, listOf vs.toArray n) (.head _)
    have NT : News h₀ L s.heap T := fun p hp => N p (.tail _ hp)
    refine wpAny_call_entry slot_list_sort ⟨_, nz.1, rfl⟩ entry_list_sort ?body (args_list_sort _)
    rw [list_sort_plain]
    have ho : s.heap.get? D = some (seqObj "list" vs.toArray n) := nz.1
    have ha : D < s.heap.objs.size := Heap.lt_size ho
    have s1 := Heap.SameBut.update s.heap D (Obj.mapSeq fun _ => (#[] : Array Value))
    obtain ⟨e1, ho1⟩ : ∃ e1, (s.heap.update D (Obj.mapSeq fun _ => (#[] : Array Value))).get? D = some (seqObj "list" #[] e1) := ⟨_, get?_update_seq ho fun _ => #[]⟩
    have F3 : Fr h₀ L (((s.heap.update D (Obj.mapSeq fun _ => (#[] : Array Value))).push (seqObj "tuple" vs.toArray 0)).push (seqObj "list" #[] 0)) m := ((kas_fr F s1 nz.2.1 nz.2.2).push _).push _
    have N2 : News h₀ L (((s.heap.update D (Obj.mapSeq fun _ => (#[] : Array Value))).push (seqObj "tuple" vs.toArray 0)).push (seqObj "list" #[] 0)) T :=
      (kas_news NT s1 hoff).grown fun b x e => Heap.get?_push_of_some _ (Heap.get?_push_of_some _ e)
    have ho6 : (((s.heap.update D (Obj.mapSeq fun _ => (#[] : Array Value))).push (seqObj "tuple" vs.toArray 0)).push (seqObj "list" #[] 0)).get? D = some (seqObj "list" #[] e1) := Heap.get?_push_of_some _ (Heap.get?_push_of_some _ ho1)
    refine wpAny_bind (listItems_at ho rfl ?_)
    refine wpAny_bind (listUpdate_at ho rfl ?_ (by rw [List.size_toArray, sizeLine_eq]; omega) (Nat.zero_le _))
    refine wpAny_bind (seqEpoch_at ho1 rfl ?_)
    refine wpAny_bind (wpAny_newTuple ?_ (by show vs.length ≤ _; rw [sizeLine_eq]; omega))
    refine wpAny_bind (wpAny_newList ?_ (Nat.zero_le _))
    refine wpAny_holding ?_
    have hs2 : vs.toArray.size < 2 := by rw [List.size_toArray]; omega
    dsimp only
    rw [if_pos hs2, if_pos hs2]
    refine wpAny_bind (wpAny_pure ?_)
    rw [StateT.run_pure]
    refine wpAny_bind (wpAny_pure ?_)
    dsimp only
    have hout : (arrOf (SortSt.mk' general' (vs.toArray.zip vs.toArray) #[] 7 none)).map (·.2) = vs.toArray := by
      show (vs.toArray.zip vs.toArray).map (·.2) = vs.toArray
      apply Array.ext <;> simp
    rw [hout]
    refine wpAny_bind (seqEpoch_at ho6 rfl ?_)
    have s2 := Heap.SameBut.update (((s.heap.update D (Obj.mapSeq fun _ => (#[] : Array Value))).push (seqObj "tuple" vs.toArray 0)).push (seqObj "list" #[] 0)) D (Obj.mapSeq fun _ => vs.toArray)
    obtain ⟨c2, hc2⟩ : ∃ c2, ((((s.heap.update D (Obj.mapSeq fun _ => (#[] : Array Value))).push (seqObj "tuple" vs.toArray 0)).push (seqObj "list" #[] 0)).update D (Obj.mapSeq fun _ => vs.toArray)).get? D = some (seqObj "list" vs.toArray c2) := ⟨_, get?_update_seq ho6 fun _ => vs.toArray⟩
    refine wpAny_bind (listUpdate_at ho6 rfl ?_ (Nat.zero_le _) (by rw [List.size_toArray, sizeLine_eq]; omega))
    skip
    simp only [bne_self_eq_false, Bool.false_eq_true, if_false]
    refine wpAny_pure ⟨_, rfl, k _ c2 (kas_fr F3 s2 nz.2.1 nz.2.2) fun p hp => ?_⟩
    rcases List.mem_cons.mp hp with rfl | hp
    · exact ⟨hc2, nz.2⟩
    · exact kas_news N2 s2 hoff p hp
end
theorem pairs_last {T : Led} {us : List Value} {b : Value} {ps : List (Int × Int)} {i : Nat} {q : Int × Int} (hD : DatAll T (us ++ [b]) (pairsD (ps.take i))) (hS : Sep ps) (hq : ps[i]? = some q) (hl : (us ++ [b]).length = i) :
    ∃ b1 lo hi t1 t2 n, b = .ref b1 ∧ (b1, tupO [.int lo t1, .int hi t2] n) ∈ T ∧ hi + 1 < q.1 := by
  rw [List.length_append, List.length_singleton] at hl
  obtain ⟨hi, rfl⟩ := List.getElem?_eq_some_iff.mp hq
  have hlt : us.length < (pairsD (ps.take i)).length := by rw [List.length_map, List.length_take]; omega
  obtain ⟨v, e, d⟩ := hD.get (k := us.length) hlt
  rw [List.getElem?_append_right (Nat.le_refl _), Nat.sub_self] at e
  cases e
  rw [List.getElem_map, List.getElem_take] at d
  obtain ⟨b1, t1, t2, n, rfl, hm⟩ := dat_pair d
  have := List.pairwise_iff_getElem.mp hS.pw us.length i (by omega) hi (by omega)
  exact ⟨b1, _, _, t1, t2, n, rfl, hm, this⟩
end
section
section
variable {prog : Program} {w : World} {A : Around} {E : Value → Shared → Prop} {s : Shared} {h₀ : Heap} {L : Addr} {m : Str → Option Value}
theorem ints_of {T : Led} : ∀ (n : Nat) (a : Int) (l : List Value), l.length = n → (∀ (j : Nat) v, l[j]? = some v → ∃ t, v = Value.int (a + (j : Int)) t) → DatAll T l ((rangeKs a n).map Dat.int)
  | 0, _, l, hl, _ => by
    rw [List.length_eq_zero_iff] at hl
    subst hl
    exact .nil
  | n + 1, a, v :: l, hl, hx => by
    obtain ⟨t, rfl⟩ := hx 0 v rfl
    have e : (rangeKs a (n + 1)).map Dat.int = Dat.int (a + ((0 : Nat) : Int)) :: (rangeKs (a + 1) n).map Dat.int := by
      unfold rangeKs
      rw [List.range_succ_eq_map]
      simp only [List.map_cons, List.map_map]
      congr 1
      apply List.map_congr_left
      intro i _
      simp
      omega
    rw [e]
    refine .cons (.int _ _) (ints_of n (a + 1) l (by simpa using hl) fun j v hj => ?_)
    obtain ⟨t, rfl⟩ := hx (j + 1) v hj
    exact ⟨t, by congr 1; omega⟩
theorem map_pp (xs : Array Value) (n : Nat) : ∃ c, Obj.mapSeq (·.pop) (Obj.mapSeq (·.push Value.none) ({ cls := .type "list", data := .seq xs n } : Obj)) = { cls := .type "list", data := .seq xs c } := by
  simp [Obj.mapSeq]
/-- the walk's turns, k of them behind others -/
theorem walks_shift {I : Addr} {fp wr : List Addr} {G : Array GenState → Array GenState → Prop} {n : Nat} {P : Nat → Value → Prop} {St : Nat → Shared → Prop} (W : WalksS prog w A I fp wr G n P St) (P₀ : Nat → Value → Prop) (k : Nat) :
    WalksS prog w A I fp wr G (k + n) (fun i v => if i < k then P₀ i v else P (i - k) v) (fun i s => k ≤ i ∧ St (i - k) s) where
  sub := W.sub
  grefl := W.grefl
  gtrans := W.gtrans
  frame := fun i s h' tk st ht hb => ⟨st.1, W.frame _ s h' tk st.2 ht hb⟩
  item := fun i s Q E hi st hQ => W.item (i - k) s Q E (by have := st.1; omega) st.2 fun v s' hP hs hm => hQ v s' (by rw [if_neg (by have := st.1; omega)]; exact hP) ⟨by have := st.1; omega, by have h := st.1; rw [show i + 1 - k = i - k + 1 by omega]; exact hs⟩ hm
  done := fun s Q E st hQ => W.done s Q E (by have := st.2; rwa [Nat.add_sub_cancel_left] at this) hQ
  self := fun i s Q E st hQ => W.self _ s Q E st.2 hQ

theorem ext_range {D r : Addr} {us : List Value} {c₀ n : Nat} {a b : Int} {t u v : Tok} {T : Led} {Q : Value → Shared → Prop} (hh : A.handled = none) (F : Fr h₀ L s.heap m) (N : News h₀ L s.heap ((D, listOf us.toArray c₀) :: T)) (hoff : ∀ p ∈ T, p.1 ≠ D)
    (hr : IsRange s.heap r a b 1 t u v) (hsmall : Builtin.Range.small a b 1 = true) (hn : Builtin.Range.rangeSize a b 1 = n) (hlen : us.length + n ≤ 1000)
    (k : ∀ h' tk c vs', Fr h₀ L h' m → News h₀ L h' ((D, listOf (us ++ vs').toArray c) :: T) → DatAll T vs' ((rangeKs a n).map Dat.int) → Q .none { s with heap := h', toks := tk }) :
    wpAny (model prog w) A (call (.builtin "list.extend") [.ref D, .ref r]) Q E s := by
  have nz := N (D, listOf us.toArray c₀) (.head _)
  have NT : News h₀ L s.heap T := fun p hp => N p (.tail _ hp)
  have hS : s.heap.get? D = some { cls := .type "list", data := .seq us.toArray c₀ } := nz.1
  have hSr : D ≠ r := fun e => by rw [e, hr] at hS; simp at hS
  have hSlt : D < s.heap.objs.size := Heap.lt_size hS
  have hSI : D ≠ s.heap.objs.size := Nat.ne_of_lt hSlt
  have hSf : D ∉ [s.heap.objs.size] := fun hm => hSI (List.mem_singleton.mp hm)
  refine wpAny_call (codeAny_call_builtin PySem.F.slot_list_extend.plain PySem.F.entry_list_extend (PySem.F.slot_list_extend.check _ _ _ _ _ _ _ _ ⟨_, nz.1, rfl⟩ (PySem.F.args_list_extend_2 _ _) ?_))
  show wpAny _ _ (Builtin.List.listExtendWith (.ref D) (.ref r) .none) _ _ s
  have W := walks_shift (Walks.range (prog := prog) (w := w) (A := A.in1) hh s.heap.objs.size a 1 n).toS (fun i v => us[i]? = some v) us.length
  have fin : ∀ (h : Heap) (c' tk : Nat) (acc : Array Value), (∀ b o, b ≠ D → s.heap.get? b = some o → h.get? b = some o) → h.get? D = some { cls := .type "list", dict := none, data := .seq acc c', slots := #[] } →
      ItemsOf (fun i v => if i < us.length then us[i]? = some v else ∃ t, v = .int (a + ((i - us.length : Nat) : Int) * 1) t) acc (us.length + n) → Q .none { s with heap := h, toks := tk } := by
    intro h c' tk acc hk hD ha
    obtain ⟨acc⟩ := acc
    have hsz : acc.length = us.length + n := by simpa using ha.1
    have hit := ha.2
    have e1 : acc = us ++ acc.drop us.length := by
      apply List.ext_getElem?
      intro i
      by_cases hi : i < us.length
      · rw [List.getElem?_append_left hi]
        have hi2 : i < acc.length := by omega
        have := hit i acc[i] (by simp [hi2])
        dsimp only at this
        rw [if_pos hi] at this
        rw [this, List.getElem?_eq_getElem hi2]
      · rw [List.getElem?_append_right (Nat.le_of_not_lt hi), List.getElem?_drop]
        congr 1
        omega
    have hd : DatAll T (acc.drop us.length) ((rangeKs a n).map Dat.int) := by
      have hl : (acc.drop us.length).length = n := by rw [List.length_drop, hsz]; omega
      have hx : ∀ (j : Nat) v, (acc.drop us.length)[j]? = some v → ∃ t, v = Value.int (a + (j : Int)) t := by
        intro j v hj
        rw [List.getElem?_drop] at hj
        have := hit (us.length + j) v (by simpa using hj)
        dsimp only at this
        rw [if_neg (by omega), Nat.add_sub_cancel_left, Int.mul_one] at this
        exact this
      exact ints_of n a _ hl hx
    have F' : Fr h₀ L h m := ⟨F.ns.at' fun o e => hk L o (Ne.symm nz.2.1) e, fun b o e => hk b o (fun q => by rw [q, nz.2.2] at e; cases e) (F.keep b o e), F.above⟩
    refine k h tk c' (acc.drop us.length) F' (fun p hp => ?_) hd
    rcases List.mem_cons.mp hp with rfl | hp
    · refine ⟨?_, nz.2⟩
      show h.get? D = some (listOf (us ++ acc.drop us.length).toArray c')
      rw [← e1]
      exact hD
    · exact ⟨hk _ _ (hoff p hp) (NT p hp).1, (NT p hp).2⟩
  have key : ∀ (h : Heap) (c₁ tk : Nat), IsRangeIter h s.heap.objs.size (a + ((0 : Nat) : Int) * 1) ((n : Int) - ((0 : Nat) : Int)) 1 → (∀ b o, b ≠ D → s.heap.get? b = some o → h.get? b = some o) →
      h.get? D = some { cls := .type "list", data := .seq us.toArray c₁ } → codeAny (model prog w) A (.builtin "list.extend.loop" ⟨[.ref D, .ref s.heap.objs.size, .none], []⟩) (fun r s' => match r with | .ok (.ret v) => Q v s' | .ok _ => False | .error e => E e s') { s with heap := h, toks := tk } := by
    intro h c₁ tk hit hk hS₁
    refine codeAny_extend_loopS W (by rw [sizeLine_eq]; omega) D hSf .none n us.length _ us.toArray c₁ (by omega) (by omega) ⟨Nat.le_refl _, by rw [Nat.sub_self]; exact hit⟩ hS₁ ⟨by simp, fun j v hj => ?_⟩ fun s' acc' c' hm hS' hacc => ?_
    · have hj' : us[j]? = some v := by simpa using hj
      dsimp only
      rw [if_pos (List.getElem?_eq_some_iff.mp hj').1]
      exact hj'
    rw [Moved.eq_with hm]
    refine fin s'.heap c' s'.toks acc' (fun b o hb e => hm.heap b o (fun hmem => ?_) (hk b o hb e)) hS' hacc
    rcases List.mem_cons.mp hmem with e' | hmem
    · exact hb e'
    · exact absurd (Heap.lt_size e) (by rw [List.mem_singleton.mp hmem]; exact Nat.lt_irrefl _)
  unfold Builtin.List.listExtendWith
  refine wpAny_bind (wpAny_typeOf (T := "range") ⟨_, hr, rfl⟩ ?_)
  have h1 : Builtin.List.listSameRef (.ref D) (.ref r) = false := by simp [Builtin.List.listSameRef, hSr]
  have h2 : (Value.type "range" == Value.type "list") = false := by decide
  have h3 : (Value.type "range" == Value.type "tuple") = false := by decide
  simp only [h1, h2, h3, Bool.or_false, Bool.false_eq_true, if_false]
  refine wpAny_bind (wpAny_pyIter_range hr hsmall ?_)
  refine wpAny_bind (wpAny_holding (wpAny_hint_range (n := n) (Heap.get?_push_of_some _ hr) hn (by omega) ?_))
  have hit₁ : IsRangeIter (s.heap.push { cls := .type "range_iterator", data := .fields #[rawInt a, rawInt (Builtin.Range.rangeSize a b 1), rawInt 1] }) s.heap.objs.size (a + ((0 : Nat) : Int) * 1) ((n : Int) - ((0 : Nat) : Int)) 1 := by
    show IsRangeIter _ _ _ _ _; rw [hn]; simpa using Heap.get?_push_size _ rfl
  have hS₁ := Heap.get?_push_of_some { cls := .type "range_iterator", data := .fields #[rawInt a, rawInt (Builtin.Range.rangeSize a b 1), rawInt 1] } hS
  refine wpAny_ite_split (fun _ => ?_) (fun _ => wpAny_pure ⟨plainId_quiet PySem.F.plain_extend_loop _, key _ c₀ _ hit₁ (fun b o _ e => Heap.get?_push_of_some _ e) hS₁⟩)
  refine wpAny_bind (wpAny_rule ?_)
  refine wpAny_bind ?_
  show wpAny _ _ (updateSeq D (·.push .none) >>= fun _ => updateSeq D (·.pop)) _ _ _
  refine wpAny_bind (wpAny_updateSeq hS₁ rfl ?_ (by rw [List.size_toArray, sizeLine_eq]; omega) (by rw [Array.size_push, List.size_toArray, sizeLine_eq]; omega))
  have hS₂ := Heap.get?_update_self (Obj.mapSeq (·.push Value.none)) hS₁ rfl
  refine wpAny_updateSeq hS₂ rfl ?_ (by rw [Array.size_push, List.size_toArray, sizeLine_eq]; omega) (by rw [Array.size_pop, Array.size_push, List.size_toArray, sizeLine_eq]; omega)
  have hS₃ := Heap.get?_update_self (Obj.mapSeq (·.pop)) hS₂ rfl
  obtain ⟨c4, hS₄⟩ : ∃ c, (((s.heap.push { cls := .type "range_iterator", data := .fields #[rawInt a, rawInt (Builtin.Range.rangeSize a b 1), rawInt 1] }).update D (Obj.mapSeq (·.push Value.none))).update D (Obj.mapSeq (·.pop))).get? D = some { cls := .type "list", data := .seq us.toArray c } := by
    obtain ⟨c, hc⟩ := map_pp us.toArray c₀
    exact ⟨c, hS₃.trans (congrArg some hc)⟩
  refine wpAny_pure ⟨plainId_quiet PySem.F.plain_extend_loop _, key _ _ _ ?_ (fun b o hb e => ?_) hS₄⟩
  · exact (Heap.get?_update_other _ _ hSI).trans ((Heap.get?_update_other _ _ hSI).trans hit₁)
  · exact (Heap.get?_update_other _ _ (Ne.symm hb)).trans ((Heap.get?_update_other _ _ (Ne.symm hb)).trans (Heap.get?_push_of_some _ e))
end
end
section
def sizeZ (ps : List (Int × Int)) : Int := (ps.map fun p => p.2 - p.1 + 1).sum
def numsOf (ps : List (Int × Int)) : List Int := ps.flatMap fun p => rangeKs p.1 (p.2 + 1 - p.1).toNat
theorem numsOf_app (a b : List (Int × Int)) : numsOf (a ++ b) = numsOf a ++ numsOf b := by simp [numsOf]
theorem numsOf_one (p : Int × Int) : numsOf [p] = rangeKs p.1 (p.2 + 1 - p.1).toNat := by simp [numsOf]
theorem numsOf_take (ps : List (Int × Int)) (i : Nat) : (numsOf (ps.take i)).length ≤ (numsOf ps).length := by
  have e : numsOf ps = numsOf (ps.take i) ++ numsOf (ps.drop i) := by rw [← numsOf_app, List.take_append_drop]
  rw [e, List.length_append]
  omega
theorem sizeZ_nums (ps : List (Int × Int)) (h : ∀ p ∈ ps, 1 ≤ p.1 ∧ p.1 ≤ p.2) : sizeZ ps = ((numsOf ps).length : Int) := by
  induction ps with
  | nil => rfl
  | cons p ps ih =>
    have hp := h p (.head _)
    have ih := ih fun q hq => h q (.tail _ hq)
    have e : numsOf (p :: ps) = numsOf [p] ++ numsOf ps := numsOf_app [p] ps
    rw [e, numsOf_one, List.length_append, rangeKs_length]
    unfold sizeZ at ih ⊢
    rw [List.map_cons, List.sum_cons, ih]
    omega
theorem ints_any {T T' : Led} : ∀ {vs : List Value} {ns : List Int}, DatAll T vs (ns.map Dat.int) → DatAll T' vs (ns.map Dat.int)
  | _, [], h => by cases h; exact .nil
  | _, n :: ns, h => by
    cases h with
    | cons h r => cases h; exact .cons (.int _ _) (ints_any r)
theorem swap2 {a b : Addr × Obj} {l : Led} : ∀ p ∈ b :: a :: l, p ∈ a :: b :: l := fun p hp => by
  rcases List.mem_cons.mp hp with rfl | hp
  · exact .tail _ (.head _)
  · rcases List.mem_cons.mp hp with rfl | hp
    · exact .head _
    · exact .tail _ (.tail _ hp)
theorem sep_last {ps : List (Int × Int)} {q : Int × Int} (hS : Sep (ps ++ [q])) : ∀ p ∈ ps ++ [q], p.2 ≤ q.2 := fun p hp => by
  rcases List.mem_append.mp hp with h | h
  · have h1 := (List.pairwise_append.mp hS.pw).2.2 p h q (List.mem_singleton.mpr rfl)
    have h2 := (hS.pos q (by simp)).2
    omega
  · rw [List.mem_singleton.mp h]; exact Int.le_refl _
theorem dat_snoc {T : Led} {vs : List Value} {ps : List (Int × Int)} {q : Int × Int} (h : DatAll T vs (pairsD (ps ++ [q]))) : ∃ us b t1 t2 n, vs = us ++ [Value.ref b] ∧ DatAll T us (pairsD ps) ∧ (b, tupO [.int q.1 t1, .int q.2 t2] n) ∈ T := by
  have hl := h.length
  rw [List.length_map, List.length_append, List.length_singleton] at hl
  rcases List.eq_nil_or_concat vs with rfl | ⟨us, b, rfl⟩
  · simp at hl
  · rw [List.concat_eq_append] at *
    obtain ⟨es, d, e, h1, h2⟩ := h.snoc
    rw [pairsD, List.map_append, List.map_singleton] at e
    obtain ⟨e1, e2⟩ := List.append_inj' e rfl
    cases e2
    subst e1
    obtain ⟨a, t1, t2, n, rfl, hm⟩ := dat_pair h2
    exact ⟨us, a, t1, t2, n, rfl, h1, hm⟩
end
section
section
variable {prog : Program} {w : World} {A : Around} {E : Value → Shared → Prop} {s : Shared} {h₀ : Heap} {L D : Addr} {m : Str → Option Value} {news news' : Led}
theorem set_last {us : List Value} {x v : Value} {n : Nat} {t : Tok} {Q : Unit → Shared → Prop} (F : Fr h₀ L s.heap m) (N : News h₀ L s.heap news) (U : Upd D (listOf (us ++ [x]).toArray n) (listOf (us ++ [v]).toArray n) news news')
    (h : ∀ h', Fr h₀ L h' m → News h₀ L h' news' → Q () { s with heap := h' }) : wpAny (model prog w) A (setItem (.ref D) (.int (-1) t) v) Q E s := by
  obtain ⟨pre, post, rfl, rfl, a, b⟩ := U.split
  have z := N (D, listOf (us ++ [x]).toArray n) (List.mem_append.mpr (.inr (.head _)))
  have hsz : (us ++ [x]).toArray.size = us.length + 1 := by simp
  refine ki_setBack z.1 (by decide) (by rw [hsz]; omega) (by decide) (h _ (F.change (Heap.SameBut.update ..) z.2.1 z.2.2) (ki_turn _ N a b ?_ ?_))
  · show (us ++ [x]).toArray.setIfInBounds (-1 + ((us ++ [x]).toArray.size : Int)).toNat v = (us ++ [v]).toArray
    rw [hsz, show (-1 + ((us.length + 1 : Nat) : Int)).toNat = us.length by omega]
    apply Array.toList_inj.mp
    simp
  · simp
end
theorem rangeKs_succ (a : Int) (n : Nat) : rangeKs a (n + 1) = rangeKs a n ++ [a + (n : Int)] := by
  unfold rangeKs
  rw [List.range_succ, List.map_append]
  rfl
theorem nums_new {ps : List (Int × Int)} {x : Int} : numsOf (ps ++ [(x, x)]) = numsOf ps ++ [x] := by
  rw [numsOf_app, numsOf_one]
  congr 1
  show rangeKs x (x + 1 - x).toNat = [x]
  rw [show (x + 1 - x).toNat = 1 by omega]
  simp [rangeKs]
theorem nums_grow {ps : List (Int × Int)} {a b : Int} (h : a ≤ b) : numsOf (ps ++ [(a, b + 1)]) = numsOf (ps ++ [(a, b)]) ++ [b + 1] := by
  rw [numsOf_app, numsOf_app, numsOf_one, numsOf_one, List.append_assoc]
  congr 1
  show rangeKs a (b + 1 + 1 - a).toNat = rangeKs a (b + 1 - a).toNat ++ [b + 1]
  rw [show (b + 1 + 1 - a).toNat = (b + 1 - a).toNat + 1 by omega, rangeKs_succ]
  congr 2
  omega
theorem nums_mem_last {ps : List (Int × Int)} {q : Int × Int} (h : q.1 ≤ q.2) : q.2 ∈ numsOf (ps ++ [q]) := by
  rw [numsOf_app, numsOf_one]
  refine List.mem_append_right _ ?_
  unfold rangeKs
  exact List.mem_map.mpr ⟨(q.2 - q.1).toNat, List.mem_range.mpr (by omega), by omega⟩
theorem sep_new {ps : List (Int × Int)} {q : Int × Int} {x : Int} (hS : Sep (ps ++ [q])) (h : q.2 + 1 < x) : Sep (ps ++ [q] ++ [(x, x)]) := by
  have hq := hS.pos q (by simp)
  refine ⟨fun p hp => ?_, ?_⟩
  · rcases List.mem_append.mp hp with hp | hp
    · exact hS.pos p hp
    · rw [List.mem_singleton.mp hp]; exact ⟨by omega, Int.le_refl _⟩
  · refine List.pairwise_append.mpr ⟨hS.pw, List.pairwise_singleton _ _, fun a ha b hb => ?_⟩
    rw [List.mem_singleton.mp hb]
    have := sep_last hS a ha
    omega
theorem sep_grow {ps : List (Int × Int)} {a b : Int} (hS : Sep (ps ++ [(a, b)])) : Sep (ps ++ [(a, b + 1)]) := by
  have hq := hS.pos (a, b) (by simp)
  refine ⟨fun p hp => ?_, ?_⟩
  · rcases List.mem_append.mp hp with hp | hp
    · exact hS.pos p (List.mem_append_left _ hp)
    · rw [List.mem_singleton.mp hp]; exact ⟨hq.1, by have := hq.2; show a ≤ b + 1; omega⟩
  · have h := List.pairwise_append.mp hS.pw
    refine List.pairwise_append.mpr ⟨h.1, List.pairwise_singleton _ _, fun p hp c hc => ?_⟩
    rw [List.mem_singleton.mp hc]
    exact h.2.2 p hp (a, b) (by simp)
theorem mem_take_lt {ns : List Int} (hp : ns.Pairwise (· < ·)) {i : Nat} {x y : Int} (hx : ns[i]? = some x) (hy : y ∈ ns.take i) : y < x := by
  obtain ⟨j, hj⟩ := List.mem_iff_getElem?.mp hy
  rw [List.getElem?_take] at hj
  split at hj
  · rename_i hji
    obtain ⟨h1, e1⟩ := List.getElem?_eq_some_iff.mp hj
    obtain ⟨h2, e2⟩ := List.getElem?_eq_some_iff.mp hx
    have := List.pairwise_iff_getElem.mp hp j i h1 h2 hji
    rw [e1, e2] at this
    exact this
  · cases hj
end
section
theorem unstop {P : Prop} (h : P) : Stopped P := h
section
variable {prog : Program} {w : World} {A : Around} {E : Value → Shared → Prop} {s : Shared} {h₀ : Heap} {L : Addr} {m : Str → Option Value} {env : Env}
theorem cend_imp {s₁ s₂ : Shared} {I C D : Addr} {oI oC oD : Obj} {S : Led → Prop} {rest rest' : Value → Led → Prop} {y y' : Value} (h : LCg.CompEnd h₀ L m s₁ I oI C oC D oD S rest y s₂) (k : ∀ n, rest y n → rest' y' n) : LCg.CompEnd h₀ L m s₁ I oI C oC D oD S rest' y' s₂ := by
  obtain ⟨h', tk, n, e, F, N, o, hS, r⟩ := h
  exact ⟨h', tk, n, e, F, N, o, hS, k n r⟩
theorem comp_inv {elt : Expr} {x : Str} {scope : Scope} {cl : List (Str × Addr)} {S : Led → Prop} {P : Nat → Value → Prop} {Fin : List Value → Led → Prop} {n : Nat} (Inv : Nat → List Value → Led → Prop)
    (step : ∀ i ys T, i < n → Inv i ys T → ∀ v I oI C oC D m₂ h tk (E' : Value → Shared → Prop), P i v → LCg.NsObj oC m₂ → m₂ x = some v → Fr h₀ L h m → News h₀ L h ((I, oI) :: (C, oC) :: (D, LCg.lst ys) :: T) → LCg.Off3 I C D T → ((@Ne Nat I C) ∧ (@Ne Nat I D) ∧ (@Ne Nat C D)) →
      wpAny (model prog w) A (eval elt (compEnvC scope cl C env)) (LCg.CompEnd h₀ L m { s with heap := h, toks := tk } I oI C oC D (LCg.lst ys) S (fun y T' => Inv (i + 1) (ys ++ [y]) T')) E' { s with heap := h, toks := tk })
    (fin : ∀ ys T, Inv n ys T → Fin ys T) : ∀ k i ys T, i + k = n → Inv i ys T → LCg.CompRest prog w A h₀ L m env elt x scope cl s S P Fin k i ys T
  | 0, i, ys, T, h, hi => LCg.CompRest.zero (fin ys T ((show i = n from h) ▸ hi))
  | k + 1, i, ys, T, h, hi => by
    refine LCg.CompRest.succ fun v I oI C oC D m₂ h tk E' a b c d e f g => ?_
    exact wpAny_mono (step i ys T (by omega) hi v I oI C oC D m₂ h tk E' a b c d e f g) (fun y s' h' => cend_imp h' fun T' r => comp_inv Inv step fin k (i + 1) (ys ++ [y]) T' (by omega) r) fun _ _ e => e
theorem comp_invT {ct elt : Expr} {x : Str} {scope : Scope} {cl : List (Str × Addr)} {S : Led → Prop} {P : Nat → Value → Prop} {Fin : List Value → Led → Prop} {n : Nat} (Inv : Nat → List Value → Led → Prop)
    (step : ∀ i ys T, i < n → Inv i ys T → ∀ v I oI C oC D m₂ h tk (E' : Value → Shared → Prop), P i v → LCg.NsObj oC m₂ → m₂ x = some v → Fr h₀ L h m → News h₀ L h ((I, oI) :: (C, oC) :: (D, LCg.lst ys) :: T) → LCg.Off3 I C D T → ((@Ne Nat I C) ∧ (@Ne Nat I D) ∧ (@Ne Nat C D)) →
      wpAny (model prog w) A (isTrue ct (compEnvC scope cl C env) (eval ct (compEnvC scope cl C env))) (fun ok s' => if ok = true then
        wpAny (model prog w) A (eval elt (compEnvC scope cl C env)) (LCg.CompEnd h₀ L m { s with heap := h, toks := tk } I oI C oC D (LCg.lst ys) S (fun y T' => Inv (i + 1) (ys ++ [y]) T')) E' s'
        else LCg.CompEnd h₀ L m { s with heap := h, toks := tk } I oI C oC D (LCg.lst ys) S (fun _ T' => Inv (i + 1) ys T') Value.none s') E' { s with heap := h, toks := tk })
    (fin : ∀ ys T, Inv n ys T → Fin ys T) : ∀ k i ys T, i + k = n → Inv i ys T → LCt.CompRestT prog w A h₀ L m env ct elt x scope cl s S P Fin k i ys T
  | 0, i, ys, T, h, hi => LCt.CompRestT.zero (fin ys T ((show i = n from h) ▸ hi))
  | k + 1, i, ys, T, h, hi => by
    refine LCt.CompRestT.succ fun v I oI C oC D m₂ h tk E' a b c d e f g => ?_
    refine wpAny_mono (step i ys T (by omega) hi v I oI C oC D m₂ h tk E' a b c d e f g) (fun ok s' h' => ?_) fun _ _ e => e
    split
    · rename_i ho
      rw [if_pos ho] at h'
      exact wpAny_mono h' (fun y s' h' => cend_imp h' fun T' r => comp_invT Inv step fin k (i + 1) (ys ++ [y]) T' (by omega) r) fun _ _ e => e
    · rename_i ho
      rw [if_neg ho] at h'
      exact cend_imp h' fun T' r => comp_invT Inv step fin k (i + 1) ys T' (by omega) r
theorem off3_grow {I C D : Addr} {oI oC oD : Obj} {ex T T' al : Led} (o : LCg.Off3 I C D (ex ++ T)) (g : Grow T al T') (a : (I, oI) ∈ al) (b : (C, oC) ∈ al) (c : (D, oD) ∈ al) : LCg.Off3 I C D (ex ++ T') :=
  LCg.Off3.of fun p hp => by
    rcases List.mem_append.mp hp with hp | hp
    · exact o.mem p (List.mem_append_left _ hp)
    · rcases g.2 p hp with hp | hn
      · exact o.mem p (List.mem_append_right _ hp)
      · exact ⟨hn _ a, hn _ b, hn _ c⟩
theorem cend_new {s₁ : Shared} {I C D x : Addr} {oI oC oD o : Obj} {S : Led → Prop} {rest : Value → Led → Prop} {y : Value} {ex T : Led} {h' : Heap} {tk : Nat} (F : Fr h₀ L h' m) (N : News h₀ L h' ((x, o) :: (I, oI) :: (C, oC) :: (D, oD) :: (ex ++ T)))
    (hx : AllLt x ((I, oI) :: (C, oC) :: (D, oD) :: (ex ++ T))) (off : LCg.Off3 I C D (ex ++ T)) (hS : S (ex ++ ((x, o) :: T))) (r : rest y (ex ++ ((x, o) :: T))) : LCg.CompEnd h₀ L m s₁ I oI C oC D oD S rest y { s₁ with heap := h', toks := tk } := by
  have hl := kst_ltOf hx
  refine LCg.CompEnd.intro F N (ex ++ ((x, o) :: T)) (fun p hp => ?_) (LCg.Off3.of fun p hp => ?_) hS r
  · simp only [List.mem_cons, List.mem_append] at hp ⊢
    rcases hp with h | h | h | h | h | h <;> simp [h]
  · rcases List.mem_append.mp hp with hp | hp
    · exact off.mem p (List.mem_append_left _ hp)
    · rcases List.mem_cons.mp hp with rfl | hp
      · exact ⟨Nat.ne_of_gt (hl _ (.head _)), Nat.ne_of_gt (hl _ (.tail _ (.head _))), Nat.ne_of_gt (hl _ (.tail _ (.tail _ (.head _))))⟩
      · exact off.mem p (List.mem_append_right _ hp)
theorem cend_same {s₁ : Shared} {I C D : Addr} {oI oC oD : Obj} {S : Led → Prop} {rest : Value → Led → Prop} {y : Value} {T : Led} {h' : Heap} {tk : Nat} (F : Fr h₀ L h' m) (N : News h₀ L h' ((I, oI) :: (C, oC) :: (D, oD) :: T))
    (off : LCg.Off3 I C D T) (hS : S T) (r : rest y T) : LCg.CompEnd h₀ L m s₁ I oI C oC D oD S rest y { s₁ with heap := h', toks := tk } :=
  LCg.CompEnd.intro F N T (fun p hp => hp) off hS r
theorem Grow.add {ex fz T : Led} {x : Addr} {o : Obj} (g : Grow fz ([] ++ (ex ++ fz)) T) (h : AllLt x (ex ++ T)) : Grow fz ([] ++ (ex ++ fz)) ((x, o) :: T) :=
  g.new fun q hq => Nat.ne_of_gt (kst_ltOf h q ((List.mem_append.mp (show q ∈ ex ++ fz from hq)).elim (fun k => List.mem_append_left _ k) fun k => List.mem_append_right _ (g.1 q k)))
theorem con_ret_new2 {ex fz : Led} {Post : Value → Led → Led → Prop} {Q : Value → Shared → Prop} {s : Shared} {h₀ : Heap} {L : Addr} {m : Str → Option Value}
    (ret : ∀ r mt' T' h' tk', Fr h₀ L h' m → News h₀ L h' (mt' ++ (ex ++ T')) → Grow fz ([] ++ (ex ++ fz)) T' → (∀ p ∈ mt', p.1 ∈ ([] : Led).map (·.1) ∨ ∀ q ∈ [] ++ (ex ++ fz), p.1 ≠ q.1) → Post r mt' T' → Q r { s with heap := h', toks := tk' })
    {r : Value} (T : Led) {D D2 : Addr} {o o2 : Obj} {h' : Heap} {tk' : Nat} {rest : Led} (F : Fr h₀ L h' m) (N : News h₀ L h' ((D2, o2) :: (D, o) :: rest)) (hx2 : AllLt D2 ((D, o) :: rest)) (hx : AllLt D rest) (hs : ∀ p ∈ ex ++ T, p ∈ rest) (g : Grow fz ([] ++ (ex ++ fz)) T)
    (hP : Post r [] ((D2, o2) :: (D, o) :: T)) : Q r { s with heap := h', toks := tk' } := by
  have al : ∀ {x : Addr} {l : Led}, (∀ p ∈ l, p.1 < x) → AllLt x l := fun h => allLt_of h
  have g1 : Grow fz ([] ++ (ex ++ fz)) ((D, o) :: T) := g.add (al fun p hp => kst_ltOf hx p (hs p hp))
  have g2 : Grow fz ([] ++ (ex ++ fz)) ((D2, o2) :: (D, o) :: T) := g1.add (al fun p hp => kst_ltOf hx2 p (by
    rcases List.mem_append.mp hp with hp | hp
    · exact .tail _ (hs p (List.mem_append_left _ hp))
    · rcases List.mem_cons.mp hp with rfl | hp
      · exact .head _
      · exact .tail _ (hs p (List.mem_append_right _ hp))))
  refine con_ret ret [] _ F N rfl (fun p hp => ?_) g2 hP
  rcases List.mem_append.mp (show p ∈ ex ++ ((D2, o2) :: (D, o) :: T) from hp) with hp | hp
  · exact .tail _ (.tail _ (hs p (List.mem_append_left _ hp)))
  · rcases List.mem_cons.mp hp with rfl | hp
    · exact .head _
    · rcases List.mem_cons.mp hp with rfl | hp
      · exact .tail _ (.head _)
      · exact .tail _ (.tail _ (hs p (List.mem_append_right _ hp)))
theorem con_ret_m {d : Addr × Obj} {ex fz : Led} {Post : Value → Led → Led → Prop} {Q : Value → Shared → Prop} {s : Shared} {h₀ : Heap} {L : Addr} {m : Str → Option Value}
    (ret : ∀ r mt' T' h' tk', Fr h₀ L h' m → News h₀ L h' (mt' ++ (ex ++ T')) → Grow fz ([d] ++ (ex ++ fz)) T' → (∀ p ∈ mt', p.1 ∈ [d].map (·.1) ∨ ∀ q ∈ [d] ++ (ex ++ fz), p.1 ≠ q.1) → Post r mt' T' → Q r { s with heap := h', toks := tk' })
    {r : Value} (T : Led) {D : Addr} {o : Obj} {h' : Heap} {tk' : Nat} {rest : Led} (F : Fr h₀ L h' m) (N : News h₀ L h' ((D, o) :: rest)) (hx : AllLt D rest) (hs : ∀ p ∈ d :: (ex ++ T), p ∈ rest) (g : Grow fz ([] ++ ((d :: ex) ++ fz)) T)
    (hP : Post r [d] ((D, o) :: T)) : Q r { s with heap := h', toks := tk' } := by
  have g1 : Grow fz ([] ++ ((d :: ex) ++ fz)) ((D, o) :: T) := g.add (allLt_of fun p hp => kst_ltOf hx p (hs p hp))
  refine con_ret ret [d] _ F N rfl (fun p hp => ?_) g1 hP
  rcases List.mem_cons.mp (sub_mx p hp) with rfl | hp
  · exact .head _
  · exact .tail _ (hs p hp)
theorem con_ret_m2 {d : Addr × Obj} {ex fz : Led} {Post : Value → Led → Led → Prop} {Q : Value → Shared → Prop} {s : Shared} {h₀ : Heap} {L : Addr} {m : Str → Option Value}
    (ret : ∀ r mt' T' h' tk', Fr h₀ L h' m → News h₀ L h' (mt' ++ (ex ++ T')) → Grow fz ([d] ++ (ex ++ fz)) T' → (∀ p ∈ mt', p.1 ∈ [d].map (·.1) ∨ ∀ q ∈ [d] ++ (ex ++ fz), p.1 ≠ q.1) → Post r mt' T' → Q r { s with heap := h', toks := tk' })
    {r : Value} (T : Led) {D D2 : Addr} {o o2 : Obj} {h' : Heap} {tk' : Nat} {rest : Led} (F : Fr h₀ L h' m) (N : News h₀ L h' ((D2, o2) :: (D, o) :: rest)) (hx2 : AllLt D2 ((D, o) :: rest)) (hx : AllLt D rest) (hs : ∀ p ∈ d :: (ex ++ T), p ∈ rest) (g : Grow fz ([] ++ ((d :: ex) ++ fz)) T)
    (hP : Post r [d] ((D2, o2) :: (D, o) :: T)) : Q r { s with heap := h', toks := tk' } := by
  have g1 : Grow fz ([] ++ ((d :: ex) ++ fz)) ((D, o) :: T) := g.add (allLt_of fun p hp => kst_ltOf hx p (hs p hp))
  refine con_ret_m ret ((D, o) :: T) F N hx2 (fun p hp => ?_) g1 hP
  rcases List.mem_cons.mp (sub_mx (m := d) p hp) with rfl | hp
  · exact .head _
  · exact .tail _ (hs p hp)
theorem off1_all {D : Addr} : ∀ {l : Led}, LCg.Off1 D l → ∀ p ∈ l, p.1 ≠ D
  | [], _, _, h => nomatch h
  | _ :: _, x, p, h => by
    rcases List.mem_cons.mp h with rfl | h
    · exact x.1
    · exact off1_all x.2 p h
theorem arr_get {vs : List Value} {i : Nat} {v : Value} (h : vs.toArray[i]? = some v) : vs[i]? = some v := by simpa using h
end
end
section
section
variable {prog : Program} {w : World} {A : Around} {E : Value → Shared → Prop} {s : Shared} {h₀ : Heap} {L l : Addr} {m : Str → Option Value} {news : Led} {value slice : PySem.Expr} {vs : List Value} {c : Nat} {Q : Value → Shared → Prop}
theorem pick_upto {y : Int} (h : 0 ≤ y) : slicePick vs.toArray none (some y) none = (vs.take y.toNat).toArray := by
  have e : sliceBounds none (some y) none vs.toArray.size = (((0 : Nat) : Int), ((min y.toNat vs.toArray.size : Nat) : Int), 1) := by
    simp only [sliceBounds, Option.getD_none, show (1 : Int) > 0 by decide, if_true, if_neg (show ¬ (y < 0) by omega)]
    congr 1
    congr 1
    omega
  rw [kmk_pick_nat _ e]
  show ((vs.drop 0).take (min y.toNat vs.toArray.size - 0)).toArray = _
  rw [List.drop_zero, Nat.sub_zero, List.size_toArray, kmk_take_min]
theorem pick_from {y : Int} (h : 0 ≤ y) : slicePick vs.toArray (some y) none none = (vs.drop y.toNat).toArray := by
  have e : sliceBounds (some y) none none vs.toArray.size = (((min y.toNat vs.toArray.size : Nat) : Int), ((vs.toArray.size : Nat) : Int), 1) := by
    simp only [sliceBounds, Option.getD_none, show (1 : Int) > 0 by decide, if_true, if_neg (show ¬ (y < 0) by omega)]
    congr 1
    omega
  rw [kmk_pick_nat _ e]
  show ((vs.drop (min y.toNat vs.toArray.size)).take (vs.toArray.size - min y.toNat vs.toArray.size)).toArray = _
  rw [List.size_toArray, kmk_drop_min]
  congr 1
  apply List.take_of_length_le
  rw [List.length_drop]
  omega
theorem sl_upto {y : Int} {ty : Tok} (F : Fr h₀ L s.heap m) (N : News h₀ L s.heap news) (hm : (l, listOf vs.toArray c) ∈ news) (hy : 0 ≤ y) (hz : vs.length ≤ 16384)
    (h : ∀ D h', Fr h₀ L h' m → News h₀ L h' ((D, listOf (vs.take y.toNat).toArray 0) :: news) → (∀ p ∈ news, p.1 < D) → Q (.ref D) { s with heap := h' })
    (hs : subscripted slice false (.ref l) (.ref s.heap.objs.size) = operate [.ref s.heap.objs.size, .ref l] (getItem (.ref l) (.ref s.heap.objs.size))) (ht : ∀ r, letTemporaryGo value (.ref l) r = pure ()) :
    wpAny (model prog w) A (subscriptTail value slice (.ref l) (.ref s.heap.objs.size)) Q E { s with heap := s.heap.push { cls := .type "slice", data := .fields #[.none, .int y ty, .none] } } :=
  kmk_slice F N (News.isList N hm) .none (.int _ _) (fun D h' F' N' l1 => h D h' F' (by rw [pick_upto hy] at N'; exact N') l1) hs ht (by rw [List.size_toArray, sizeLine_eq]; omega)
theorem sl_from {y : Int} {ty : Tok} (F : Fr h₀ L s.heap m) (N : News h₀ L s.heap news) (hm : (l, listOf vs.toArray c) ∈ news) (hy : 0 ≤ y) (hz : vs.length ≤ 16384)
    (h : ∀ D h', Fr h₀ L h' m → News h₀ L h' ((D, listOf (vs.drop y.toNat).toArray 0) :: news) → (∀ p ∈ news, p.1 < D) → Q (.ref D) { s with heap := h' })
    (hs : subscripted slice false (.ref l) (.ref s.heap.objs.size) = operate [.ref s.heap.objs.size, .ref l] (getItem (.ref l) (.ref s.heap.objs.size))) (ht : ∀ r, letTemporaryGo value (.ref l) r = pure ()) :
    wpAny (model prog w) A (subscriptTail value slice (.ref l) (.ref s.heap.objs.size)) Q E { s with heap := s.heap.push { cls := .type "slice", data := .fields #[.int y ty, .none, .none] } } :=
  kmk_slice F N (News.isList N hm) (.int _ _) .none (fun D h' F' N' l1 => h D h' F' (by rw [pick_from hy] at N'; exact N') l1) hs ht (by rw [List.size_toArray, sizeLine_eq]; omega)
theorem cat_lists {a b : Addr} {us ws : List Value} {n k : Nat} (F : Fr h₀ L s.heap m) (N : News h₀ L s.heap news) (ha : (a, listOf us.toArray n) ∈ news) (hb : (b, listOf ws.toArray k) ∈ news) (hz : us.length ≤ 1000) (hz2 : ws.length ≤ 1000)
    (h : ∀ D h', Fr h₀ L h' m → News h₀ L h' ((D, listOf (us ++ ws).toArray 0) :: news) → (∀ p ∈ news, p.1 < D) → Q (.ref D) { s with heap := h' }) : wpAny (model prog w) A (binaryOp .Add (.ref a) (.ref b)) Q E s :=
  add_lists (vs := us) (ws := ws) F N (News.isList N ha) (News.isList N hb) (fun h' F' N' => h _ h' F' N' fun p hp => Heap.lt_size (N p hp).1) (by rw [sizeLine_eq]; omega)
theorem off_nil {l : Led} : ∀ p ∈ l, ∀ q ∈ ([] : Led), p.1 ≠ q.1 := fun _ _ _ hq => nomatch hq
end
end
section
theorem find_k : ∀ {l : List (Int × Str)} {u : Int}, l.Pairwise (fun a b => a.1 < b.1) → (∀ r ∈ l, 0 < r.1) → (∃ r ∈ l, r.1 = u) →
    ∃ k, (∀ j (hj : j < l.length), j < k → l[j].1 < u ∧ 0 < l[j].1) ∧ (∃ hk : k < l.length, l[k].1 = u) ∧ l.take k ++ l.drop (k + 1) = l.filter fun r => decide (r.1 ≠ u)
  | [], _, _, _, h => by obtain ⟨_, h, _⟩ := h; cases h
  | a :: l, u, hp, hz, h => by
    have hp' := List.pairwise_cons.mp hp
    by_cases ha : a.1 = u
    · refine ⟨0, fun j _ hj => absurd hj (Nat.not_lt_zero _), ⟨Nat.zero_lt_succ _, ha⟩, ?_⟩
      rw [List.take_zero, List.nil_append, List.drop_succ_cons, List.drop_zero, List.filter_cons, if_neg (by simpa using ha)]
      refine (List.filter_eq_self.mpr fun r hr => ?_).symm
      have := hp'.1 r hr
      simp
      omega
    · obtain ⟨r, hr, hru⟩ := h
      rcases List.mem_cons.mp hr with rfl | hr
      · exact absurd hru ha
      · obtain ⟨k, h1, ⟨hk, h2⟩, h3⟩ := find_k hp'.2 (fun r hr => hz r (.tail _ hr)) ⟨r, hr, hru⟩
        refine ⟨k + 1, fun j hj hjk => ?_, ⟨Nat.succ_lt_succ hk, h2⟩, ?_⟩
        · cases j with
          | zero => exact ⟨by have := hp'.1 r hr; show a.1 < u; omega, hz a (.head _)⟩
          | succ j => exact h1 j (Nat.lt_of_succ_lt_succ hj) (Nat.lt_of_succ_lt_succ hjk)
        · rw [List.take_succ_cons, List.drop_succ_cons, List.cons_append, h3, List.filter_cons, if_pos (by simpa using ha)]
def without (ns : List Int) (rs : List (Int × Str)) : List (Int × Str) := rs.filter fun r => decide (r.1 ∉ ns)
theorem without_nil (rs : List (Int × Str)) : without [] rs = rs := by simp [without]
theorem without_snoc (ns : List Int) (u : Int) (rs : List (Int × Str)) : (without ns rs).filter (fun r => decide (r.1 ≠ u)) = without (ns ++ [u]) rs := by
  unfold without
  rw [List.filter_filter]
  congr 1
  funext r
  simp [Bool.and_comm]
theorem without_pw {ns : List Int} {rs : List (Int × Str)} (h : rs.Pairwise fun a b => a.1 < b.1) : (without ns rs).Pairwise fun a b => a.1 < b.1 := h.filter _
theorem without_le (ns : List Int) (rs : List (Int × Str)) : (without ns rs).length ≤ rs.length := List.length_filter_le _ _
theorem rot3 {a b c : Addr × Obj} {l : Led} : ∀ p ∈ c :: a :: b :: l, p ∈ a :: b :: c :: l := fun p hp => by
  simp only [List.mem_cons] at hp ⊢
  rcases hp with h | h | h | h <;> simp [h]
theorem nums_has {ps : List (Int × Int)} (hS : Sep ps) {q : Int × Int} (h : q ∈ ps) : q.2 ∈ numsOf ps := by
  have hq := hS.pos q h
  unfold numsOf
  refine List.mem_flatMap.mpr ⟨q, h, ?_⟩
  unfold rangeKs
  exact List.mem_map.mpr ⟨(q.2 - q.1).toNat, List.mem_range.mpr (by omega), by omega⟩
theorem rot3b {a b c : Addr × Obj} {l : Led} : ∀ p ∈ a :: b :: c :: l, p ∈ c :: a :: b :: l := fun p hp => by
  simp only [List.mem_cons] at hp ⊢
  rcases hp with h | h | h | h <;> simp [h]
theorem skip2 {a b c : Addr × Obj} {l : Led} : ∀ p ∈ c :: l, p ∈ c :: a :: b :: l := fun p hp => by
  rcases List.mem_cons.mp hp with rfl | hp
  · exact .head _
  · exact .tail _ (.tail _ (.tail _ hp))
end
section
namespace Dp
theorem plain_loop : plainId "dict.update.loop" = true := by decide +kernel
theorem entry_loop : entryFor table "dict.update.loop" = some Builtin.«dict.update.loop» := entryFor_of_tree (by kernel_rfl)
theorem keys_list : typeLookup (.type "list") "keys" = pure none := am_miss_of_fast (by kernel_rfl)
theorem keys_tuple : typeLookup (.type "tuple") "keys" = pure none := am_miss_of_fast (by kernel_rfl)
end Dp
section
variable {prog : Program} {w : World} {A : Around} {E : Value → Shared → Prop} {s : Shared} {h₀ : Heap} {L l : Addr} {m : Str → Option Value} {news : Led}
theorem no_keys_list {a : Addr} {o : Obj} {xs : Array Value} {k : Nat} {Q : Option Value → Shared → Prop}
    (hx : s.heap.get? a = some o) (hc : o.cls = .type "list") (hdat : o.data = .seq xs k) (hd : o.dict = none) (hA : A.handled = none)
    (h : ∀ h' tk, (∀ b o, s.heap.get? b = some o → h'.get? b = some o) → Q none { s with heap := h', toks := tk }) :
    wpAny (model prog w) A (getAttr? (.ref a) "keys") Q E s := by
  obtain ⟨c, dct, dat, sl⟩ := o
  simp only at hc hdat hd
  subst hc hdat hd
  obtain ⟨hp, g, d, tk, os⟩ := s
  have hT : ∀ tk', (⟨hp, g, d, tk', os⟩ : Shared).TypeIs (.ref a) "list" := fun _ => ⟨_, hx, rfl⟩
  have f1 := sub_AttributeError
  have f3 := PySem.F.slot_list_getattribute.lookup
  have f4 := PySem.F.slot_list_getattribute.bind (.ref a)
  have f5 := am_list_getattr_none
  unfold getAttr? getAttrBy? getAttrBy
  repeat (any_goals (first | assumption | exact hT _ | ((with_reducible show wpAny _ _ (call (Value.builtin "list.__getattribute__") _ _) _ _ _); refine call_meets PySem.F.slot_list_getattribute (hT _) am_entry_list_getattribute (PySem.F.args_list_getattribute_2 _ _) (meets_getattribute_miss_list a xs k sl "keys" _ Dp.keys_list (by decide +kernel) (by decide +kernel)) ⟨hx, hA, fun h' tk' e hx' => ?_⟩) | wp_step))
  obtain ⟨t', u', he⟩ := hx'.there
  show wpAny _ _ (getattributeRaised _ _ _ _ _ _ _) _ _ _
  unfold getattributeRaised
  repeat (any_goals (first | assumption | wp_step))
  exact h _ _ hx'.keeps
theorem no_keys_tuple {a : Addr} {o : Obj} {xs : Array Value} {k : Nat} {Q : Option Value → Shared → Prop}
    (hx : s.heap.get? a = some o) (hc : o.cls = .type "tuple") (hdat : o.data = .seq xs k) (hd : o.dict = none) (hA : A.handled = none)
    (h : ∀ h' tk, (∀ b o, s.heap.get? b = some o → h'.get? b = some o) → Q none { s with heap := h', toks := tk }) :
    wpAny (model prog w) A (getAttr? (.ref a) "keys") Q E s := by
  obtain ⟨c, dct, dat, sl⟩ := o
  simp only at hc hdat hd
  subst hc hdat hd
  obtain ⟨hp, g, d, tk, os⟩ := s
  have hT : ∀ tk', (⟨hp, g, d, tk', os⟩ : Shared).TypeIs (.ref a) "tuple" := fun _ => ⟨_, hx, rfl⟩
  have f1 := sub_AttributeError
  have f3 := PySem.F.slot_tuple_getattribute.lookup
  have f4 := PySem.F.slot_tuple_getattribute.bind (.ref a)
  have f5 := am_tuple_getattr_none
  unfold getAttr? getAttrBy? getAttrBy
  repeat (any_goals (first | assumption | exact hT _ | ((with_reducible show wpAny _ _ (call (Value.builtin "tuple.__getattribute__") _ _) _ _ _); refine call_meets PySem.F.slot_tuple_getattribute (hT _) am_entry_tuple_getattribute (PySem.F.args_tuple_getattribute_2 _ _) (meets_getattribute_miss_tuple a xs k sl "keys" _ Dp.keys_tuple (by decide +kernel) (by decide +kernel)) ⟨hx, hA, fun h' tk' e hx' => ?_⟩) | wp_step))
  obtain ⟨t', u', he⟩ := hx'.there
  show wpAny _ _ (getattributeRaised _ _ _ _ _ _ _) _ _ _
  unfold getattributeRaised
  repeat (any_goals (first | assumption | wp_step))
  exact h _ _ hx'.keeps

def PairAt (h : Heap) (it : Addr × Str × Value) : Prop := ∃ t n, h.get? it.1 = some (tupO [.str it.2.1 t, it.2.2] n)
theorem fold_le {its : List (Addr × Str × Value)} : ∀ (n : Nat) (kvs : List (Str × Value)), ((its.take n).foldl (fun a it => stored a it.2.1 it.2.2) kvs).length ≤ kvs.length + (its.take n).length := by
  suffices h : ∀ (l : List (Addr × Str × Value)) (kvs : List (Str × Value)), (l.foldl (fun a it => stored a it.2.1 it.2.2) kvs).length ≤ kvs.length + l.length from fun n kvs => h _ _
  intro l
  induction l with
  | nil => exact fun kvs => Nat.le_refl _
  | cons a l ih => 
    intro kvs
    have := ih (stored kvs a.2.1 a.2.2)
    have h2 := stored_length_le kvs a.2.1 a.2.2
    rw [List.foldl_cons, List.length_cons]
    omega
theorem upd_loop {I d : Addr} {fp : List Addr} {n : Nat} {P : Nat → Value → Prop} {St : Nat → Heap → Prop} {its : List (Addr × Str × Value)} {kvs₀ : List (Str × Value)} {R : Result → Shared → Prop} (W : Walks prog w A.in1 I fp [I] n P St) (hn : n = its.length) (hsz : kvs₀.length + n ≤ 1000)
    (hP : ∀ i v, P i v → ∃ it, its[i]? = some it ∧ v = .ref it.1) (hd : d ∉ fp) (hdI : d ≠ I) (hIt : ∀ it ∈ its, it.1 ≠ I ∧ it.1 ≠ d) :
    ∀ (k i : Nat) (s : Shared) (h₁ : Heap), i + k = n → St i s.heap → (∀ it ∈ its, PairAt s.heap it) → s.heap.DictOf (PySem.strKind prog w) d ((its.take i).foldl (fun a it => stored a it.2.1 it.2.2) kvs₀) → (∀ b o, b ≠ I → b ≠ d → h₁.get? b = some o → s.heap.get? b = some o) →
      (∀ h' tk, (∀ b o, b ≠ I → b ≠ d → h₁.get? b = some o → h'.get? b = some o) → h'.DictOf (PySem.strKind prog w) d (its.foldl (fun a it => stored a it.2.1 it.2.2) kvs₀) → R (.ok (.ret .none)) { s with heap := h', toks := tk }) →
      codeAny (model prog w) A (.builtin "dict.update.loop" ⟨[.ref d, .ref I, rawInt i, .none], []⟩) R s := by
  intro k
  induction k with
  | zero =>
    intro i s h₁ hk hst hp hD hkeep hR
    refine codeAny_builtin Dp.entry_loop ?_
    rw [Around.under_plainId Dp.plain_loop _]
    show wpAny _ A.in1 (pyNext (.ref I) >>= _) _ _ _
    have hin : i = n := by omega
    subst hin
    refine wpAny_bind (W.done _ _ _ hst fun h' tk hk' => ?_)
    dsimp only
    refine wpAny_bind ?_
    unfold Builtin.Dict.addKeywords
    simp only [List.forIn_nil, pure_bind]
    refine wpAny_pure (wpAny_pure ?_)
    refine hR h' tk (fun b o h1 h2 e => hk' b o (by simpa using h1) (hkeep b o h1 h2 e)) ?_
    obtain ⟨o, ho, x⟩ := Heap.dictOf_iff.mp hD
    rw [hn, List.take_length] at x
    exact Heap.dictOf_iff.mpr ⟨o, hk' _ _ (by simpa using hdI) ho, x⟩
  | succ k ih =>
    intro i s h₁ hk hst hp hD hkeep hR
    refine codeAny_builtin Dp.entry_loop ?_
    rw [Around.under_plainId Dp.plain_loop _]
    show wpAny _ A.in1 (pyNext (.ref I) >>= _) _ _ _
    refine wpAny_bind (W.item i _ _ _ (by omega) hst fun v h' tk hPv hst' hk' => ?_)
    obtain ⟨it, hit, rfl⟩ := hP i v hPv
    dsimp only
    have hmem := List.mem_of_getElem? hit
    obtain ⟨t, nn, ho⟩ := hp it hmem
    have ho' : h'.get? it.1 = some (tupO [.str it.2.1 t, it.2.2] nn) := hk' _ _ (by simpa using (hIt it hmem).1) ho
    have hD' : h'.DictOf (PySem.strKind prog w) d ((its.take i).foldl (fun a it => stored a it.2.1 it.2.2) kvs₀) := by
      obtain ⟨o, hod, x⟩ := Heap.dictOf_iff.mp hD
      exact Heap.dictOf_iff.mpr ⟨o, hk' _ _ (by simpa using hdI) hod, x⟩
    refine wpAny_bind (wpAny_holding (wpAny_bind (wpAny_tryCatch ?_)))
    unfold Builtin.Dict.pairItems
    refine wpAny_bind (wpAny_typeOf (T := "tuple") ⟨_, ho', rfl⟩ ?_)
    rw [if_pos (by decide)]
    refine wpAny_bind (wpAny_seqItems ho' rfl (wpAny_pure ?_))
    show wpAny _ _ (holding [.str it.2.1 t, it.2.2] (dictSet d (.str it.2.1 t) it.2.2)) _ _ _
    refine wpAny_holding (wpAny_dictSet_pairs (strKind_is prog w it.2.1 t) hD' (fun h'' hm'' hs'' => ?_) ?_)
    · refine wpAny_pure ⟨plainId_quiet Dp.plain_loop _, ih (i + 1) _ h₁ (by omega) (W.frame _ _ _ hst' fun b hb o e => (hs''.2 b (fun q => hd (q ▸ hb))).trans e) (fun it' hit' => ?_) ?_ (fun b o h1 h2 e => (hs''.2 b h2).trans (hk' b o (by simpa using h1) (hkeep b o h1 h2 e))) hR⟩
      · obtain ⟨t', n', e'⟩ := hp it' hit'
        exact ⟨t', n', (hs''.2 _ (hIt it' hit').2).trans (hk' _ _ (by simpa using (hIt it' hit').1) e')⟩
      · rw [List.take_add_one, hit, Option.toList_some, List.foldl_append]
        exact hm''
    · refine Nat.le_trans (Nat.le_trans (fold_le _ _) (show _ ≤ 1000 from ?_)) (by rw [sizeLine_eq]; omega)
      rw [List.length_take]
      omega
theorem dict_fin {T : String} {o : Addr} {its : List (Addr × Str × Value)} {Q : Value → Shared → Prop} (hA : A.handled = none) (hT : s.TypeIs (.ref o) T) (hTd : (Value.type T == Value.type "dict") = false)
    (hkeys : ∀ (B : Around) (s₁ : Shared) (Q₁ : Option Value → Shared → Prop) (E₁ : Value → Shared → Prop), B.handled = none → (∀ b x, s.heap.get? b = some x → s₁.heap.get? b = some x) → (∀ h' tk, (∀ b o, s₁.heap.get? b = some o → h'.get? b = some o) → Q₁ none { s₁ with heap := h', toks := tk }) → wpAny (model prog w) B (getAttr? (.ref o) "keys") Q₁ E₁ s₁)
    (hiter : ∀ (B : Around) (s₁ : Shared) (Q₁ : Value → Shared → Prop) (E₁ : Value → Shared → Prop), B.handled = none → (∀ b x, s.heap.get? b = some x → s₁.heap.get? b = some x) →
      (∀ x fp (P : Nat → Value → Prop) (St : Nat → Heap → Prop), (∀ B' : Around, B'.handled = none → Walks prog w B' s₁.heap.objs.size fp [s₁.heap.objs.size] its.length P St) → (∀ b ∈ fp, b = o ∨ b = s₁.heap.objs.size) → (∀ i v, P i v → ∃ it, its[i]? = some it ∧ v = .ref it.1) → St 0 (s₁.heap.push x) → Q₁ (.ref s₁.heap.objs.size) { s₁ with heap := s₁.heap.push x }) → wpAny (model prog w) B (pyIter (.ref o)) Q₁ E₁ s₁)
    (ho : o < s.heap.objs.size) (hp : ∀ it ∈ its, PairAt s.heap it) (hsz : its.length ≤ 1000)
    (h : ∀ h' tk, (∀ b o, s.heap.get? b = some o → h'.get? b = some o) → h'.DictOf (PySem.strKind prog w) s.heap.objs.size (its.foldl (fun a it => stored a it.2.1 it.2.2) []) → Q (.ref s.heap.objs.size) { s with heap := h', toks := tk }) :
    wpAny (model prog w) A (call (.type "dict") [.ref o]) Q E s := by
  refine callType_codes (Q₁ := fun obj s₁ => obj = .ref s.heap.objs.size ∧ s₁ = { s with heap := s.heap.push { cls := .type "dict", data := .dict #[] } }) F.kt_called_dict (F.kt_typeCall_dict_1 _) F.entry_dict_init (kt_code_dict_new _ ⟨rfl, rfl⟩) ?_
  rintro obj s₁ ⟨rfl, rfl⟩
  have hnew : (s.heap.push { cls := .type "dict", data := .dict #[] }).DictOf (PySem.strKind prog w) s.heap.objs.size [] := Heap.DictOf.new s.heap
  have hk1 : ∀ b x, s.heap.get? b = some x → (s.heap.push { cls := .type "dict", data := .dict #[] }).get? b = some x := fun b x e => Heap.get?_push_of_some _ e
  refine ⟨hnew.typeIs, F.args_dict_init_2 _ _, ?_⟩
  unfold Builtin.«dict.__init__»
  refine wpAny_bind ?_
  unfold Builtin.Dict.selfAndRest
  refine wpAny_bind (wpAny_notOrdered_dict hnew.typeIs ?_)
  show wpAny _ _ (pure (s.heap.objs.size, [Value.ref o])) _ _ _
  refine wpAny_pure ?_
  show wpAny _ _ (Builtin.Dict.updateFrom "dict.__init__" s.heap.objs.size (.ref o) [] .none) _ _ _
  unfold Builtin.Dict.updateFrom
  refine wpAny_bind (wpAny_typeOf (T := T) (by obtain ⟨x, e, c⟩ := hT; exact ⟨x, hk1 _ _ e, c⟩) ?_)
  rw [if_pos (by simp [bne, hTd])]
  refine wpAny_bind (hkeys _ _ _ _ hA hk1 fun h2 tk2 hk2 => ?_)
  simp only [Option.isNone_none, if_true]
  refine wpAny_bind (wpAny_rule ?_)
  refine wpAny_bind (hiter _ _ _ _ hA (fun b x e => hk2 b x (hk1 b x e)) fun x fp P St W hfp hP hSt => ?_)
  have hs2 : s.heap.objs.size < h2.objs.size := by
    obtain ⟨_, _, _, hg, _⟩ := hnew
    exact Heap.lt_size (hk2 _ _ hg)
  have hk3 : ∀ b y, (s.heap.push { cls := .type "dict", data := .dict #[] }).get? b = some y → (h2.push x).get? b = some y := fun b y e => Heap.get?_push_of_some _ (hk2 b y e)
  refine wpAny_pure ⟨plainId_quiet Dp.plain_loop _, ?_⟩
  refine upd_loop (A := A.in1) (n := its.length) (its := its) (kvs₀ := []) (d := s.heap.objs.size) (I := h2.objs.size) (W _ hA) rfl (by simpa using hsz) hP (fun hm => ?_) (Nat.ne_of_lt hs2) (fun it hit => ?_) its.length 0 _ s.heap (Nat.zero_add _) hSt (fun it hit => ?_) ?_ ?_ ?_
  · rcases hfp _ hm with e | e
    · exact absurd ho (e ▸ Nat.lt_irrefl _)
    · exact absurd hs2 (e ▸ Nat.lt_irrefl _)
  · obtain ⟨t, n, e⟩ := hp it hit
    have := Heap.lt_size e
    exact ⟨Nat.ne_of_lt (Nat.lt_trans this hs2), Nat.ne_of_lt this⟩
  · obtain ⟨t, n, e⟩ := hp it hit
    exact ⟨t, n, hk3 _ _ (hk1 _ _ e)⟩
  · obtain ⟨y, hy, z⟩ := Heap.dictOf_iff.mp hnew
    exact Heap.dictOf_iff.mpr ⟨y, hk3 _ _ hy, z⟩
  · intro b y _ _ e
    exact hk3 _ _ (hk1 _ _ e)
  · intro h' tk hk hd
    refine ⟨rfl, h h' tk (fun b y e => hk b y (fun q => ?_) (fun q => ?_) e) hd⟩
    · have := Heap.lt_size e
      exact absurd (Nat.lt_trans this hs2) (q ▸ Nat.lt_irrefl _)
    · exact absurd (Heap.lt_size e) (q ▸ Nat.lt_irrefl _)
theorem dict_tuple {x : Addr} {nn : Nat} {its : List (Addr × Str × Value)} {Q : Value → Shared → Prop} (hA : A.handled = none) (hx : s.heap.get? x = some (tupO (its.map fun it => .ref it.1) nn)) (hp : ∀ it ∈ its, PairAt s.heap it) (hsz : its.length ≤ 1000)
    (h : ∀ h' tk, (∀ b o, s.heap.get? b = some o → h'.get? b = some o) → h'.DictOf (PySem.strKind prog w) s.heap.objs.size (its.foldl (fun a it => stored a it.2.1 it.2.2) []) → Q (.ref s.heap.objs.size) { s with heap := h', toks := tk }) :
    wpAny (model prog w) A (call (.type "dict") [.ref x]) Q E s := by
  refine dict_fin (T := "tuple") hA ⟨_, hx, rfl⟩ (by decide) (fun B s₁ Q₁ E₁ hB hk h1 => no_keys_tuple (hk _ _ hx) rfl rfl rfl hB h1) (fun B s₁ Q₁ E₁ hB hk h1 => ?_) (Heap.lt_size hx) hp hsz h
  have hy := hk _ _ hx
  have hls : s₁.heap.IsTuple x (its.map fun it => Value.ref it.1).toArray := ⟨_, hy, rfl, nn, rfl⟩
  refine wpAny_pyIter_tuple hls ?_
  have e : (its.map fun it => Value.ref it.1).toArray.size = its.length := by simp
  have W := fun (B' : Around) (hB : B'.handled = none) => Walks.tuple (prog := prog) (w := w) (A := B') hB s₁.heap.objs.size x (Nat.ne_of_lt (Heap.lt_size hy)) (its.map fun it => Value.ref it.1).toArray
  rw [e] at W
  refine h1 _ _ _ _ W (fun b hb => ?_) (fun i v hv => ?_) ⟨⟨_, Heap.get?_push_size _ rfl, rfl, rfl⟩, hls.at fun o e => Heap.get?_push_of_some _ e⟩
  · rcases List.mem_cons.mp hb with rfl | hb
    · exact .inr rfl
    · exact .inl (List.mem_singleton.mp hb)
  · have hv := arr_get hv
    rw [List.getElem?_map] at hv
    obtain ⟨it, e1, e2⟩ := Option.map_eq_some_iff.mp hv
    exact ⟨it, e1, e2.symm⟩
theorem dict_nil {x : Addr} {nn : Nat} {Q : Value → Shared → Prop} (hA : A.handled = none) (hx : s.heap.get? x = some (listOf #[] nn))
    (h : ∀ h' tk, (∀ b o, s.heap.get? b = some o → h'.get? b = some o) → h'.DictOf (PySem.strKind prog w) s.heap.objs.size [] → Q (.ref s.heap.objs.size) { s with heap := h', toks := tk }) :
    wpAny (model prog w) A (call (.type "dict") [.ref x]) Q E s := by
  refine dict_fin (T := "list") (its := []) hA ⟨_, hx, rfl⟩ (by decide) (fun B s₁ Q₁ E₁ hB hk h1 => no_keys_list (hk _ _ hx) rfl rfl rfl hB h1) (fun B s₁ Q₁ E₁ hB hk h1 => ?_) (Heap.lt_size hx) (fun _ h => nomatch h) (Nat.zero_le _) h
  have hy := hk _ _ hx
  have hls : s₁.heap.IsList x #[] := ⟨_, hy, rfl, nn, rfl⟩
  refine wpAny_pyIter_list hls ?_
  have W := fun (B' : Around) (hB : B'.handled = none) => Walks.list (prog := prog) (w := w) (A := B') hB s₁.heap.objs.size x (Nat.ne_of_lt (Heap.lt_size hy)) #[]
  refine h1 _ _ _ _ W (fun b hb => ?_) (fun i v hv => ?_) ⟨⟨_, Heap.get?_push_size _ rfl, rfl, rfl⟩, hls.at fun o e => Heap.get?_push_of_some _ e⟩
  · rcases List.mem_cons.mp hb with rfl | hb
    · exact .inr rfl
    · exact .inl (List.mem_singleton.mp hb)
  · simp at hv
end
end
section
theorem sub_app {l T T' : Led} (h : ∀ p ∈ T, p ∈ T') : ∀ p ∈ l ++ T, p ∈ l ++ T' := fun p hp => (List.mem_append.mp hp).elim (fun h => List.mem_append_left _ h) fun k => List.mem_append_right _ (h p k)
theorem sub_cons {a : Addr × Obj} {l l' : Led} (h : ∀ p ∈ l, p ∈ l') : ∀ p ∈ a :: l, p ∈ a :: l' := fun p hp => by
  rcases List.mem_cons.mp hp with rfl | hp
  · exact .head _
  · exact .tail _ (h p hp)
theorem sub_skip {a : Addr × Obj} {l l' : Led} (h : ∀ p ∈ l, p ∈ l') : ∀ p ∈ l, p ∈ a :: l' := fun p hp => .tail _ (h p hp)
theorem sub_in {a : Addr × Obj} {l l' : Led} (h1 : a ∈ l') (h : ∀ p ∈ l, p ∈ l') : ∀ p ∈ a :: l, p ∈ l' := fun p hp => by
  rcases List.mem_cons.mp hp with rfl | hp
  · exact h1
  · exact h p hp
theorem sub_id {l : Led} : ∀ p ∈ l, p ∈ l := fun _ h => h
/-- a new entry ahead of what is frozen -/
theorem sub_mid {a : Addr × Obj} {l T l' : Led} (h1 : a ∈ l') (h : ∀ p ∈ l ++ T, p ∈ l') : ∀ p ∈ l ++ (a :: T), p ∈ l' := fun p hp => by
  rcases List.mem_append.mp hp with hp | hp
  · exact h p (List.mem_append_left _ hp)
  · rcases List.mem_cons.mp hp with rfl | hp
    · exact h1
    · exact h p (List.mem_append_right _ hp)
theorem Grow.sub {T al al' T' T'' : Led} (g : Grow T al T') (h : Grow T' al' T'') (hs : ∀ q ∈ al, q ∈ al') : Grow T al T'' := g.of h fun q hq => ⟨q, hs q hq, rfl⟩
section
variable {prog : Program} {w : World} {A : Around} {E : Value → Shared → Prop} {s : Shared} {h₀ : Heap} {L : Addr} {m : Str → Option Value} {env : Env}
def SrcD (prog : Program) (w : World) (A : Around) (h₀ : Heap) (L : Addr) (m : Str → Option Value) (Q : Value → Shared → Prop) (xv : Value) (s₁ : Shared) : Prop :=
  ∃ kk ok news, xv = .ref kk ∧ A.handled = none ∧ (kk == sysModules) = false ∧ Fr h₀ L s₁.heap m ∧ News h₀ L s₁.heap news ∧ (kk, ok) ∈ news ∧ ok.IsDictOf (PySem.strKind prog w) [] ∧ ∀ g, LCg.FinE h₀ L m { s₁ with heap := g } Q [] news
theorem ListComp_D {ct elt iter : Expr} {x : Str} {px : Pos} {scope : Scope} {cl : List (Str × Addr)} {pos : Pos} {Q : Value → Shared → Prop} (F₀ : Fr h₀ L s.heap m)
    (hclos : closureFor scope env = pure cl) (hcell : ∀ y ∈ scope.names, y.2 ≠ .cell) (hkind : scope.kind = .function)
    (hnames : ∀ y ∈ scope.names, y.2 = .local → scope.names.lookup y.1 = some .local) (hx : scope.names.lookup x = some .local)
    (h : wpAny (model prog w) A (eval iter env) (SrcD prog w A h₀ L m Q) E s)
    (hs : ∀ x, foldedSetIterable iter env x = pure x := by intro _; rfl) :
    wpAny (model prog w) A (eval (.ListComp elt [⟨.Name x px, iter, [ct], 0⟩] scope pos) env) Q E s := by
  rw [eval_ListComp]
  refine wpAny_comprehension_free (use := none) rfl hs hclos hkind hnames (wpAny_mono h (fun xv s₁ h₁ => ?_) fun _ _ e => e)
  obtain ⟨kk, ok, news, rfl, hh, hsm, F, N, hm, hd, R⟩ := h₁
  have hD : s₁.heap.DictOf (PySem.strKind prog w) kk [] := Heap.dictOf_iff.mpr ⟨ok, (N _ hm).1, hd⟩
  obtain ⟨ep, hA⟩ := hD.dictAt
  have hlt := hA.lt_size
  refine wpAny_pyIter_dict hsm hA ?_
  have hob := (N _ hm).1
  have hpure : ∀ h' : Heap, h'.get? kk = some ok → h'.DictAt (PySem.strKind prog w) kk [] ep := fun h' e => by
    obtain ⟨o, es, ho, r⟩ := hA
    rw [hob] at ho
    cases ho
    exact ⟨_, es, e, r⟩
  refine LCt.block_T (S := fun nw => (kk, ok) ∈ nw) (news := news) (Fin := LCg.FinE h₀ L m { s₁ with heap := s₁.heap.push { cls := .type "dict_keyiterator", data := .fields #[.ref kk, .int 0 0, .int 0 0, .int ep 0] } } Q) (Walks.dictKeys (knd := PySem.strKind prog w) hh s₁.heap.objs.size kk (Nat.ne_of_lt hlt) [] ep) (Nat.zero_le _) (fun i h st => by obtain ⟨o, e, _⟩ := st.1; exact ⟨o, e⟩)
    (fun i h h' o nw st e e' k Nw hS => ⟨by obtain ⟨o', q, r⟩ := st.1; rw [e] at q; cases q; exact ⟨o, e', r⟩, hpure _ (Nw _ hS).1⟩) hcell hkind hx ⟨⟨_, Heap.get?_push_size _ rfl, rfl, rfl⟩, hA.push _⟩ (fun b hb => ?_)
    (F.keeps fun _ _ e => Heap.get?_push_of_some _ e) (N.grown fun _ _ e => Heap.get?_push_of_some _ e) (Nat.ne_of_lt F.ns.lt) (next_is_new F) (fun p hp => Nat.ne_of_lt (Heap.lt_size (N p hp).1)) hm (R _) ?_
  · show b < (s₁.heap.push _).objs.size
    rw [Heap.size_push]
    rcases List.mem_cons.mp hb with rfl | hb
    · exact Nat.lt_succ_self _
    · rw [List.mem_singleton.mp hb]; exact Nat.lt_succ_of_lt hlt
  · intro D C h tk m' ys news' F' N' o1 hn hC₀ hD₀ hCL hDL hCD offC fin
    refine ⟨m', hn, fun h'' hs'' => fin D h'' tk (F'.change hs'' hCL hC₀) (fun p hp => ?_) o1⟩
    refine ⟨hs''.extBut _ _ ?_ (N' p hp).1, (N' p hp).2⟩
    rcases List.mem_cons.mp hp with rfl | hp
    · exact Ne.symm hCD
    · exact offC p hp
theorem dictn {x : Addr} {nn : Nat} {news : Led} {Q : Value → Shared → Prop} (hA : A.handled = none) (F : Fr h₀ L s.heap m) (N : News h₀ L s.heap news) (hbig : sysModules < h₀.objs.size) (hx : (x, listOf #[] nn) ∈ news)
    (h : ∀ D o h' tk, Fr h₀ L h' m → News h₀ L h' ((D, o) :: news) → (∀ p ∈ news, p.1 < D) → o.IsDictOf (PySem.strKind prog w) [] → (D == sysModules) = false → Q (.ref D) { s with heap := h', toks := tk }) :
    wpAny (model prog w) A (call (.type "dict") [.ref x]) Q E s := by
  refine dict_nil hA (N _ hx).1 fun h' tk hk hd => ?_
  obtain ⟨o, ho, hi⟩ := Heap.dictOf_iff.mp hd
  have h0 : h₀.get? s.heap.objs.size = none := next_is_new F
  refine h _ o h' tk (F.keeps hk) (fun p hp => ?_) (fun p hp => Heap.lt_size (N p hp).1) hi (F.notModules hbig)
  rcases List.mem_cons.mp hp with rfl | hp
  · exact ⟨ho, Ne.symm (Nat.ne_of_lt F.ns.lt), h0⟩
  · exact ⟨hk _ _ (N p hp).1, (N p hp).2⟩
theorem dictp {x p1 p2 : Addr} {k1 k2 : Str} {v1 v2 : Value} {t1 t2 nn n1 n2 : Nat} {news : Led} {Q : Value → Shared → Prop} (hA : A.handled = none) (F : Fr h₀ L s.heap m) (N : News h₀ L s.heap news) (hbig : sysModules < h₀.objs.size) (hx : (x, tupO [.ref p1, .ref p2] nn) ∈ news)
    (h1 : (p1, tupO [.str k1 t1, v1] n1) ∈ news) (h2 : (p2, tupO [.str k2 t2, v2] n2) ∈ news) (hk : k1 ≠ k2)
    (h : ∀ D o h' tk, Fr h₀ L h' m → News h₀ L h' ((D, o) :: news) → (∀ p ∈ news, p.1 < D) → o.IsDictOf (PySem.strKind prog w) [(k1, v1), (k2, v2)] → (D == sysModules) = false → Q (.ref D) { s with heap := h', toks := tk }) :
    wpAny (model prog w) A (call (.type "dict") [.ref x]) Q E s := by
  refine dict_tuple (its := [(p1, k1, v1), (p2, k2, v2)]) hA (N _ hx).1 (fun it hit => ?_) (by simp) fun h' tk hk2 hd => ?_
  · rcases List.mem_cons.mp hit with rfl | hit
    · exact ⟨t1, n1, (N _ h1).1⟩
    · rw [List.mem_singleton.mp hit]; exact ⟨t2, n2, (N _ h2).1⟩
  have e : [(p1, k1, v1), (p2, k2, v2)].foldl (fun a (it : Addr × Str × Value) => stored a it.2.1 it.2.2) [] = [(k1, v1), (k2, v2)] := by
    simp [stored, hk]
  rw [e] at hd
  obtain ⟨o, ho, hi⟩ := Heap.dictOf_iff.mp hd
  have h0 : h₀.get? s.heap.objs.size = none := next_is_new F
  refine h _ o h' tk (F.keeps hk2) (fun p hp => ?_) (fun p hp => Heap.lt_size (N p hp).1) hi (F.notModules hbig)
  rcases List.mem_cons.mp hp with rfl | hp
  · exact ⟨ho, Ne.symm (Nat.ne_of_lt F.ns.lt), h0⟩
  · exact ⟨hk2 _ _ (N p hp).1, (N p hp).2⟩
theorem sorted_one {l : Addr} {x : Str} {t n : Nat} {news : Led} {Q : Value → Shared → Prop} (F : Fr h₀ L s.heap m) (N : News h₀ L s.heap news) (hm : (l, listOf #[.str x t] n) ∈ news)
    (k : ∀ D h' t' e, Fr h₀ L h' m → News h₀ L h' ((D, listOf #[.str x t'] e) :: news) → (∀ p ∈ news, p.1 < D) → Q (.ref D) { s with heap := h' }) : wpAny (model prog w) A (call (.builtin "sorted") [.ref l]) Q E s := by
  refine sorted_N_str (vs := [.str x t]) (ss := [x]) F N ⟨_, (N _ hm).1, rfl, n, rfl⟩ (.cons _ _ .nil) (show 1 < 64 by decide) fun h' vs' ss' e F' N' a1 a2 a3 => ?_
  have e1 : ss' = [x] := List.perm_singleton.mp a2
  subst e1
  obtain ⟨t', rfl⟩ : ∃ t', vs' = [.str x t'] := by
    cases a1 with
    | cons _ _ r => cases r; exact ⟨_, rfl⟩
  exact k _ h' t' e F' N' fun p hp => Nat.lt_succ_of_lt (Heap.lt_size (N p hp).1)
end
end
section
section
variable {prog : Program} {w : World} {A A₀ : Around} {E : Value → Shared → Prop} {s : Shared} {Q : Value → Shared → Prop} {K : Frag} {L : Addr} {h₀ base : Heap} {m mg mb : Str → Option Value} {news : Led} {p : Program} {loose : List Str} {mean : ExcName → Option Value}
theorem stop_call {n : Nat} {pos : List Value} {kw : List (Str × Value)} (_ : [73, 80, 87, 94, 108, 115, 198, 205, 210, 215, 222, 225, 234, 241, 246, 253, 267, 274, 279, 321].elem n = true)
    (h : Stopped (wpAny (model prog w) A (call (.ref n) pos kw) Q E s)) : wpAny (model prog w) A (call (.ref n) pos kw) Q E s := h
theorem stop_iter {env : Env} {target : Expr} {body : List Stmt} {R : Flow → Shared → Prop} {l : Addr} (h : Stopped (wpAny (model prog w) A (pyIter (.ref l)) (fun it s₂ => TurnsAt prog w A h₀ env target body R E it s₂) E s)) :
    wpAny (model prog w) A (pyIter (.ref l)) (fun it s₂ => TurnsAt prog w A h₀ env target body R E it s₂) E s := h
theorem item_at {value slice : Expr} {a : Addr} {us : List Value} {x : Value} {n : Nat} {k : Int} {u : Tok} (N : News h₀ L s.heap news) (hm : (a, listOf us.toArray n) ∈ news) (hx : us[k.toNat]? = some x) (h0 : 0 ≤ k) (hfit : k < 2 ^ 63) (h : Q x s)
    (hs : subscripted slice false (.ref a) (.int k u) = operate [.ref a, .int k u] (getItem (.ref a) (.int k u)) := by with_unfolding_all rfl) (hg : ∀ r, letTemporaryGo value (.ref a) r = pure () := by intro _; with_unfolding_all rfl) :
    wpAny (model prog w) A (subscriptTail value slice (.ref a) (.int k u)) Q E s := kim_list (l := us) N hm rfl rfl h0 hfit hx h hs hg
theorem ListComp_DT {env : Env} {es : List Expr} {j : Nat} {tp : Pos} {ct iter : Expr} {x : Str} {px : Pos} {scope : Scope} {cl : List (Str × Addr)} {pos : Pos} (F₀ : Fr h₀ L s.heap m)
    (hclos : closureFor scope env = pure cl) (hcell : ∀ y ∈ scope.names, y.2 ≠ .cell) (hkind : scope.kind = .function)
    (hnames : ∀ y ∈ scope.names, y.2 = .local → scope.names.lookup y.1 = some .local) (hx : scope.names.lookup x = some .local)
    (h : wpAny (model prog w) A (eval iter env) (SrcD prog w A h₀ L m Q) E s) (hs : ∀ x, foldedSetIterable iter env x = pure x := by intro _; rfl) :
    wpAny (model prog w) A (eval (.ListComp (.Tuple es j tp) [⟨.Name x px, iter, [ct], 0⟩] scope pos) env) Q E s := ListComp_D F₀ hclos hcell hkind hnames hx h hs
end
end
section
def CEnds (K : Params → Frag) : Prop := ∀ (w : World) (fz : Led) (v : Value) (lo hi g : Int) (tg : Nat), DatIn fz v (.tuple [.int lo, .int hi]) → 1 ≤ lo → lo ≤ hi →
  Con K w 10 100 73 [v, .int g tg] [] fz fun r mt' al => mt' = [] ∧ DatIn al r (.tuple [.int lo, .int hi])
end
section
def CPlain (K : Params → Frag) : Prop := ∀ (w : World) (fz : Led) (v : Value) (ps : List (Int × Int)) (g : Int) (tg : Nat), DatIn fz v (.tuple (pairsD ps)) → Sep ps → ps.length ≤ 50 →
  Con K w 30 300 80 [v, .int g tg] [] fz fun r mt' al => mt' = [] ∧ DatIn al r (.tuple (pairsD ps))
end
section
def CSettled (K : Params → Frag) : Prop := ∀ (w : World) (fz : Led) (v : Value) (ps : List (Int × Int)), DatIn fz v (.tuple (pairsD ps)) → Sep ps → ps.length ≤ 50 →
  Con K w 40 400 87 [v] [] fz fun r mt' al => mt' = [] ∧ DatIn al r (.tuple (pairsD ps))
end
section
def CSize (K : Params → Frag) : Prop := ∀ (w : World) (fz : Led) (v : Value) (ps : List (Int × Int)), DatIn fz v (.tuple (pairsD ps)) → Sep ps → ps.length ≤ 50 →
  Con K w 50 500 115 [v] [] fz fun r mt' al => mt' = [] ∧ ∃ t, r = .int (sizeZ ps) t
end
section
def CNums (K : Params → Frag) : Prop := ∀ (w : World) (fz : Led) (v : Value) (ps : List (Int × Int)) (g : Int) (tg : Nat), DatIn fz v (.tuple (pairsD ps)) → Sep ps → ps.length ≤ 50 → (numsOf ps).length ≤ 100 → g ≤ 1000000 → (∀ p ∈ ps, p.2 ≤ g) →
  Con K w 50 500 108 [v, .int g tg] [] fz fun r mt' al => mt' = [] ∧ DatIn al r (.list ((numsOf ps).map Dat.int))
end
section
def CUids (K : Params → Frag) : Prop := ∀ (w : World) (fz : Led) (v : Value) (ps : List (Int × Int)), DatIn fz v (.tuple (pairsD ps)) → Sep ps → ps ≠ [] → ps.length ≤ 50 → (numsOf ps).length ≤ 100 → (∀ p ∈ ps, p.2 ≤ 1000000) →
  Con K w 60 600 274 [v] [] fz fun r mt' al => mt' = [] ∧ DatIn al r (.list ((numsOf ps).map Dat.int))
end
section
def CRanges (K : Params → Frag) : Prop := ∀ (w : World) (fz : Led) (v : Value) (ns : List Int), DatIn fz v (.list (ns.map Dat.int)) → ns.Pairwise (· < ·) → (∀ n ∈ ns, 1 ≤ n) → ns.length ≤ 50 →
  Con K w 30 300 94 [v] [] fz fun r mt' al => mt' = [] ∧ ∃ ps, DatIn al r (.tuple (pairsD ps)) ∧ Sep ps ∧ numsOf ps = ns ∧ ps.length ≤ ns.length
end
section
structure HT where
  k1 : Nat
  k2 : Nat
  k3 : Nat
  u : Nat
  m : Nat
def heldEs (P : Params) (t : HT) (uid : Int) (fl : Value) : List DictEntry :=
  [⟨PyData.keyHash P "uid", .str "uid" t.k1, .int uid t.u⟩, ⟨PyData.keyHash P "flags", .str "flags" t.k2, fl⟩, ⟨PyData.keyHash P "modseq", .str "modseq" t.k3, .int 0 t.m⟩]
structure CT where
  k0 : Nat
  k1 : Nat
  k2 : Nat
  k3 : Nat
  k4 : Nat
  k5 : Nat
  k6 : Nat
  k7 : Nat
  k8 : Nat
  k9 : Nat
  v0 : Nat
  v1 : Nat
  v2 : Nat
  v3 : Nat
  v7 : Nat
  ft : Value
def copyEs (P : Params) (t : CT) (rr kk : Addr) : List DictEntry :=
  [⟨PyData.keyHash P "box", .str "box" t.k0, .str "" t.v0⟩, ⟨PyData.keyHash P "validity", .str "validity" t.k1, .int 0 t.v1⟩, ⟨PyData.keyHash P "next_uid", .str "next_uid" t.k2, .int 0 t.v2⟩, ⟨PyData.keyHash P "top", .str "top" t.k3, .int 0 t.v3⟩,
   ⟨PyData.keyHash P "rows", .str "rows" t.k4, .ref rr⟩, ⟨PyData.keyHash P "kept", .str "kept" t.k5, .ref kk⟩, ⟨PyData.keyHash P "is_opening", .str "is_opening" t.k6, .bool false⟩, ⟨PyData.keyHash P "coming_top", .str "coming_top" t.k7, .int 0 t.v7⟩,
   ⟨PyData.keyHash P "is_readonly", .str "is_readonly" t.k8, .bool false⟩, ⟨PyData.keyHash P "flag_names", .str "flag_names" t.k9, t.ft⟩]
abbrev heldO (P : Params) (t : HT) (uid : Int) (fl : Value) : Obj := dictOf (heldEs P t uid fl) 3
abbrev copyO (P : Params) (t : CT) (rr kk : Addr) : Obj := dictOf (copyEs P t rr kk) 10
inductive HeldAll (P : Params) (T : Led) : List Value → List (Int × Str) → Prop
  | nil : HeldAll P T [] []
  | cons {h d f : Addr} {t : HT} {n tf : Nat} {uid : Int} {fl : Str} {vs : List Value} {rs : List (Int × Str)} : (h, instObj 175 d) ∈ T → (d, heldO P t uid (.ref f)) ∈ T → (f, tupO [.str fl tf] n) ∈ T → HeldAll P T vs rs → HeldAll P T (.ref h :: vs) ((uid, fl) :: rs)
section
variable {P : Params} {T T' : Led} {vs ws : List Value} {rs qs : List (Int × Str)}
theorem HeldAll.mono (h : HeldAll P T vs rs) (hs : ∀ p ∈ T, p ∈ T') : HeldAll P T' vs rs := by
  induction h with
  | nil => exact .nil
  | cons a b c _ ih => exact .cons (hs _ a) (hs _ b) (hs _ c) ih
theorem HeldAll.length (h : HeldAll P T vs rs) : vs.length = rs.length := by
  induction h with
  | nil => rfl
  | cons a b c _ ih => rw [List.length_cons, List.length_cons, ih]
theorem HeldAll.append (h : HeldAll P T vs rs) (k : HeldAll P T ws qs) : HeldAll P T (vs ++ ws) (rs ++ qs) := by
  induction h with
  | nil => exact k
  | cons a b c _ ih => exact .cons a b c ih
theorem HeldAll.get (h : HeldAll P T vs rs) {i : Nat} (hi : i < rs.length) : ∃ x d f t n tf, vs[i]? = some (.ref x) ∧ (x, instObj 175 d) ∈ T ∧ (d, heldO P t (rs[i]'hi).1 (.ref f)) ∈ T ∧ (f, tupO [.str (rs[i]'hi).2 tf] n) ∈ T := by
  induction h generalizing i with
  | nil => exact absurd hi (Nat.not_lt_zero _)
  | cons a b c _ ih =>
    cases i with
    | zero => exact ⟨_, _, _, _, _, _, rfl, a, b, c⟩
    | succ i => exact ih (Nat.lt_of_succ_lt_succ hi)
theorem HeldAll.take (h : HeldAll P T vs rs) (i : Nat) : HeldAll P T (vs.take i) (rs.take i) := by
  induction h generalizing i with
  | nil => rw [List.take_nil, List.take_nil]; exact .nil
  | cons a b c _ ih =>
    cases i with
    | zero => exact .nil
    | succ i => exact .cons a b c (ih i)
theorem HeldAll.drop (h : HeldAll P T vs rs) (i : Nat) : HeldAll P T (vs.drop i) (rs.drop i) := by
  induction h generalizing i with
  | nil => rw [List.drop_nil, List.drop_nil]; exact .nil
  | cons a b c r ih =>
    cases i with
    | zero => exact .cons a b c r
    | succ i => exact ih i
end
def RowsIn (P : Params) (T : Led) (rr : Addr) (rs : List (Int × Str)) : Prop := ∃ vs n, (rr, listOf vs.toArray n) ∈ T ∧ HeldAll P T vs rs
theorem RowsIn.mono {P : Params} {T T' : Led} {rr : Addr} {rs : List (Int × Str)} (h : RowsIn P T rr rs) (hs : ∀ p ∈ T, p ∈ T') : RowsIn P T' rr rs := by
  obtain ⟨vs, n, a, b⟩ := h
  exact ⟨vs, n, hs _ a, b.mono hs⟩
def KeptNil (w : World) (o : Obj) : Prop := o.IsDictOf (PySem.strKind prg w) []
/-- what a copy holds, its own dict apart -/
structure CopyIs (w : World) (T : Led) (c dc rr kk : Addr) (rs : List (Int × Str)) : Prop where
  inst : (c, instObj 225 dc) ∈ T
  rows : RowsIn w.params T rr rs
  kept : ∃ ok, (kk, ok) ∈ T ∧ KeptNil w ok
  plain : (kk == sysModules) = false
theorem CopyIs.mono {w : World} {T T' : Led} {c dc rr kk : Addr} {rs : List (Int × Str)} (h : CopyIs w T c dc rr kk rs) (hs : ∀ p ∈ T, p ∈ T') : CopyIs w T' c dc rr kk rs :=
  ⟨hs _ h.inst, h.rows.mono hs, h.kept.imp fun _ x => ⟨hs _ x.1, x.2⟩, h.plain⟩
end
section
def CCopy (K : Params → Frag) : Prop := ∀ (w : World) (fz : Led),
  Con K w 50 500 225 [] [] fz fun r mt' al => ∃ c dc t rr kk, mt' = [(dc, copyO w.params t rr kk)] ∧ r = .ref c ∧ CopyIs w al c dc rr kk [] ∧ ∀ p ∈ al, p.1 ≠ dc
theorem copy_fin {w : World} {ex fz : Led} {Q : Value → Shared → Prop} {s : Shared} {h₀ : Heap} {L : Addr} {m : Str → Option Value}
    (ret : ∀ r mt' T' h' tk', Fr h₀ L h' m → News h₀ L h' (mt' ++ (ex ++ T')) → Grow fz ([] ++ (ex ++ fz)) T' → (∀ p ∈ mt', p.1 ∈ ([] : Led).map (·.1) ∨ ∀ q ∈ [] ++ (ex ++ fz), p.1 ≠ q.1) →
      (∃ c dc t rr kk, mt' = [(dc, copyO w.params t rr kk)] ∧ r = .ref c ∧ CopyIs w T' c dc rr kk [] ∧ ∀ p ∈ T', p.1 ≠ dc) → Q r { s with heap := h', toks := tk' })
    {D d2 l x d1 : Addr} {o2 o3 : Obj} {t : CT} {h' : Heap} {tk' : Nat} (F : Fr h₀ L h' m) (N : News h₀ L h' ((D, o3) :: (d2, o2) :: (l, listOf #[] 0) :: (x, instObj 225 d1) :: (d1, copyO w.params t l d2) :: (ex ++ fz)))
    (l1 : ∀ p ∈ ex ++ fz, p.1 < d1) (l2 : @LT.lt Nat _ d1 x) (l3 : AllLt l ((x, instObj 225 d1) :: (d1, copyO w.params t l d2) :: (ex ++ fz))) (l4 : AllLt d2 ((l, listOf #[] 0) :: (x, instObj 225 d1) :: (d1, copyO w.params t l d2) :: (ex ++ fz)))
    (a1 : o2.IsDictOf (PySem.strKind prg w) []) (a5 : (d2 == sysModules) = false) : Q (.ref x) { s with heap := h', toks := tk' } := by
  have m3 := kst_ltOf l3
  have m4 := kst_ltOf l4
  have e1 : @LT.lt Nat _ d1 l := m3 (d1, copyO w.params t l d2) (.tail _ (.head _))
  have e2 : @LT.lt Nat _ d1 d2 := m4 (d1, copyO w.params t l d2) (.tail _ (.tail _ (.head _)))
  refine ret _ [(d1, copyO w.params t l d2)] ((x, instObj 225 d1) :: (l, listOf #[] 0) :: (d2, o2) :: fz) h' tk' F (fun p hp => N p ?_) (((Grow.refl.new fun q hq => ?_).new fun q hq => ?_).new fun q hq => ?_) (fun p hp => .inr fun q hq => ?_) ⟨x, d1, t, l, d2, rfl, rfl, ⟨.head _, ⟨[], 0, .tail _ (.head _), .nil⟩, ⟨o2, .tail _ (.tail _ (.head _)), a1⟩, a5⟩, ?_⟩
  · simp only [List.mem_cons, List.mem_append, List.not_mem_nil, or_false, false_or, List.cons_append, List.nil_append] at hp ⊢
    rcases hp with h | h | h | h | h | h <;> simp [h]
  · exact Nat.ne_of_gt (m4 q (.tail _ (.tail _ (.tail _ hq))))
  · exact Nat.ne_of_gt (m3 q (.tail _ (.tail _ hq)))
  · exact Nat.ne_of_gt (Nat.lt_trans (l1 q hq) l2)
  · rw [List.mem_singleton.mp hp]; exact Nat.ne_of_gt (l1 q hq)
  · intro p hp
    rcases List.mem_cons.mp hp with rfl | hp
    · exact Nat.ne_of_gt l2
    · rcases List.mem_cons.mp hp with rfl | hp
      · exact Nat.ne_of_gt e1
      · rcases List.mem_cons.mp hp with rfl | hp
        · exact Nat.ne_of_gt e2
        · exact Nat.ne_of_lt (l1 p (List.mem_append_right _ hp))
end
section
abbrev rowD (r : Int × Str) : Dat := .tuple [.int r.1, .tuple [.str r.2], .int 0]
abbrev rowsD (rs : List (Int × Str)) : List Dat := rs.map rowD
def CTold (K : Params → Frag) : Prop := ∀ (w : World) (fz : Led) (c dc rr kk : Addr) (t : CT) (rs : List (Int × Str)), CopyIs w fz c dc rr kk rs → rs.length ≤ 50 →
  Con K w 40 400 215 [.ref c] [(dc, copyO w.params t rr kk)] fz fun r mt' al => mt' = [(dc, copyO w.params t rr kk)] ∧ DatIn al r (.tuple [.str "", .int 0, .tuple (rowsD rs)])
end
section
def CUidsL (K : Params → Frag) : Prop := ∀ (w : World) (fz : Led) (c dc rr kk : Addr) (t : CT) (rs : List (Int × Str)), CopyIs w fz c dc rr kk rs → rs.length ≤ 50 →
  Con K w 40 400 198 [.ref c] [(dc, copyO w.params t rr kk)] fz fun r mt' al => mt' = [(dc, copyO w.params t rr kk)] ∧ DatIn al r (.list ((rs.map (·.1)).map Dat.int))
def CMissing (K : Params → Frag) : Prop := ∀ (w : World) (fz : Led) (c dc rr kk : Addr) (t : CT) (rs : List (Int × Str)), CopyIs w fz c dc rr kk rs → rs.length ≤ 50 → (∀ r ∈ rs, 0 < r.1) →
  Con K w 40 400 210 [.ref c] [(dc, copyO w.params t rr kk)] fz fun r mt' al => mt' = [(dc, copyO w.params t rr kk)] ∧ DatIn al r (.list [])
end
section
def CPlace (K : Params → Frag) : Prop := ∀ (w : World) (fz : Led) (c dc rr kk : Addr) (t : CT) (rs : List (Int × Str)) (k : Nat) (uid : Int) (tu : Nat), CopyIs w fz c dc rr kk rs → rs.length ≤ 50 →
  (∀ j (hj : j < rs.length), j < k → rs[j].1 < uid ∧ 0 < rs[j].1) → (∃ hk : k < rs.length, rs[k].1 = uid) → 0 < uid →
  Con K w 40 400 253 [.ref c, .int uid tu] [(dc, copyO w.params t rr kk)] fz fun r mt' al => mt' = [(dc, copyO w.params t rr kk)] ∧ ∃ tk, r = .int (k : Int) tk
end
section
def CDrop (K : Params → Frag) : Prop := ∀ (w : World) (fz : Led) (c dc rr kk : Addr) (t : CT) (rs : List (Int × Str)) (k : Nat) (uid : Int) (tu : Nat), CopyIs w fz c dc rr kk rs → rs.length ≤ 50 →
  (∀ j (hj : j < rs.length), j < k → rs[j].1 < uid ∧ 0 < rs[j].1) → (∃ hk : k < rs.length, rs[k].1 = uid) → 0 < uid →
  Con K w 50 500 267 [.ref c, .int uid tu] [(dc, copyO w.params t rr kk)] fz fun r mt' al => ∃ rr', mt' = [(dc, copyO w.params t rr' kk)] ∧ r = .none ∧ CopyIs w al c dc rr' kk (rs.take k ++ rs.drop (k + 1))
end
section
def CVan (K : Params → Frag) : Prop := ∀ (w : World) (fz : Led) (c dc rr kk : Addr) (t : CT) (rs : List (Int × Str)) (v : Value) (ps : List (Int × Int)) (ns : List Int), CopyIs w fz c dc rr kk rs → rs.length ≤ 50 → rs.Pairwise (fun a b => a.1 < b.1) → (∀ r ∈ rs, 0 < r.1 ∧ r.1 ≤ 1000000) →
  DatIn fz v (.tuple (pairsD ps)) → Sep ps → ps ≠ [] → ps.length ≤ 50 → numsOf ps = ns → ns.Pairwise (· < ·) → ns.Sublist (rs.map (·.1)) →
  Con K w 80 800 279 [.ref c, v, .bool false] [(dc, copyO w.params t rr kk)] fz fun r mt' al => ∃ rr', mt' = [(dc, copyO w.params t rr' kk)] ∧ r = .none ∧ CopyIs w al c dc rr' kk (without ns rs)
end
section
def CVanE (K : Params → Frag) : Prop := ∀ (w : World) (fz : Led) (c dc rr kk : Addr) (t : CT) (rs : List (Int × Str)) (v : Value), CopyIs w fz c dc rr kk rs →
  Con K w 80 800 279 [.ref c, v, .bool true] [(dc, copyO w.params t rr kk)] fz fun r mt' al => ∃ kk', mt' = [(dc, copyO w.params t rr kk')] ∧ r = .none ∧ CopyIs w al c dc rr kk' rs
end
section
def CRow (K : Params → Frag) : Prop := ∀ (w : World) (fz : Led) (c dc rr kk : Addr) (t : CT) (vs : List Value) (nv : Nat) (z : Int) (tn : Nat) (x : Value), (c, instObj 225 dc) ∈ fz → (rr, listOf vs.toArray nv) ∈ fz → vs.length ≤ 60 → 1 ≤ z → z ≤ (vs.length : Int) → vs[(z - 1).toNat]? = some x →
  Con K w 30 300 205 [.ref c, .int z tn] [(dc, copyO w.params t rr kk)] fz fun r mt' al => mt' = [(dc, copyO w.params t rr kk)] ∧ r = x
/-- a copy whose last letter is raw -/
structure RawIs (w : World) (T : Led) (c dc rr kk h dh : Addr) (rs : List (Int × Str)) : Prop where
  inst : (c, instObj 225 dc) ∈ T
  rows : ∃ vs n, (rr, listOf (vs ++ [Value.ref h]).toArray n) ∈ T ∧ HeldAll w.params T vs rs
  held : (h, instObj 175 dh) ∈ T
  kept : ∃ ok, (kk, ok) ∈ T ∧ KeptNil w ok
  plain : (kk == sysModules) = false
theorem cend_held {h₀ : Heap} {L : Addr} {m : Str → Option Value} {s₁ : Shared} {I C D x d : Addr} {oI oC oD : Obj} {rest : Value → Led → Prop} {T : Led} {h' : Heap} {tk : Nat} {P : Params} {t : HT} (F : Fr h₀ L h' m) (N : News h₀ L h' ((x, instObj 175 d) :: (d, heldO P t 0 .none) :: (I, oI) :: (C, oC) :: (D, oD) :: T))
    (l1 : AllLt d ((I, oI) :: (C, oC) :: (D, oD) :: T)) (l2 : @LT.lt Nat _ d x) (off : LCg.Off3 I C D T) (r : ∀ t' : HT, @LT.lt Nat _ d x → AllLt d T → rest (.ref x) ((x, instObj 175 d) :: (d, heldO P t' 0 .none) :: T)) : LCg.CompEnd h₀ L m s₁ I oI C oC D oD (fun _ => True) rest (.ref x) { s₁ with heap := h', toks := tk } := by
  have hl := kst_ltOf l1
  have e1 : @LT.lt Nat _ I d := hl _ (.head _)
  have e2 : @LT.lt Nat _ C d := hl _ (.tail _ (.head _))
  have e3 : @LT.lt Nat _ D d := hl _ (.tail _ (.tail _ (.head _)))
  refine LCg.CompEnd.intro F N _ (fun p hp => ?_) (LCg.Off3.of fun p hp => ?_) trivial (r t l2 l1.2.2.2)
  · simp only [List.mem_cons] at hp ⊢
    rcases hp with h | h | h | h | h | h <;> simp [h]
  · rcases List.mem_cons.mp hp with rfl | hp
    · exact ⟨Nat.ne_of_gt (Nat.lt_trans e1 l2), Nat.ne_of_gt (Nat.lt_trans e2 l2), Nat.ne_of_gt (Nat.lt_trans e3 l2)⟩
    · rcases List.mem_cons.mp hp with rfl | hp
      · exact ⟨Nat.ne_of_gt e1, Nat.ne_of_gt e2, Nat.ne_of_gt e3⟩
      · exact off.mem p hp
def CExists (K : Params → Frag) : Prop := ∀ (w : World) (fz : Led) (c dc rr kk : Addr) (t : CT) (rs : List (Int × Str)) (z : Int) (tn : Nat), CopyIs w fz c dc rr kk rs → rs.length ≤ 50 → z = (rs.length : Int) + 1 →
  Con K w 60 600 234 [.ref c, .int z tn] [(dc, copyO w.params t rr kk)] fz fun r mt' al => ∃ rr' h dh ht, mt' = [(dc, copyO w.params t rr' kk), (dh, heldO w.params ht 0 .none)] ∧ r = .none ∧ RawIs w al c dc rr' kk h dh rs ∧ (∀ p ∈ al, p.1 ≠ dh) ∧ dh ≠ dc
end
section
def CCheck (K : Params → Frag) : Prop := ∀ (w : World) (fz : Led) (c dc rr kk h dh : Addr) (t : CT) (ht : HT) (rs : List (Int × Str)) (z u : Int) (tn tu : Nat), RawIs w fz c dc rr kk h dh rs → rs.length ≤ 50 → z = (rs.length : Int) + 1 → (∀ r ∈ rs, 0 < r.1 ∧ r.1 < u) → 0 < u → dh ≠ dc →
  Con K w 40 400 241 [.ref c, .int z tn, .int u tu] [(dc, copyO w.params t rr kk), (dh, heldO w.params ht 0 .none)] fz fun r mt' al => mt' = [(dc, copyO w.params t rr kk), (dh, heldO w.params ht 0 .none)] ∧ r = .none
end
section
theorem off_cons {a d : Addr × Obj} {l : Led} (h : a.1 ≠ d.1) (ho : ∀ p ∈ l, ∀ q ∈ [d], p.1 ≠ q.1) : ∀ p ∈ a :: l, ∀ q ∈ [d], p.1 ≠ q.1 := fun p hp q hq => by
  rcases List.mem_cons.mp hp with rfl | hp
  · rw [List.mem_singleton.mp hq]; exact h
  · exact ho p hp q hq
theorem off_grow {ms al fz T ex : Led} (g : Grow fz al T) (ho : ∀ p ∈ ex ++ fz, ∀ q ∈ ms, p.1 ≠ q.1) (hm : ∀ q ∈ ms, q ∈ al) : ∀ p ∈ ex ++ T, ∀ q ∈ ms, p.1 ≠ q.1 := fun p hp q hq => by
  rcases List.mem_append.mp hp with hp | hp
  · exact ho p (List.mem_append_left _ hp) q hq
  · rcases g.2 p hp with hp | hn
    · exact ho p (List.mem_append_right _ hp) q hq
    · exact hn _ (hm q hq)
theorem off_cons2 {a d e : Addr × Obj} {l : Led} (h : a.1 ≠ d.1) (h2 : a.1 ≠ e.1) (ho : ∀ p ∈ l, ∀ q ∈ [d, e], p.1 ≠ q.1) : ∀ p ∈ a :: l, ∀ q ∈ [d, e], p.1 ≠ q.1 := fun p hp q hq => by
  rcases List.mem_cons.mp hp with rfl | hp
  · rcases List.mem_cons.mp hq with rfl | hq
    · exact h
    · rw [List.mem_singleton.mp hq]; exact h2
  · exact ho p hp q hq
theorem off_fst {a b : Addr × Obj} {l : Led} (ho : ∀ p ∈ l, ∀ q ∈ [a, b], p.1 ≠ q.1) : ∀ p ∈ l, ∀ q ∈ [a], p.1 ≠ q.1 := fun p hp q hq => ho p hp q (by rw [List.mem_singleton.mp hq]; exact .head _)
theorem off_snd {a b : Addr × Obj} {l : Led} (ho : ∀ p ∈ l, ∀ q ∈ [a, b], p.1 ≠ q.1) : ∀ p ∈ l, ∀ q ∈ [b], p.1 ≠ q.1 := fun p hp q hq => ho p hp q (by rw [List.mem_singleton.mp hq]; exact .tail _ (.head _))
theorem RawIs.mono {w : World} {T T' : Led} {c dc rr kk h dh : Addr} {rs : List (Int × Str)} (x : RawIs w T c dc rr kk h dh rs) (hs : ∀ p ∈ T, p ∈ T') : RawIs w T' c dc rr kk h dh rs :=
  ⟨hs _ x.inst, x.rows.imp fun vs y => y.imp fun n z => ⟨hs _ z.1, z.2.mono hs⟩, hs _ x.held, x.kept.imp fun _ y => ⟨hs _ y.1, y.2⟩, x.plain⟩
structure PairsIs (P : Params) (T : Led) (v : Value) (u : Int) (flag : Str) (tu : Nat) (x p1 p2 fl a da : Addr) (t1 t2 t3 t4 n0 n1 n2 n3 : Nat) : Prop where
  v : v = .ref x
  top : (x, tupO [.ref p1, .ref p2] n0) ∈ T
  p1 : (p1, tupO [.str "UID" t1, .int u tu] n1) ∈ T
  p2 : (p2, tupO [.str "FLAGS" t2, .ref fl] n2) ∈ T
  fl : (fl, listOf #[.ref a] n3) ∈ T
  a : (a, instObj 139 da) ∈ T
  da : (da, dictOf [⟨PyData.keyHash P "text", .str "text" t3, .str flag t4⟩] 1) ∈ T
theorem PairsIs.mono {P : Params} {T T' : Led} {v : Value} {u : Int} {flag : Str} {tu : Nat} {x p1 p2 fl a da : Addr} {t1 t2 t3 t4 n0 n1 n2 n3 : Nat} (h : PairsIs P T v u flag tu x p1 p2 fl a da t1 t2 t3 t4 n0 n1 n2 n3) (hs : ∀ p ∈ T, p ∈ T') : PairsIs P T' v u flag tu x p1 p2 fl a da t1 t2 t3 t4 n0 n1 n2 n3 :=
  ⟨h.v, hs _ h.top, hs _ h.p1, hs _ h.p2, hs _ h.fl, hs _ h.a, hs _ h.da⟩
def CFetch (K : Params → Frag) : Prop := ∀ (w : World) (fz : Led) (c dc rr kk h dh : Addr) (t : CT) (ht : HT) (rs : List (Int × Str)) (z u : Int) (tn : Nat) (v : Value) (flag : Str) (tu : Nat) (x p1 p2 fl a da : Addr) (t1 t2 t3 t4 n0 n1 n2 n3 : Nat), RawIs w fz c dc rr kk h dh rs → rs.length ≤ 50 → z = (rs.length : Int) + 1 → (∀ r ∈ rs, 0 < r.1 ∧ r.1 < u) → 0 < u → dh ≠ dc →
  PairsIs w.params fz v u flag tu x p1 p2 fl a da t1 t2 t3 t4 n0 n1 n2 n3 →
  Con K w 60 700 246 [.ref c, .int z tn, v] [(dc, copyO w.params t rr kk), (dh, heldO w.params ht 0 .none)] fz fun r mt' al => ∃ ht' f tf nf, mt' = [(dc, copyO w.params t rr kk), (dh, heldO w.params ht' u (.ref f))] ∧ r = .none ∧ (f, tupO [.str flag tf] nf) ∈ al
theorem fetch_fin {w : World} {ex fz T3 : Led} {Q : Value → Shared → Prop} {s : Shared} {h₀ : Heap} {L dc dh rr kk : Addr} {m : Str → Option Value} {t : CT} {ht ht' : HT} {u : Int} {flag : Str}
    (ret : ∀ r mt' T' h' tk', Fr h₀ L h' m → News h₀ L h' (mt' ++ (ex ++ T')) → Grow fz ([(dc, copyO w.params t rr kk), (dh, heldO w.params ht 0 .none)] ++ (ex ++ fz)) T' → (∀ p ∈ mt', p.1 ∈ ([(dc, copyO w.params t rr kk), (dh, heldO w.params ht 0 .none)] : Led).map (·.1) ∨ ∀ q ∈ [(dc, copyO w.params t rr kk), (dh, heldO w.params ht 0 .none)] ++ (ex ++ fz), p.1 ≠ q.1) →
      (∃ ht' f tf nf, mt' = [(dc, copyO w.params t rr kk), (dh, heldO w.params ht' u (.ref f))] ∧ r = .none ∧ (f, tupO [.str flag tf] nf) ∈ T') → Q r { s with heap := h', toks := tk' })
    {D : Addr} {t6 : Nat} {x4 x3 x2 : Addr × Obj} {h' : Heap} {tk' : Nat} (F : Fr h₀ L h' m) (N : News h₀ L h' ((D, tupO [.str flag t6] 0) :: x4 :: x3 :: (dc, copyO w.params t rr kk) :: (dh, heldO w.params ht' u (.ref D)) :: x2 :: (ex ++ T3)))
    (l1 : AllLt D (x4 :: x3 :: (dc, copyO w.params t rr kk) :: (dh, heldO w.params ht' u (.ref D)) :: x2 :: (ex ++ T3))) (g : Grow fz ((dc, copyO w.params t rr kk) :: (dh, heldO w.params ht 0 .none) :: (ex ++ fz)) T3) : Q .none { s with heap := h', toks := tk' } := by
  have m1 := kst_ltOf l1
  refine con_ret ret [(dc, copyO w.params t rr kk), (dh, heldO w.params ht' u (.ref D))] ((D, tupO [.str flag t6] 0) :: T3) F N rfl (sub_in (.tail _ (.tail _ (.tail _ (.head _)))) (sub_in (.tail _ (.tail _ (.tail _ (.tail _ (.head _))))) (sub_mid (.head _) (sub_skip (sub_skip (sub_skip (sub_skip (sub_skip (sub_skip sub_id))))))))) (g.new fun q hq => ?_) ⟨ht', D, t6, 0, rfl, rfl, .head _⟩
  rcases List.mem_cons.mp hq with rfl | hq
  · exact Nat.ne_of_gt (m1 (dc, copyO w.params t rr kk) (.tail _ (.tail _ (.head _))))
  · rcases List.mem_cons.mp hq with rfl | hq
    · exact Nat.ne_of_gt (m1 (dh, heldO w.params ht' u (.ref D)) (.tail _ (.tail _ (.tail _ (.head _)))))
    · exact Nat.ne_of_gt (m1 q (.tail _ (.tail _ (.tail _ (.tail _ (.tail _ (sub_app g.1 q hq)))))))
end
section
def CTakeE (K : Params → Frag) : Prop := ∀ (w : World) (fz : Led) (c dc rr kk : Addr) (t : CT) (rs : List (Int × Str)) (z : Int) (tn : Nat) (an : Addr) (ta na : Nat), CopyIs w fz c dc rr kk rs → rs.length ≤ 50 → z = (rs.length : Int) + 1 → (an, tupO [.str "exists" ta, .int z tn] na) ∈ fz →
  Con K w 100 1000 222 [.ref c, .ref an] [(dc, copyO w.params t rr kk)] fz fun r mt' al => ∃ rr' h dh ht, mt' = [(dc, copyO w.params t rr' kk), (dh, heldO w.params ht 0 .none)] ∧ r = .none ∧ RawIs w al c dc rr' kk h dh rs ∧ (∀ p ∈ al, p.1 ≠ dh) ∧ dh ≠ dc
def CTakeF (K : Params → Frag) : Prop := ∀ (w : World) (fz : Led) (c dc rr kk h dh : Addr) (t : CT) (ht : HT) (rs : List (Int × Str)) (z u : Int) (tn : Nat) (v : Value) (flag : Str) (tu : Nat) (x p1 p2 fl a da : Addr) (t1 t2 t3 t4 n0 n1 n2 n3 : Nat) (an : Addr) (ta na : Nat), RawIs w fz c dc rr kk h dh rs → rs.length ≤ 50 → z = (rs.length : Int) + 1 → (∀ r ∈ rs, 0 < r.1 ∧ r.1 < u) → 0 < u → dh ≠ dc →
  PairsIs w.params fz v u flag tu x p1 p2 fl a da t1 t2 t3 t4 n0 n1 n2 n3 → (an, tupO [.str "fetch" ta, .int z tn, v] na) ∈ fz →
  Con K w 100 1000 222 [.ref c, .ref an] [(dc, copyO w.params t rr kk), (dh, heldO w.params ht 0 .none)] fz fun r mt' al => ∃ ht' f tf nf, mt' = [(dc, copyO w.params t rr kk), (dh, heldO w.params ht' u (.ref f))] ∧ r = .none ∧ (f, tupO [.str flag tf] nf) ∈ al
def CTakeW (K : Params → Frag) : Prop := ∀ (w : World) (fz : Led) (c dc rr kk : Addr) (t : CT) (rs : List (Int × Str)) (v : Value) (an : Addr) (ta na : Nat), CopyIs w fz c dc rr kk rs → (an, tupO [.str "vanished" ta, v, .bool true] na) ∈ fz →
  Con K w 120 1200 222 [.ref c, .ref an] [(dc, copyO w.params t rr kk)] fz fun r mt' al => ∃ kk', mt' = [(dc, copyO w.params t rr kk')] ∧ r = .none ∧ CopyIs w al c dc rr kk' rs
def CTakeV (K : Params → Frag) : Prop := ∀ (w : World) (fz : Led) (c dc rr kk : Addr) (t : CT) (rs : List (Int × Str)) (v : Value) (ps : List (Int × Int)) (ns : List Int) (an : Addr) (ta na : Nat), CopyIs w fz c dc rr kk rs → rs.length ≤ 50 → rs.Pairwise (fun a b => a.1 < b.1) → (∀ r ∈ rs, 0 < r.1 ∧ r.1 ≤ 1000000) →
  DatIn fz v (.tuple (pairsD ps)) → Sep ps → ps ≠ [] → ps.length ≤ 50 → numsOf ps = ns → ns.Pairwise (· < ·) → ns.Sublist (rs.map (·.1)) → (an, tupO [.str "vanished" ta, v, .bool false] na) ∈ fz →
  Con K w 120 1200 222 [.ref c, .ref an] [(dc, copyO w.params t rr kk)] fz fun r mt' al => ∃ rr', mt' = [(dc, copyO w.params t rr' kk)] ∧ r = .none ∧ CopyIs w al c dc rr' kk (without ns rs)
end
section
def CTakeX (K : Params → Frag) : Prop := ∀ (w : World) (fz : Led) (c dc rr kk : Addr) (t : CT) (rs : List (Int × Str)) (z : Int) (k : Nat) (tn : Nat) (an : Addr) (ta na : Nat), CopyIs w fz c dc rr kk rs → rs.length ≤ 50 → z = (k : Int) + 1 → k < rs.length → (an, tupO [.str "expunge" ta, .int z tn] na) ∈ fz →
  Con K w 100 1000 222 [.ref c, .ref an] [(dc, copyO w.params t rr kk)] fz fun r mt' al => ∃ rr', mt' = [(dc, copyO w.params t rr' kk)] ∧ r = .none ∧ CopyIs w al c dc rr' kk (rs.take k ++ rs.drop (k + 1))
end
section
theorem come_sub {a b c d e : Addr × Obj} {ex fz f2 : Led} (h : f2 = a :: b :: fz) : ∀ p ∈ [c, d, e] ++ (ex ++ f2), p ∈ a :: b :: c :: d :: e :: (ex ++ fz) := by
  subst h
  exact sub_in (.tail _ (.tail _ (.head _))) (sub_in (.tail _ (.tail _ (.tail _ (.head _)))) (sub_in (.tail _ (.tail _ (.tail _ (.tail _ (.head _))))) (sub_mid (.head _) (sub_mid (.tail _ (.head _)) (sub_skip (sub_skip (sub_skip (sub_skip (sub_skip sub_id)))))))))
theorem off_mid {a : Addr × Obj} {l T ms : Led} (h : ∀ q ∈ ms, a.1 ≠ q.1) (ho : ∀ p ∈ l ++ T, ∀ q ∈ ms, p.1 ≠ q.1) : ∀ p ∈ l ++ (a :: T), ∀ q ∈ ms, p.1 ≠ q.1 := fun p hp q hq => by
  rcases List.mem_append.mp hp with hp | hp
  · exact ho p (List.mem_append_left _ hp) q hq
  · rcases List.mem_cons.mp hp with rfl | hp
    · exact h q hq
    · exact ho p (List.mem_append_right _ hp) q hq
theorem off_in {a : Addr × Obj} {l ms : Led} (h : ∀ q ∈ ms, a.1 ≠ q.1) (ho : ∀ p ∈ l, ∀ q ∈ ms, p.1 ≠ q.1) : ∀ p ∈ a :: l, ∀ q ∈ ms, p.1 ≠ q.1 := fun p hp q hq => by
  rcases List.mem_cons.mp hp with rfl | hp
  · exact h q hq
  · exact ho p hp q hq
theorem off_pre {S l T ms : Led} (h : ∀ p ∈ S, ∀ q ∈ ms, p.1 ≠ q.1) (ho : ∀ p ∈ l ++ T, ∀ q ∈ ms, p.1 ≠ q.1) : ∀ p ∈ l ++ (S ++ T), ∀ q ∈ ms, p.1 ≠ q.1 := fun p hp q hq => by
  rcases List.mem_append.mp hp with hp | hp
  · exact ho p (List.mem_append_left _ hp) q hq
  · rcases List.mem_append.mp hp with hp | hp
    · exact h p hp q hq
    · exact ho p (List.mem_append_right _ hp) q hq
theorem two_ne {x : Addr} {d e : Addr × Obj} (h : @Ne Nat x d.1) (h2 : @Ne Nat x e.1) : ∀ q ∈ [d, e], x ≠ q.1 := fun q hq => by
  rcases List.mem_cons.mp hq with rfl | hq
  · exact h
  · rw [List.mem_singleton.mp hq]; exact h2
theorem one_ne {x : Addr} {d : Addr × Obj} (h : @Ne Nat x d.1) : ∀ q ∈ [d], x ≠ q.1 := fun q hq => by rw [List.mem_singleton.mp hq]; exact h
theorem k9a {x i l a b : Addr × Obj} {ex T : Led} : ∀ p ∈ [a] ++ ((i :: l :: b :: ex) ++ (x :: T)), p ∈ x :: i :: l :: a :: b :: (ex ++ T) := by
  have h : ∀ p ∈ ex ++ T, p ∈ x :: i :: l :: a :: b :: (ex ++ T) := sub_skip (sub_skip (sub_skip (sub_skip (sub_skip sub_id))))
  exact sub_in (.tail _ (.tail _ (.tail _ (.head _)))) (sub_in (.tail _ (.head _)) (sub_in (.tail _ (.tail _ (.head _))) (sub_in (.tail _ (.tail _ (.tail _ (.tail _ (.head _))))) (sub_mid (.head _) h))))
theorem k9b {x i l a b : Addr × Obj} {ex T : Led} : ∀ p ∈ [b] ++ ((i :: l :: a :: ex) ++ (x :: T)), p ∈ x :: i :: l :: a :: b :: (ex ++ T) := by
  have h : ∀ p ∈ ex ++ T, p ∈ x :: i :: l :: a :: b :: (ex ++ T) := sub_skip (sub_skip (sub_skip (sub_skip (sub_skip sub_id))))
  exact sub_in (.tail _ (.tail _ (.tail _ (.tail _ (.head _))))) (sub_in (.tail _ (.head _)) (sub_in (.tail _ (.tail _ (.head _))) (sub_in (.tail _ (.tail _ (.tail _ (.head _)))) (sub_mid (.head _) h))))
theorem k9c {a d i l b : Addr × Obj} {ex S T : Led} : ∀ p ∈ [a, d] ++ ((i :: l :: b :: ex) ++ (S ++ T)), p ∈ S ++ (a :: d :: i :: l :: b :: (ex ++ T)) := fun p hp => by
  simp only [List.mem_append, List.mem_cons, List.not_mem_nil, or_false] at hp ⊢
  rcases hp with (h | h) | (h | h | h | h) | h | h <;> simp [h]
theorem lend0 {a d i l b : Addr × Obj} {ex T : Led} : ∀ p ∈ i :: ([l, a, b] ++ (ex ++ (d :: T))), p ∈ a :: d :: i :: l :: b :: (ex ++ T) := fun p hp => by
  simp only [List.mem_append, List.mem_cons, List.not_mem_nil, or_false] at hp ⊢
  rcases hp with h | (h | h | h) | h | h | h <;> simp [h]
theorem lend1 {a d i l b : Addr × Obj} {ex T : Led} : ∀ p ∈ i :: ([l, b, a] ++ (ex ++ (d :: T))), p ∈ a :: d :: i :: l :: b :: (ex ++ T) := fun p hp => by
  simp only [List.mem_append, List.mem_cons, List.not_mem_nil, or_false] at hp ⊢
  rcases hp with h | (h | h | h) | h | h | h <;> simp [h]
theorem come_grow {T1 T2 T3 ex S7 al : Led} {i l a a' b A1 dh dh' : Addr × Obj} (hal : ∀ q ∈ al, q = i ∨ q = l ∨ q = a ∨ q = b ∨ q ∈ ex ++ T1) (ha : a'.1 = a.1) (hA1 : ∀ q ∈ al, @LT.lt Nat _ q.1 A1.1) (G4 : Grow (A1 :: T1) ([a] ++ ((i :: l :: b :: ex) ++ (A1 :: T1))) T2)
    (hS : ∀ p ∈ S7, ∀ q ∈ a' :: dh :: i :: l :: b :: (ex ++ T2), @LT.lt Nat _ q.1 p.1) (G6 : Grow (S7 ++ T2) ([a', dh] ++ ((i :: l :: b :: ex) ++ (S7 ++ T2))) T3) (hdh : ∀ q ∈ [a] ++ ((i :: l :: b :: ex) ++ (A1 :: T1)), dh'.1 ≠ q.1) : Grow T1 al (dh' :: T3) := by
  have sub1 : ∀ q ∈ al, q ∈ [a] ++ ((i :: l :: b :: ex) ++ (A1 :: T1)) := fun q hq => by
    have h := hal q hq
    simp only [List.mem_append, List.mem_cons, List.not_mem_nil, or_false] at h ⊢
    rcases h with h | h | h | h | h | h <;> simp [h]
  have G1 : Grow T1 al (A1 :: T1) := Grow.refl.new (x := A1.1) (o := A1.2) fun q hq => Nat.ne_of_gt (hA1 q hq)
  have G2 : Grow T1 al T2 := G1.of G4 fun q hq => ⟨q, sub1 q hq, rfl⟩
  have adr : ∀ q ∈ al, ∃ q' ∈ a' :: dh :: i :: l :: b :: (ex ++ T2), q'.1 = q.1 := fun q hq => by
    rcases hal q hq with rfl | rfl | rfl | rfl | h
    · exact ⟨_, .tail _ (.tail _ (.head _)), rfl⟩
    · exact ⟨_, .tail _ (.tail _ (.tail _ (.head _))), rfl⟩
    · exact ⟨_, .head _, ha⟩
    · exact ⟨_, .tail _ (.tail _ (.tail _ (.tail _ (.head _)))), rfl⟩
    · exact ⟨q, .tail _ (.tail _ (.tail _ (.tail _ (.tail _ (sub_app G2.1 q h))))), rfl⟩
  have G3 : Grow T1 al (S7 ++ T2) := ⟨fun p hp => List.mem_append_right _ (G2.1 p hp), fun p hp => by
    rcases List.mem_append.mp hp with hp | hp
    · refine .inr fun q hq => ?_
      obtain ⟨q', hq', e⟩ := adr q hq
      rw [← e]
      exact Nat.ne_of_gt (hS p hp q' hq')
    · exact G2.2 p hp⟩
  have G5 : Grow T1 al T3 := G3.of G6 fun q hq => by
    obtain ⟨q', hq', e⟩ := adr q hq
    refine ⟨q', ?_, e⟩
    simp only [List.mem_append, List.mem_cons, List.not_mem_nil, or_false] at hq' ⊢
    rcases hq' with h | h | h | h | h | h | h <;> simp [h]
  exact G5.new (x := dh'.1) (o := dh'.2) fun q hq => hdh q (sub1 q hq)
theorem RawIs.done {w : World} {T T' : Led} {c dc rr kk h dh f : Addr} {ht : HT} {u : Int} {flag : Str} {tf nf : Nat} {rs : List (Int × Str)} (x : RawIs w T c dc rr kk h dh rs) (hs : ∀ p ∈ T, p ∈ T') (hd : (dh, heldO w.params ht u (.ref f)) ∈ T') (hf : (f, tupO [.str flag tf] nf) ∈ T') : CopyIs w T' c dc rr kk (rs ++ [(u, flag)]) := by
  obtain ⟨vs, n, h1, h2⟩ := x.rows
  exact ⟨hs _ x.inst, ⟨_, n, hs _ h1, (h2.mono hs).append (.cons (hs _ x.held) hd hf .nil)⟩, x.kept.imp fun _ y => ⟨hs _ y.1, y.2⟩, x.plain⟩
theorem seven {h₀ h : Heap} {L an x p2 fl a da p1 : Addr} {P : Params} {ta tn t1 t2 t3 t4 tu : Nat} {z u : Int} {flag : Str} {l : Led} (N : News h₀ L h ((an, tupO [.str "fetch" ta, .int z tn, .ref x] 0) :: (x, tupO [.ref p1, .ref p2] 0) :: (p2, tupO [.str "FLAGS" t2, .ref fl] 0) :: (fl, listOf #[.ref a] 0) :: (a, instObj 139 da) :: (da, dictOf [⟨PyData.keyHash P "text", .str "text" t3, .str flag t4⟩] 1) :: (p1, tupO [.str "UID" t1, .int u tu] 0) :: l))
    (h1 : AllLt an ((x, tupO [.ref p1, .ref p2] 0) :: (p2, tupO [.str "FLAGS" t2, .ref fl] 0) :: (fl, listOf #[.ref a] 0) :: (a, instObj 139 da) :: (da, dictOf [⟨PyData.keyHash P "text", .str "text" t3, .str flag t4⟩] 1) :: (p1, tupO [.str "UID" t1, .int u tu] 0) :: l))
    (h2 : AllLt x ((p2, tupO [.str "FLAGS" t2, .ref fl] 0) :: (fl, listOf #[.ref a] 0) :: (a, instObj 139 da) :: (da, dictOf [⟨PyData.keyHash P "text", .str "text" t3, .str flag t4⟩] 1) :: (p1, tupO [.str "UID" t1, .int u tu] 0) :: l))
    (h3 : AllLt p2 ((fl, listOf #[.ref a] 0) :: (a, instObj 139 da) :: (da, dictOf [⟨PyData.keyHash P "text", .str "text" t3, .str flag t4⟩] 1) :: (p1, tupO [.str "UID" t1, .int u tu] 0) :: l))
    (h4 : AllLt fl ((a, instObj 139 da) :: (da, dictOf [⟨PyData.keyHash P "text", .str "text" t3, .str flag t4⟩] 1) :: (p1, tupO [.str "UID" t1, .int u tu] 0) :: l))
    (h5 : @LT.lt Nat _ da a) (h6 : AllLt da ((p1, tupO [.str "UID" t1, .int u tu] 0) :: l)) (h7 : AllLt p1 l) :
    ∃ S7 t1 t2 t3 t4 ta, News h₀ L h (S7 ++ l) ∧ (∀ T, PairsIs P (S7 ++ T) (.ref x) u flag tu x p1 p2 fl a da t1 t2 t3 t4 0 0 0 0) ∧ (∀ T, (an, tupO [.str "fetch" ta, .int z tn, .ref x] 0) ∈ S7 ++ T) ∧ ∀ p ∈ S7, ∀ q ∈ l, @LT.lt Nat _ q.1 p.1 := by
  refine ⟨[(an, tupO [.str "fetch" ta, .int z tn, .ref x] 0), (x, tupO [.ref p1, .ref p2] 0), (p2, tupO [.str "FLAGS" t2, .ref fl] 0), (fl, listOf #[.ref a] 0), (a, instObj 139 da), (da, dictOf [⟨PyData.keyHash P "text", .str "text" t3, .str flag t4⟩] 1), (p1, tupO [.str "UID" t1, .int u tu] 0)], t1, t2, t3, t4, ta, N, fun T => ⟨rfl, .tail _ (.head _), .tail _ (.tail _ (.tail _ (.tail _ (.tail _ (.tail _ (.head _)))))), .tail _ (.tail _ (.head _)), .tail _ (.tail _ (.tail _ (.head _))), .tail _ (.tail _ (.tail _ (.tail _ (.head _)))), .tail _ (.tail _ (.tail _ (.tail _ (.tail _ (.head _)))))⟩, fun T => .head _, fun p hp q hq => ?_⟩
  have e1 := kst_ltOf h1 q (.tail _ (.tail _ (.tail _ (.tail _ (.tail _ (.tail _ hq))))))
  have e2 := kst_ltOf h2 q (.tail _ (.tail _ (.tail _ (.tail _ (.tail _ hq)))))
  have e3 := kst_ltOf h3 q (.tail _ (.tail _ (.tail _ (.tail _ hq))))
  have e4 := kst_ltOf h4 q (.tail _ (.tail _ (.tail _ hq)))
  have e6 := kst_ltOf h6 q (.tail _ hq)
  have e5 : @LT.lt Nat _ q.1 a := Nat.lt_trans e6 h5
  have e7 := kst_ltOf h7 q hq
  rcases List.mem_cons.mp hp with rfl | hp
  · exact e1
  rcases List.mem_cons.mp hp with rfl | hp
  · exact e2
  rcases List.mem_cons.mp hp with rfl | hp
  · exact e3
  rcases List.mem_cons.mp hp with rfl | hp
  · exact e4
  rcases List.mem_cons.mp hp with rfl | hp
  · exact e5
  rcases List.mem_cons.mp hp with rfl | hp
  · exact e6
  rw [List.mem_singleton.mp hp]
  exact e7
end
section
def CCome (K : Params → Frag) : Prop := ∀ (w : World) (fz : Led) (c1 dc1 r1 kk1 c2 dc2 r2 kk2 lc lr : Addr) (t1 t2 : CT) (rs : List (Int × Str)) (vs : List Value) (nr nc : Nat) (u : Int) (tu : Nat) (flag : Str) (tf : Nat), CopyIs w fz c1 dc1 r1 kk1 rs → CopyIs w fz c2 dc2 r2 kk2 rs → rs.length ≤ 40 → DatAll fz vs (rowsD rs) →
  (lc, listOf #[.ref c1, .ref c2] nc) ∈ fz → (∀ r ∈ rs, 0 < r.1 ∧ r.1 < u) → 0 < u → @Ne Nat lr dc1 → @Ne Nat lr dc2 → @Ne Nat dc1 dc2 →
  Con K w 140 1500 321 [.ref lc, .ref lr, .int u tu, .str flag tf] [(lr, listOf vs.toArray nr), (dc1, copyO w.params t1 r1 kk1), (dc2, copyO w.params t2 r2 kk2)] fz fun r mt' al => ∃ r1' r2' vs' nr', mt' = [(lr, listOf vs'.toArray nr'), (dc1, copyO w.params t1 r1' kk1), (dc2, copyO w.params t2 r2' kk2)] ∧ r = .none ∧ DatAll al vs' (rowsD (rs ++ [(u, flag)])) ∧ CopyIs w al c1 dc1 r1' kk1 (rs ++ [(u, flag)]) ∧ CopyIs w al c2 dc2 r2' kk2 (rs ++ [(u, flag)])
end
section
section
variable {prog : Program} {w : World} {A : Around} {E : Value → Shared → Prop} {s : Shared} {h₀ : Heap} {L : Addr} {news : Led} {v1 v2 : Value} {d : Dat} {Q : Value → Shared → Prop}
theorem dat_shaped (hk : kqdOk 8 d = true) : SeqAt.shaped (kqdP d) = true := by
  have l := kqd_lay 8 d hk
  unfold SeqAt.shaped
  rw [l.1, Bool.true_and]
  exact decide_eq_true (Nat.le_trans l.2 (by decide))
theorem ne_same (N : News h₀ L s.heap news) (D1 : DatIn news v1 d) (D2 : DatIn news v2 d) (hk : kqdOk 8 d = true) (hu : A.units + 64 < cLine) (h : Q (.bool false) s) : wpAny (model prog w) A (compareOp .NotEq v1 v2) Q E s := by
  obtain ⟨as, ra⟩ := kqd_in N 8 D1 hk
  obtain ⟨bs, rb⟩ := kqd_in N 8 D2 hk
  have e : PyData.eqv (kqdP d) (kqdP d) = true := (kqd_eqv 8 d d 8 hk hk).mpr rfl
  exact ne_dataH ra rb (dat_shaped hk) (dat_shaped hk) hu (by rw [e]; exact h)
theorem eq_same (N : News h₀ L s.heap news) (D1 : DatIn news v1 d) (D2 : DatIn news v2 d) (hk : kqdOk 8 d = true) (hu : A.units + 64 < cLine) (h : Q (.bool true) s) : wpAny (model prog w) A (compareOp .Eq v1 v2) Q E s := by
  obtain ⟨as, ra⟩ := kqd_in N 8 D1 hk
  obtain ⟨bs, rb⟩ := kqd_in N 8 D2 hk
  have e : PyData.eqv (kqdP d) (kqdP d) = true := (kqd_eqv 8 d d 8 hk hk).mpr rfl
  exact eq_dataH ra rb (dat_shaped hk) (dat_shaped hk) hu (by rw [e]; exact h)
end
def isGone (gs : List Int) (rs : List (Int × Str)) (k : Nat) : Bool := (rs[k]?.map fun r => decide (r.1 ∈ gs)).getD false
def poss (gs : List Int) (rs : List (Int × Str)) (n : Nat) : List Nat := (List.range n).filter (isGone gs rs)
section
variable {gs : List Int} {rs : List (Int × Str)}
theorem poss_succ (b : Nat) : poss gs rs (b + 1) = poss gs rs b ++ if isGone gs rs b = true then [b] else [] := by
  unfold poss
  rw [List.range_succ, List.filter_append]
  congr 1
  cases h : isGone gs rs b <;> simp [List.filter, h]
theorem poss_pre (b d : Nat) : ∃ t, poss gs rs (b + d) = poss gs rs b ++ t := by
  induction d with
  | zero => exact ⟨[], by simp⟩
  | succ d ih =>
    obtain ⟨t, e⟩ := ih
    exact ⟨t ++ if isGone gs rs (b + d) = true then [b + d] else [], by rw [← Nat.add_assoc, poss_succ, e, List.append_assoc]⟩
theorem poss_mono {b c : Nat} (h : b ≤ c) : (poss gs rs b).length ≤ (poss gs rs c).length := by
  obtain ⟨t, e⟩ := poss_pre (gs := gs) (rs := rs) b (c - b)
  rw [Nat.add_sub_cancel' h] at e
  rw [e, List.length_append]
  omega
theorem poss_pw (n : Nat) : (poss gs rs n).Pairwise (· < ·) := List.Pairwise.filter _ List.pairwise_lt_range
theorem poss_at {n j p : Nat} (h : (poss gs rs n)[j]? = some p) : p < n ∧ isGone gs rs p = true ∧ (poss gs rs p).length = j := by
  have hm := List.mem_of_getElem? h
  obtain ⟨h1, h2⟩ := List.mem_filter.mp hm
  have hp : p < n := List.mem_range.mp h1
  refine ⟨hp, h2, ?_⟩
  obtain ⟨t, e⟩ := poss_pre (gs := gs) (rs := rs) (p + 1) (n - (p + 1))
  rw [Nat.add_sub_cancel' hp, poss_succ, if_pos h2, List.append_assoc] at e
  have hat : (poss gs rs n)[(poss gs rs p).length]? = some p := by
    rw [e, List.getElem?_append_right (Nat.le_refl _), Nat.sub_self]
    rfl
  obtain ⟨a1, a2⟩ := List.getElem?_eq_some_iff.mp h
  obtain ⟨b1, b2⟩ := List.getElem?_eq_some_iff.mp hat
  have pw := List.pairwise_iff_getElem.mp (poss_pw (gs := gs) (rs := rs) n)
  rcases Nat.lt_trichotomy (poss gs rs p).length j with hlt | heq | hgt
  · have := pw _ _ b1 a1 hlt; omega
  · exact heq
  · have := pw _ _ a1 b1 hgt; omega
theorem gone_iff {b : Nat} (hb : b < rs.length) : isGone gs rs b = decide (rs[b].1 ∈ gs) := by
  unfold isGone
  rw [List.getElem?_eq_getElem hb]
  rfl
def RA (gs : List Int) (rs : List (Int × Str)) (b : Nat) : List (Int × Str) := without gs (rs.take b) ++ rs.drop b
def RB (gs : List Int) (rs : List (Int × Str)) (b : Nat) : List (Int × Str) := rs.take b ++ without gs (rs.drop b)
theorem without_app (xs ys : List (Int × Str)) : without gs (xs ++ ys) = without gs xs ++ without gs ys := List.filter_append ..
theorem without_one (r : Int × Str) : without gs [r] = if r.1 ∈ gs then [] else [r] := by
  unfold without
  by_cases h : r.1 ∈ gs <;> simp [List.filter, h]
theorem without_take {b : Nat} (hb : b < rs.length) : without gs (rs.take (b + 1)) = without gs (rs.take b) ++ if rs[b].1 ∈ gs then [] else [rs[b]] := by
  rw [List.take_add_one, List.getElem?_eq_getElem hb, Option.toList_some, without_app, without_one]
theorem cnt {b : Nat} (hb : b ≤ rs.length) : (without gs (rs.take b)).length + (poss gs rs b).length = b := by
  induction b with
  | zero => rfl
  | succ b ih =>
    have h := ih (Nat.le_of_succ_le hb)
    rw [without_take hb, poss_succ, gone_iff hb, List.length_append, List.length_append]
    by_cases hg : rs[b].1 ∈ gs
    · simp only [hg, decide_true, if_true, List.length_nil, List.length_singleton]; omega
    · simp only [hg, decide_false, if_false, Bool.false_eq_true, List.length_nil, List.length_singleton]; omega
theorem RA_no {b : Nat} (hb : b < rs.length) (hg : ¬ rs[b].1 ∈ gs) : RA gs rs (b + 1) = RA gs rs b := by
  unfold RA
  rw [without_take hb, if_neg hg, List.append_assoc, List.singleton_append, List.drop_eq_getElem_cons hb]
theorem RA_yes {b : Nat} (hb : b < rs.length) (hg : rs[b].1 ∈ gs) : RA gs rs (b + 1) = without gs (rs.take b) ++ rs.drop (b + 1) := by
  unfold RA
  rw [without_take hb, if_pos hg, List.append_nil]
theorem RB_no {b : Nat} (hb : b < rs.length) (hg : ¬ rs[b].1 ∈ gs) : RB gs rs (b + 1) = RB gs rs b := by
  unfold RB
  rw [List.drop_eq_getElem_cons hb, ← List.singleton_append, without_app, without_one, if_neg hg, List.take_add_one, List.getElem?_eq_getElem hb, Option.toList_some, List.append_assoc]
theorem RB_yes {b : Nat} (hb : b < rs.length) (hg : rs[b].1 ∈ gs) : RB gs rs b = rs.take b ++ without gs (rs.drop (b + 1)) := by
  unfold RB
  rw [List.drop_eq_getElem_cons hb, ← List.singleton_append, without_app, without_one, if_pos hg, List.nil_append]
theorem R_same {b : Nat} : ∀ (d : Nat), b + d ≤ rs.length → (poss gs rs b).length = (poss gs rs (b + d)).length → RA gs rs (b + d) = RA gs rs b ∧ RB gs rs (b + d) = RB gs rs b
  | 0, _, _ => ⟨rfl, rfl⟩
  | d + 1, hb, hc => by
    have h1 := poss_mono (gs := gs) (rs := rs) (show b ≤ b + d by omega)
    have h2 := poss_mono (gs := gs) (rs := rs) (show b + d ≤ b + d + 1 by omega)
    have hd : b + d < rs.length := by omega
    have hg : ¬ rs[b + d].1 ∈ gs := fun hg => by
      have e := poss_succ (gs := gs) (rs := rs) (b + d)
      rw [gone_iff hd, decide_eq_true hg, if_pos rfl] at e
      have := congrArg List.length e
      rw [List.length_append, List.length_singleton] at this
      rw [← Nat.add_assoc] at hc
      omega
    have ih := R_same (b := b) d (by omega) (by rw [← Nat.add_assoc] at hc; omega)
    rw [← Nat.add_assoc]
    exact ⟨(RA_no hd hg).trans ih.1, (RB_no hd hg).trans ih.2⟩
theorem R_eq {b c : Nat} (h : b ≤ c) (hc : c ≤ rs.length) (he : (poss gs rs b).length = (poss gs rs c).length) : RA gs rs c = RA gs rs b ∧ RB gs rs c = RB gs rs b := by
  have := R_same (gs := gs) (rs := rs) (b := b) (c - b)
  rw [Nat.add_sub_cancel' h] at this
  exact this hc he
/-- the rows when j of the numbers are gone, from the lowest, or from the highest on -/
def InvA (gs : List Int) (rs : List (Int × Str)) (j : Nat) (qs : List (Int × Str)) : Prop := ∃ b, b ≤ rs.length ∧ (poss gs rs b).length = j ∧ qs = RA gs rs b
def InvB (gs : List Int) (rs : List (Int × Str)) (j : Nat) (qs : List (Int × Str)) : Prop := ∃ b, b ≤ rs.length ∧ (poss gs rs b).length + j = (poss gs rs rs.length).length ∧ qs = RB gs rs b
theorem invA_zero : InvA gs rs 0 rs := ⟨0, Nat.zero_le _, rfl, rfl⟩
theorem invB_zero : InvB gs rs 0 rs := ⟨rs.length, Nat.le_refl _, rfl, by unfold RB; rw [List.take_length, List.drop_length]; simp [without]⟩
theorem invA_end {qs : List (Int × Str)} (h : InvA gs rs (poss gs rs rs.length).length qs) : qs = without gs rs := by
  obtain ⟨b, hb, hc, rfl⟩ := h
  rw [← (R_eq hb (Nat.le_refl _) hc).1]
  unfold RA
  rw [List.take_length, List.drop_length, List.append_nil]
theorem invB_end {qs : List (Int × Str)} (h : InvB gs rs (poss gs rs rs.length).length qs) : qs = without gs rs := by
  obtain ⟨b, hb, hc, rfl⟩ := h
  have h0 : (poss gs rs 0).length = (poss gs rs b).length := by
    have : (poss gs rs 0).length = 0 := rfl
    omega
  rw [(R_eq (Nat.zero_le b) hb h0).2]
  unfold RB
  rw [List.take_zero, List.drop_zero, List.nil_append]
theorem invA_step {j p : Nat} {qs : List (Int × Str)} (h : InvA gs rs j qs) (hp : (poss gs rs rs.length)[j]? = some p) : j ≤ p ∧ p - j < qs.length ∧ InvA gs rs (j + 1) (qs.take (p - j) ++ qs.drop (p - j + 1)) := by
  obtain ⟨b, hb, hc, rfl⟩ := h
  obtain ⟨h1, h2, h3⟩ := poss_at hp
  have hbp : b ≤ p := by
    refine Nat.le_of_not_lt fun hlt => ?_
    have e := poss_succ (gs := gs) (rs := rs) p
    rw [if_pos h2] at e
    have e := congrArg List.length e
    rw [List.length_append, List.length_singleton] at e
    have := poss_mono (gs := gs) (rs := rs) (show p + 1 ≤ b from hlt)
    omega
  rw [← (R_eq hbp (Nat.le_of_lt h1) (hc.trans h3.symm)).1]
  have hg : rs[p].1 ∈ gs := by rw [gone_iff h1] at h2; exact of_decide_eq_true h2
  have hk := cnt (gs := gs) (Nat.le_of_lt h1)
  have hkl : (without gs (rs.take p)).length = p - j := by omega
  refine ⟨by omega, ?_, p + 1, h1, ?_, ?_⟩
  · unfold RA
    rw [List.length_append, List.length_drop, hkl]
    omega
  · rw [poss_succ, if_pos h2, List.length_append, List.length_singleton, h3]
  · rw [RA_yes h1 hg]
    unfold RA
    rw [List.take_left' hkl, ← List.drop_drop, List.drop_left' hkl, List.drop_drop]
theorem invB_step {j p : Nat} {qs : List (Int × Str)} (h : InvB gs rs j qs) (hj : j < (poss gs rs rs.length).length) (hp : (poss gs rs rs.length)[(poss gs rs rs.length).length - 1 - j]? = some p) : p < qs.length ∧ InvB gs rs (j + 1) (qs.take p ++ qs.drop (p + 1)) := by
  obtain ⟨b, hb, hc, rfl⟩ := h
  obtain ⟨h1, h2, h3⟩ := poss_at hp
  have e := poss_succ (gs := gs) (rs := rs) p
  rw [if_pos h2] at e
  have e := congrArg List.length e
  rw [List.length_append, List.length_singleton] at e
  have hbp : p + 1 ≤ b := by
    refine Nat.lt_of_not_le fun hle => ?_
    have := poss_mono (gs := gs) (rs := rs) hle
    omega
  rw [(R_eq hbp hb (by omega)).2]
  have hg : rs[p].1 ∈ gs := by rw [gone_iff h1] at h2; exact of_decide_eq_true h2
  have hl : (rs.take p).length = p := by rw [List.length_take]; omega
  have hs : RB gs rs (p + 1) = rs.take p ++ (rs[p] :: without gs (rs.drop (p + 1))) := by
    unfold RB
    rw [List.take_add_one, List.getElem?_eq_getElem h1, Option.toList_some, List.append_assoc, List.singleton_append]
  refine ⟨?_, p, Nat.le_of_lt h1, by omega, ?_⟩
  · rw [hs, List.length_append, hl, List.length_cons]; omega
  · rw [hs, RB_yes h1 hg, List.take_left' hl, ← List.drop_drop, List.drop_left' hl, List.drop_one, List.tail_cons]
end
end
section
theorem k9d {a b c i x y z l : Addr × Obj} {T : Led} : ∀ p ∈ [a, b, c] ++ ([i, x, y, z] ++ (l :: T)), p ∈ l :: i :: a :: b :: c :: x :: y :: z :: T := fun p hp => by
  simp only [List.mem_append, List.mem_cons, List.not_mem_nil, or_false, List.cons_append, List.nil_append] at hp ⊢
  rcases hp with h | h | h | h | h | h | h | h | h <;> simp [h]
theorem lend2 {a b c i x y z : Addr × Obj} {T : Led} : ∀ p ∈ i :: ([a, b, c] ++ ([x, y, z] ++ T)), p ∈ a :: b :: c :: i :: x :: y :: z :: T := fun p hp => by
  simp only [List.mem_append, List.mem_cons, List.not_mem_nil, or_false, List.cons_append, List.nil_append] at hp ⊢
  rcases hp with h | h | h | h | h | h | h | h <;> simp [h]
theorem come_grow2 {T T' al : Led} {a b c i x y z l : Addr × Obj} (hal : ∀ q ∈ al, q = i ∨ q = a ∨ q = b ∨ q = c ∨ q = x ∨ q = y ∨ q = z ∨ q ∈ T) (hl : ∀ q ∈ al, @LT.lt Nat _ q.1 l.1) (G : Grow (l :: T) ([a, b, c] ++ ([i, x, y, z] ++ (l :: T))) T') : Grow T al T' := by
  have G1 : Grow T al (l :: T) := Grow.refl.new (x := l.1) (o := l.2) fun q hq => Nat.ne_of_gt (hl q hq)
  refine G1.sub G fun q hq => ?_
  have h := hal q hq
  simp only [List.mem_append, List.mem_cons, List.not_mem_nil, or_false, List.cons_append, List.nil_append]
  rcases h with h | h | h | h | h | h | h | h <;> simp [h]
theorem three_ne {x : Addr} {d e f : Addr × Obj} (h : @Ne Nat x d.1) (h2 : @Ne Nat x e.1) (h3 : @Ne Nat x f.1) : ∀ q ∈ [d, e, f], x ≠ q.1 := fun q hq => by
  rcases List.mem_cons.mp hq with rfl | hq
  · exact h
  · exact two_ne h2 h3 q hq
theorem off_al {l ms : Led} {adr : List Addr} (h : ∀ p ∈ l, ∀ a ∈ adr, p.1 ≠ a) (hm : ms.map (·.1) = adr) : ∀ p ∈ l, ∀ q ∈ ms, p.1 ≠ q.1 := fun p hp q hq => h p hp q.1 (hm ▸ List.mem_map_of_mem hq)
theorem off_la {l ms : Led} {adr : List Addr} (h : ∀ p ∈ l, ∀ q ∈ ms, p.1 ≠ q.1) (hm : ms.map (·.1) = adr) : ∀ p ∈ l, ∀ a ∈ adr, p.1 ≠ a := fun p hp a ha => by
  rw [← hm] at ha
  obtain ⟨q, hq, rfl⟩ := List.mem_map.mp ha
  exact h p hp q hq
theorem ab_ok (i : Nat) : PyData.strOk (Txt.item (Str.ofString "ab") ((i : Int).fmod 2)) = true := by
  have h1 : 0 ≤ (i : Int).fmod 2 := Int.fmod_nonneg_of_pos _ (by decide)
  have h2 : (i : Int).fmod 2 < 2 := Int.fmod_lt_of_pos _ (by decide)
  rcases (show (i : Int).fmod 2 = 0 ∨ (i : Int).fmod 2 = 1 by omega) with h | h <;> rw [h] <;> decide +kernel
theorem loop1_sub {b l a d2 d1 x y z : Addr × Obj} {T : Led} : ∀ p ∈ [l, d1, d2] ++ ([x, y, z] ++ T), p ∈ b :: l :: a :: d2 :: d1 :: x :: y :: z :: T := fun p hp => by
  simp only [List.mem_append, List.mem_cons, List.not_mem_nil, or_false, List.cons_append, List.nil_append] at hp ⊢
  rcases hp with h | h | h | h | h | h | h <;> simp [h]
theorem ints_get {vs : List Value} {ns : List Int} (h : IntsAre vs ns) : ∀ {i : Nat} {v : Value}, vs[i]? = some v → ∃ n t, v = .int n t := by
  induction h with
  | nil => intro i v e; simp at e
  | cons n t r ih =>
    intro i v e
    cases i with
    | zero => simp at e; exact ⟨n, t, e.symm⟩
    | succ i => exact ih (by simpa using e)
theorem row_get {T : Led} {ws : List Value} {rs : List (Int × Str)} (h : DatAll T ws (rowsD rs)) {i : Nat} (hi : i < rs.length) :
    ∃ x t n f tz tf nf, ws[i]? = some (Value.ref x) ∧ (x, tupO [.int rs[i].1 t, .ref f, .int 0 tz] n) ∈ T ∧ (f, tupO [.str rs[i].2 tf] nf) ∈ T := by
  have hl := h.length
  rw [List.length_map] at hl
  have hw : ws[i]? = some (ws[i]'(by omega)) := List.getElem?_eq_getElem _
  obtain ⟨d, h1, h2⟩ := dat_at h hw
  rw [List.getElem?_map, List.getElem?_eq_getElem hi] at h1
  cases h1
  obtain ⟨x, us, n, e, hm, hD⟩ := dat_tup h2
  rw [e] at hw
  cases hD with
  | cons a1 r =>
    cases a1
    cases r with
    | cons b1 r =>
      obtain ⟨f, us2, nf, e2, hm2, hD2⟩ := dat_tup b1
      cases r with
      | cons d1 r =>
        cases d1
        cases r
        cases hD2 with
        | cons g1 r =>
          cases g1
          cases r
          subst e2
          exact ⟨x, _, n, f, _, _, nf, hw, hm, hm2⟩
/-- what a turn of the second loop starts from: the letters it turns lie ahead of what is frozen -/
abbrev Al (I l3 l2 l1 d1 d2 : Addr) (oI o3 o2 o1 x1 x2 : Obj) (T : Led) : Led := (I, oI) :: (l3, o3) :: (l2, o2) :: (l1, o1) :: (d1, x1) :: (d2, x2) :: T
theorem al_step {T Tc T' l : Led} {I l3 l2 l1 d1 d2 : Addr} {oI o3 o2 o1 x1 x2 : Obj} (g : Grow T (Al I l3 l2 l1 d1 d2 oI o3 o2 o1 x1 x2 T) Tc) (h : Grow Tc l T')
    (h1 : ∃ o, (I, o) ∈ l) (h2 : ∃ o, (l3, o) ∈ l) (h3 : ∃ o, (l2, o) ∈ l) (h4 : ∃ o, (l1, o) ∈ l) (h5 : ∃ o, (d1, o) ∈ l) (h6 : ∃ o, (d2, o) ∈ l) (h7 : ∀ p ∈ Tc, p ∈ l) : Grow T (Al I l3 l2 l1 d1 d2 oI o3 o2 o1 x1 x2 T) T' :=
  g.of h fun q hq => by
    rcases List.mem_cons.mp hq with rfl | hq
    · obtain ⟨o, h⟩ := h1; exact ⟨_, h, rfl⟩
    rcases List.mem_cons.mp hq with rfl | hq
    · obtain ⟨o, h⟩ := h2; exact ⟨_, h, rfl⟩
    rcases List.mem_cons.mp hq with rfl | hq
    · obtain ⟨o, h⟩ := h3; exact ⟨_, h, rfl⟩
    rcases List.mem_cons.mp hq with rfl | hq
    · obtain ⟨o, h⟩ := h4; exact ⟨_, h, rfl⟩
    rcases List.mem_cons.mp hq with rfl | hq
    · obtain ⟨o, h⟩ := h5; exact ⟨_, h, rfl⟩
    rcases List.mem_cons.mp hq with rfl | hq
    · obtain ⟨o, h⟩ := h6; exact ⟨_, h, rfl⟩
    · exact ⟨q, h7 q (g.1 q hq), rfl⟩
/-- a new letter: it is none of the six, nor of what is frozen now -/
theorem al_new {T Tc : Led} {I l3 l2 l1 d1 d2 D : Addr} {oI o3 o2 o1 x1 x2 o : Obj} (g : Grow T (Al I l3 l2 l1 d1 d2 oI o3 o2 o1 x1 x2 T) Tc)
    (h1 : @Ne Nat I D) (h2 : @Ne Nat l3 D) (h3 : @Ne Nat l2 D) (h4 : @Ne Nat l1 D) (h5 : @Ne Nat d1 D) (h6 : @Ne Nat d2 D) (h7 : ∀ p ∈ Tc, p.1 ≠ D) : Grow T (Al I l3 l2 l1 d1 d2 oI o3 o2 o1 x1 x2 T) ((D, o) :: Tc) :=
  g.new fun q hq => by
    rcases List.mem_cons.mp hq with rfl | hq
    · exact Ne.symm h1
    rcases List.mem_cons.mp hq with rfl | hq
    · exact Ne.symm h2
    rcases List.mem_cons.mp hq with rfl | hq
    · exact Ne.symm h3
    rcases List.mem_cons.mp hq with rfl | hq
    · exact Ne.symm h4
    rcases List.mem_cons.mp hq with rfl | hq
    · exact Ne.symm h5
    rcases List.mem_cons.mp hq with rfl | hq
    · exact Ne.symm h6
    · exact Ne.symm (h7 q (g.1 q hq))
theorem k9e {i a b c x y p q : Addr × Obj} {T : Led} : ∀ z ∈ [] ++ ([i, a, b, c, x, y] ++ (p :: q :: T)), z ∈ p :: q :: i :: a :: b :: c :: x :: y :: T := fun z hz => by
  simp only [List.mem_append, List.mem_cons, List.not_mem_nil, or_false, false_or, List.cons_append, List.nil_append] at hz ⊢
  rcases hz with h | h | h | h | h | h | h | h | h <;> simp [h]
theorem k9f {i a b c x y p : Addr × Obj} {T : Led} : ∀ z ∈ [x] ++ ([i, a, b, c, y] ++ (p :: T)), z ∈ p :: i :: a :: b :: c :: x :: y :: T := fun z hz => by
  simp only [List.mem_append, List.mem_cons, List.not_mem_nil, or_false, false_or, List.cons_append, List.nil_append] at hz ⊢
  rcases hz with h | h | h | h | h | h | h | h <;> simp [h]
theorem all_in {P : Addr × Obj → Prop} {a : Addr × Obj} {l : Led} (h : P a) (k : ∀ p ∈ l, P p) : ∀ p ∈ a :: l, P p := fun p hp => by
  rcases List.mem_cons.mp hp with rfl | hp
  · exact h
  · exact k p hp
theorem off7 {d a b c e f : Addr × Obj} {x : Addr} {X : Obj} {T : Led} (h1 : @Ne Nat a.1 x) (h2 : @Ne Nat b.1 x) (h3 : @Ne Nat c.1 x) (h4 : @Ne Nat e.1 x) (h5 : @Ne Nat f.1 x) (h6 : @Ne Nat d.1 x) (h : ∀ p ∈ T, p.1 ≠ x) : ∀ p ∈ [a, b, c, e, f] ++ (d :: T), ∀ q ∈ [(x, X)], p.1 ≠ q.1 :=
  off_in (one_ne h1) (off_in (one_ne h2) (off_in (one_ne h3) (off_in (one_ne h4) (off_in (one_ne h5) (off_in (one_ne h6) fun p hp => one_ne (h p hp))))))
theorem std1 {i a b c x y : Addr × Obj} {T : Led} : ∀ z ∈ i :: a :: b :: c :: x :: y :: T, z ∈ x :: i :: a :: b :: c :: y :: T := fun z hz => by
  simp only [List.mem_cons] at hz ⊢
  rcases hz with h | h | h | h | h | h | h <;> simp [h]
theorem std2 {i a b c x y : Addr × Obj} {T : Led} : ∀ z ∈ i :: a :: b :: c :: x :: y :: T, z ∈ y :: i :: a :: b :: c :: x :: T := fun z hz => by
  simp only [List.mem_cons] at hz ⊢
  rcases hz with h | h | h | h | h | h | h <;> simp [h]
theorem ints_ok (gs : List Int) : ∀ d ∈ gs.map Dat.int, kqdOk 8 d = true := fun d hd => by
  obtain ⟨z, _, rfl⟩ := List.mem_map.mp hd
  rfl
theorem ints_mem {gs : List Int} {z : Int} : Dat.int z ∈ gs.map Dat.int ↔ z ∈ gs :=
  ⟨fun h => by obtain ⟨y, hy, e⟩ := List.mem_map.mp h; cases e; exact hy, fun h => List.mem_map_of_mem h⟩
section
variable {prog : Program} {w : World} {A : Around} {E : Value → Shared → Prop} {s : Shared} {h₀ : Heap} {L a : Addr} {news : Led} {ys : List Value} {gs : List Int} {z : Int} {t : Nat} {Q : Value → Shared → Prop}
theorem int_in (N : News h₀ L s.heap news) (hm : (a, LCg.lst ys) ∈ news) (D : DatAll [] ys (gs.map Dat.int)) (hu : A.units + 64 < cLine) (h : Q (.bool (decide (z ∈ gs))) s) : wpAny (model prog w) A (compareOp .In (.int z t) (.ref a)) Q E s := by
  refine kqd_isIn N hm rfl rfl D (fun _ h => nomatch h) (.int z t : DatIn [] _ _) (fun _ h => nomatch h) (ints_ok gs) rfl hu ?_
  have e : ∀ i : Decidable (Dat.int z ∈ gs.map Dat.int), @decide (Dat.int z ∈ gs.map Dat.int) i = decide (z ∈ gs) := fun i => by
    by_cases hz : z ∈ gs
    · rw [decide_eq_true hz]; exact @decide_eq_true _ (_) (ints_mem.mpr hz)
    · rw [decide_eq_false hz]; exact @decide_eq_false _ (_) fun e => hz (ints_mem.mp e)
  rw [e]
  exact h
theorem int_notin (N : News h₀ L s.heap news) (hm : (a, LCg.lst ys) ∈ news) (D : DatAll [] ys (gs.map Dat.int)) (hu : A.units + 64 < cLine) (h : Q (.bool (!decide (z ∈ gs))) s) : wpAny (model prog w) A (compareOp .NotIn (.int z t) (.ref a)) Q E s := by
  refine kqd_notIn N hm rfl rfl D (fun _ h => nomatch h) (.int z t : DatIn [] _ _) (fun _ h => nomatch h) (ints_ok gs) rfl hu ?_
  have e : ∀ i : Decidable (Dat.int z ∈ gs.map Dat.int), @decide (Dat.int z ∈ gs.map Dat.int) i = decide (z ∈ gs) := fun i => by
    by_cases hz : z ∈ gs
    · rw [decide_eq_true hz]; exact @decide_eq_true _ (_) (ints_mem.mpr hz)
    · rw [decide_eq_false hz]; exact @decide_eq_false _ (_) fun e => hz (ints_mem.mp e)
  rw [e]
  exact h
end
theorem nums_get {T : Led} {ys : List Value} {ns : List Int} (h : DatAll T ys (ns.map Dat.int)) {i : Nat} {z : Int} (hz : ns[i]? = some z) : ∃ t, ys[i]? = some (Value.int z t) := by
  have hl := h.length
  rw [List.length_map] at hl
  have hi : i < ns.length := (List.getElem?_eq_some_iff.mp hz).1
  have hw : ys[i]? = some (ys[i]'(by omega)) := List.getElem?_eq_getElem _
  obtain ⟨d, h1, h2⟩ := dat_at h hw
  rw [List.getElem?_map, hz] at h1
  cases h1
  rw [hw]
  generalize ys[i]'(by omega) = v at h2
  cases h2
  exact ⟨_, rfl⟩
theorem sub9 {i a b c x y p : Addr × Obj} {T : Led} : ∀ z ∈ [y] ++ ([i, a, b, c, x] ++ (p :: T)), z ∈ p :: i :: a :: b :: c :: x :: y :: T := fun z hz => by
  simp only [List.mem_append, List.mem_cons, List.not_mem_nil, or_false, false_or, List.cons_append, List.nil_append] at hz ⊢
  rcases hz with h | h | h | h | h | h | h | h <;> simp [h]
theorem k9g {j i a b c x y p : Addr × Obj} {T : Led} : ∀ z ∈ [y] ++ ([j, i, a, b, c, x] ++ (p :: T)), z ∈ p :: j :: y :: i :: a :: b :: c :: x :: T := fun z hz => by
  simp only [List.mem_append, List.mem_cons, List.not_mem_nil, or_false, false_or, List.cons_append, List.nil_append] at hz ⊢
  rcases hz with h | h | h | h | h | h | h | h | h <;> simp [h]
theorem lend3 {j i a b c x y : Addr × Obj} {T : Led} : ∀ z ∈ j :: ([y] ++ ([i, a, b, c, x] ++ T)), z ∈ y :: j :: i :: a :: b :: c :: x :: T := fun z hz => by
  simp only [List.mem_append, List.mem_cons, List.not_mem_nil, or_false, false_or, List.cons_append, List.nil_append] at hz ⊢
  rcases hz with h | h | h | h | h | h | h | h <;> simp [h]
theorem grow3 {j i a b c x y p : Addr × Obj} {T T' : Led} (hp : ∀ q ∈ j :: y :: i :: a :: b :: c :: x :: T, @LT.lt Nat _ q.1 p.1) (G : Grow (p :: T) ([y] ++ ([j, i, a, b, c, x] ++ (p :: T))) T') : Grow T (j :: ([y] ++ ([i, a, b, c, x] ++ T))) T' := by
  have G1 : Grow T (j :: ([y] ++ ([i, a, b, c, x] ++ T))) (p :: T) := Grow.refl.new (x := p.1) (o := p.2) fun q hq => Nat.ne_of_gt (hp q hq)
  refine G1.sub G fun z hz => ?_
  simp only [List.mem_append, List.mem_cons, List.not_mem_nil, or_false, false_or, List.cons_append, List.nil_append] at hz ⊢
  rcases hz with h | h | h | h | h | h | h | h <;> simp [h]
theorem off8 {j d a b c e f : Addr × Obj} {x : Addr} {X : Obj} {T : Led} (h0 : @Ne Nat j.1 x) (h1 : @Ne Nat a.1 x) (h2 : @Ne Nat b.1 x) (h3 : @Ne Nat c.1 x) (h4 : @Ne Nat e.1 x) (h5 : @Ne Nat f.1 x) (h6 : @Ne Nat d.1 x) (h : ∀ p ∈ T, p.1 ≠ x) : ∀ p ∈ [j, a, b, c, e, f] ++ (d :: T), ∀ q ∈ [(x, X)], p.1 ≠ q.1 :=
  off_in (one_ne h0) (off7 h1 h2 h3 h4 h5 h6 h)
def Mark9 : Prop := True
theorem off9 {a b c e f g : Addr × Obj} {x : Addr} {X : Obj} {T : Led} (h1 : @Ne Nat a.1 x) (h2 : @Ne Nat b.1 x) (h3 : @Ne Nat c.1 x) (h4 : @Ne Nat e.1 x) (h5 : @Ne Nat f.1 x) (h6 : @Ne Nat g.1 x) (h : ∀ p ∈ T, p.1 ≠ x) : ∀ p ∈ [a, b, c, e, f, g] ++ T, ∀ q ∈ [(x, X)], p.1 ≠ q.1 :=
  off_in (one_ne h1) (off_in (one_ne h2) (off_in (one_ne h3) (off_in (one_ne h4) (off_in (one_ne h5) (off_in (one_ne h6) fun p hp => one_ne (h p hp))))))
theorem told_ok {rs : List (Int × Str)} (h : ∀ r ∈ rs, PyData.strOk r.2 = true) : kqdOk 8 (.tuple [.str "", .int 0, .tuple (rowsD rs)]) = true := by
  have e : PyData.strOk (Str.ofString "") = true := by decide +kernel
  have h2 : (rowsD rs).all (kqdOk 6) = true := List.all_eq_true.mpr fun d hd => by
    obtain ⟨r, hr, rfl⟩ := List.mem_map.mp hd
    simp [kqdOk, h r hr]
  simp [kqdOk, e, h2]
theorem t9a {i a b c x y p : Addr × Obj} {T : Led} : ∀ z ∈ [x] ++ ([p, y, i, a, b, c] ++ T), z ∈ p :: y :: i :: a :: b :: c :: x :: T := fun z hz => by
  simp only [List.mem_append, List.mem_cons, List.not_mem_nil, or_false, false_or, List.cons_append, List.nil_append] at hz ⊢
  rcases hz with h | h | h | h | h | h | h | h <;> simp [h]
theorem t9b {i a b c x y p q r : Addr × Obj} {T : Led} : ∀ z ∈ [y] ++ ([x, p, i, a, b, c] ++ T), z ∈ q :: r :: x :: p :: y :: i :: a :: b :: c :: T := fun z hz => by
  simp only [List.mem_append, List.mem_cons, List.not_mem_nil, or_false, false_or, List.cons_append, List.nil_append] at hz ⊢
  rcases hz with h | h | h | h | h | h | h | h <;> simp [h]
theorem t9c {i a b c x y p : Addr × Obj} {T : Led} : ∀ z ∈ [x] ++ ([y, p, i, a, b, c] ++ T), z ∈ y :: x :: p :: i :: a :: b :: c :: T := fun z hz => by
  simp only [List.mem_append, List.mem_cons, List.not_mem_nil, or_false, false_or, List.cons_append, List.nil_append] at hz ⊢
  rcases hz with h | h | h | h | h | h | h | h <;> simp [h]
theorem t9d {i a b c x y p l : Addr × Obj} {T : Led} : ∀ z ∈ [p, x, y] ++ ([i, a, b, c] ++ (l :: T)), z ∈ l :: x :: y :: p :: i :: a :: b :: c :: T := fun z hz => by
  simp only [List.mem_append, List.mem_cons, List.not_mem_nil, or_false, false_or, List.cons_append, List.nil_append] at hz ⊢
  rcases hz with h | h | h | h | h | h | h | h | h <;> simp [h]
theorem t9e {i a b c x y p : Addr × Obj} {T : Led} : ∀ z ∈ i :: ([a, b, c, x, y] ++ ([] ++ (p :: T))), z ∈ x :: y :: p :: i :: a :: b :: c :: T := fun z hz => by
  simp only [List.mem_append, List.mem_cons, List.not_mem_nil, or_false, false_or, List.cons_append, List.nil_append] at hz ⊢
  rcases hz with h | h | h | h | h | h | h | h <;> simp [h]
theorem t9f {i a b c x y p : Addr × Obj} {T : Led} : ∀ z ∈ i :: ([a, b, c, x, y] ++ ([] ++ (p :: T))), z ∈ p :: x :: y :: i :: a :: b :: c :: T := fun z hz => by
  simp only [List.mem_append, List.mem_cons, List.not_mem_nil, or_false, false_or, List.cons_append, List.nil_append] at hz ⊢
  rcases hz with h | h | h | h | h | h | h | h <;> simp [h]
theorem c_ok : PyData.strOk (Str.ofString "c") = true := by decide +kernel
theorem five_ne {x a b c d e : Addr} (h1 : @Ne Nat x a) (h2 : @Ne Nat x b) (h3 : @Ne Nat x c) (h4 : @Ne Nat x d) (h5 : @Ne Nat x e) : ∀ y ∈ [a, b, c, d, e], x ≠ y := fun y hy => by
  simp only [List.mem_cons, List.not_mem_nil, or_false] at hy
  rcases hy with rfl | rfl | rfl | rfl | rfl <;> assumption
theorem t9g {a b c x y l k : Addr × Obj} {T : Led} : ∀ z ∈ [a, b, c, x, y] ++ ([] ++ (l :: k :: T)), z ∈ k :: l :: x :: y :: a :: b :: c :: T := fun z hz => by
  simp only [List.mem_append, List.mem_cons, List.not_mem_nil, or_false, false_or, List.cons_append, List.nil_append] at hz ⊢
  rcases hz with h | h | h | h | h | h | h | h <;> simp [h]
theorem t9h {a b c x y : Addr × Obj} {T : Led} : ∀ z ∈ [x] ++ ([a, b, c, y] ++ T), z ∈ a :: b :: c :: x :: y :: T := fun z hz => by
  simp only [List.mem_append, List.mem_cons, List.not_mem_nil, or_false, false_or, List.cons_append, List.nil_append] at hz ⊢
  rcases hz with h | h | h | h | h | h <;> simp [h]
theorem t9i {a b c x y l : Addr × Obj} {T : Led} : ∀ z ∈ [x] ++ ([a, b, c, y] ++ T), z ∈ l :: x :: a :: b :: c :: y :: T := fun z hz => by
  simp only [List.mem_append, List.mem_cons, List.not_mem_nil, or_false, false_or, List.cons_append, List.nil_append] at hz ⊢
  rcases hz with h | h | h | h | h | h <;> simp [h]
theorem list_ok (gs : List Int) : kqdOk 8 (.list (gs.map Dat.int)) = true := by
  have h : (gs.map Dat.int).all (kqdOk 7) = true := List.all_eq_true.mpr fun d hd => by
    obtain ⟨z, _, rfl⟩ := List.mem_map.mp hd
    rfl
  simp [kqdOk, h]
structure S1 where
  r1 : Addr
  r2 : Addr
  z : Int
  tz : Nat
  ws : List Value
  nr : Nat
structure S2 where
  r1 : Addr
  r2 : Addr
  kk : Addr
  z : Int
  tz : Nat
  lr : Addr
  o1 : Obj
  o2 : Obj
  o3 : Obj
structure Rows (z : Int) (rs : List (Int × Str)) : Prop where
  pw : rs.Pairwise fun a b => a.1 < b.1
  pos : ∀ r ∈ rs, 0 < r.1 ∧ r.1 ≤ z
  nn : 0 ≤ z
  ok : ∀ r ∈ rs, PyData.strOk r.2 = true
theorem Rows.snoc {z u : Int} {rs : List (Int × Str)} {fl : Str} (h : Rows z rs) (hu : z < u) (hf : PyData.strOk fl = true) : Rows u (rs ++ [(u, fl)]) := by
  have h0 := h.nn
  refine ⟨List.pairwise_append.mpr ⟨h.pw, List.pairwise_singleton _ _, fun a ha b hb => ?_⟩, fun r hr => ?_, by omega, fun r hr => ?_⟩
  · rw [List.mem_singleton.mp hb]
    have := (h.pos a ha).2
    show a.1 < u
    omega
  · rcases List.mem_append.mp hr with hr | hr
    · have := h.pos r hr; omega
    · rw [List.mem_singleton.mp hr]; show 0 < u ∧ u ≤ u; omega
  · rcases List.mem_append.mp hr with hr | hr
    · exact h.ok r hr
    · rw [List.mem_singleton.mp hr]; exact hf
theorem Rows.low {z u : Int} {rs : List (Int × Str)} (h : Rows z rs) (hu : z < u) : ∀ r ∈ rs, 0 < r.1 ∧ r.1 < u := fun r hr => by have := h.pos r hr; omega
theorem Rows.filter {z : Int} {rs : List (Int × Str)} (h : Rows z rs) (gs : List Int) : Rows z (without gs rs) := ⟨without_pw h.pw, fun r hr => h.pos r (List.mem_filter.mp hr).1, h.nn, fun r hr => h.ok r (List.mem_filter.mp hr).1⟩
theorem Rows.nil : Rows 0 [] := ⟨.nil, fun _ h => (List.not_mem_nil h).elim, Int.le_refl _, fun _ h => (List.not_mem_nil h).elim⟩
section
variable {prog : Program} {w : World} {A : Around} {E : Value → Shared → Prop} {s : Shared} {h₀ : Heap} {L : Addr} {m : Str → Option Value} {news : Led} {t : Sem Value} {Q : Value → Shared → Prop}
def IfPost (h₀ : Heap) (L : Addr) (m : Str → Option Value) (news : Led) (P : Int → Prop) (s : Shared) (v : Value) (s' : Shared) : Prop :=
  ∃ z tz h' tk', v = .int z tz ∧ P z ∧ s' = { s with heap := h', toks := tk' } ∧ Fr h₀ L h' m ∧ News h₀ L h' news
theorem if_split {P : Int → Prop} (F : Fr h₀ L s.heap m) (N : News h₀ L s.heap news) (h : wpAny (model prog w) A t (IfPost h₀ L m news P s) E s)
    (k : ∀ z tz h' tk', P z → Fr h₀ L h' m → News h₀ L h' news → Q (.int z tz) { s with heap := h', toks := tk' }) : wpAny (model prog w) A t Q E s :=
  wpAny_mono h (fun v s' => by
    rintro ⟨z, tz, h', tk', rfl, hP, rfl, F', N'⟩
    exact k z tz h' tk' hP F' N') fun _ _ e => e
def StPost (h₀ : Heap) (L : Addr) (m : Str → Option Value) (R : Led → Prop) (s : Shared) (f : Flow) (s' : Shared) : Prop :=
  f = .next ∧ ∃ h' tk' news, s' = { s with heap := h', toks := tk' } ∧ Fr h₀ L h' m ∧ News h₀ L h' news ∧ R news
theorem st_split {t : Sem Flow} {Q : Flow → Shared → Prop} (F : Fr h₀ L s.heap m) (R : Led → Prop) (h : wpAny (model prog w) A t (StPost h₀ L m R s) E s)
    (k : ∀ h' tk' news, R news → Fr h₀ L h' m → News h₀ L h' news → Q .next { s with heap := h', toks := tk' }) : wpAny (model prog w) A t Q E s :=
  wpAny_mono h (fun v s' => by
    rintro ⟨rfl, h', tk', news, rfl, F', N', hR⟩
    exact k h' tk' news hR F' N') fun _ _ e => e
def IfPostL (h₀ : Heap) (L : Addr) (m : Str → Option Value) (news : Led) (s : Shared) (v : Value) (s' : Shared) : Prop :=
  ∃ l vs n, ∃ zs : List Int, ∃ h' tk', v = .ref l ∧ IntsAre vs zs ∧ vs.length ≤ 4 ∧ s' = { s with heap := h', toks := tk' } ∧ Fr h₀ L h' m ∧ News h₀ L h' ((l, listOf vs.toArray n) :: news) ∧ ∀ p ∈ news, @LT.lt Nat _ p.1 l
theorem if_splitL (F : Fr h₀ L s.heap m) (N : News h₀ L s.heap news) (h : wpAny (model prog w) A t (IfPostL h₀ L m news s) E s)
    (k : ∀ l vs n (zs : List Int) h' tk', IntsAre vs zs → vs.length ≤ 4 → Fr h₀ L h' m → News h₀ L h' ((l, listOf vs.toArray n) :: news) → (∀ p ∈ news, @LT.lt Nat _ p.1 l) → Q (.ref l) { s with heap := h', toks := tk' }) : wpAny (model prog w) A t Q E s :=
  wpAny_mono h (fun v s' => by
    rintro ⟨l, vs, n, zs, h', tk', rfl, hD, hl, rfl, F', N', hlt⟩
    exact k l vs n zs h' tk' hD hl F' N' hlt) fun _ _ e => e
end
end
local macro_rules | `(tactic| k_room) => `(tactic| ktr_room)
local macro_rules | `(tactic| k_units) => `(tactic| ktr_units)
local macro_rules | `(tactic| k_all) => `(tactic| assumption)
local macro_rules | `(tactic| k_mem) => `(tactic| ((show (_ : Addr × Obj) ∈ (_ : Led)); ktr_member))
local macro_rules | `(tactic| walk_at "mine for") => `(tactic| (k_here; (rename Fr _ _ _ _ => lF'); (with_unfolding_all refine' For_turns lF' ?_; k_whole)))
local macro_rules | `(tactic| walk_at "exec For Name Name cons nil") => `(tactic| walk_at "mine for")
local macro_rules | `(tactic| walk_at "exec For Tuple Name cons nil") => `(tactic| walk_at "mine for")
local macro_rules | `(tactic| walk_at "exec For Name Call cons nil") => `(tactic| walk_at "mine for")
local macro_rules | `(tactic| walk_at "exec For Tuple Call cons nil") => `(tactic| walk_at "mine for")
local macro_rules | `(tactic| walk_at "exec For Name IfExp cons nil") => `(tactic| walk_at "mine for")
local macro_rules | `(tactic| walk_at "pyIter ref") => `(tactic| with_reducible refine stop_iter ?_)
local macro_rules | `(tactic| walk_at "call ref cons nil") => `(tactic| with_reducible refine stop_call (by decide) ?_)
local macro_rules | `(tactic| walk_at "mine F") => `(tactic| ((with_reducible show wpAny _ (Around.deeper callerA _) _ _ _ _); walk_at "call ref cons nil"))
local macro_rules | `(tactic| walk_at "call ref nil nil") => `(tactic| walk_at "mine F")
local macro_rules | `(tactic| walk_at "call ref nil") => `(tactic| walk_at "mine F")
local macro_rules | `(tactic| walk_at "call ref") => `(tactic| walk_at "mine F")
local macro_rules | `(tactic| walk_at "call ref append nil") => `(tactic| walk_at "mine F")
local macro_rules | `(tactic| walk_at "mine or") => `(tactic| first | assumption | (refine Or.inl ?_; walk_at "mine or") | (refine Or.inr ?_; walk_at "mine or"))
local macro_rules | `(tactic| walk_at "mine sub") => `(tactic| ((intro _); (try simp only [List.mem_append, List.mem_cons, List.not_mem_nil, or_false, false_or, or_assoc]); (repeat' (refine or_im ?_ ?_)); all_goals (intro _; walk_at "mine or")))
local macro_rules | `(tactic| walk_at "mine new") => `(tactic| (intro D' h' F' N' l1; (try k_lt l1); (try k_sweep)))
local macro_rules | `(tactic| walk_at "call builtin:len cons nil") => `(tactic| (k_here; (with_reducible show wpAny _ _ (call (Value.builtin "len") [Value.ref _]) _ _ _); k_dflt (first | refine tup_len (by k_asm) (by k_mem) (by assumption) (by omega) ?_ | refine kst_len (by k_asm) (by k_mem) (by assumption) (by omega) ?_)))
local macro_rules | `(tactic| walk_at "subscriptTail") => `(tactic| (k_here; (with_reducible show wpAny _ _ (subscriptTail (Expr.Name _ _) _ (Value.ref _) (Value.int _ _)) _ _ _); k_dflt (first | ((with_reducible show wpAny _ _ (subscriptTail _ _ _ (Value.int (-(_ : Int)) _)) _ _ _); first | refine tup_last (by k_asm) (by k_mem) (by assumption) (by omega) ?_ | refine list_last (by k_asm) (by k_mem) (by assumption) (by omega) ?_) | ((with_reducible show wpAny _ _ (subscriptTail _ _ _ (Value.int (Nat.cast _) _)) _ _ _); first | refine tup_at (by k_asm) (by k_mem) (by assumption) (by omega) ?_ | refine list_at (by k_asm) (by k_mem) (by assumption) (by omega) ?_) | refine item_at (by k_asm) (by k_mem) (by assumption) (by omega) (by omega) ?_)))
local macro_rules | `(tactic| walk_at "call type:tuple cons nil") => `(tactic| (k_here; (with_reducible show wpAny _ _ (call (Value.type _) [Value.ref _]) _ _ _); k_dflt (refine tup_of (by k_asm) (by k_asm) (by k_mem) (by omega) ?_); walk_at "mine new"))
local macro_rules | `(tactic| walk_at "ite") => `(tactic| ((with_reducible show (if ((_ : Int) == _) = true then _ else _)); first | (refine ite_neg (by (rw [beq_iff_eq]; omega)) ?_) | (refine ite_pos (by first | exact beq_self_eq_true _ | (rw [beq_iff_eq]; omega)) ?_)))
local macro_rules | `(tactic| walk_at "call builtin:list.extend cons nil") => `(tactic| refine stop_ ?_)
local macro_rules | `(tactic| walk_at "call type:dict cons nil") => `(tactic| refine stop_ ?_)
local macro_rules | `(tactic| walk_at "call builtin:sorted cons nil") => `(tactic| refine stop_ ?_)
local macro_rules | `(tactic| walk_at "CompSrc") => `(tactic| refine stop_ ?_)
local macro_rules | `(tactic| walk_at "CompSrcT") => `(tactic| refine stop_ ?_)
local macro_rules | `(tactic| walk_at "SrcD") => `(tactic| refine stop_ ?_)
local macro_rules | `(tactic| walk_at "LPost") => `(tactic| dsimp only [LPost])
local macro_rules | `(tactic| k_enter) => `(tactic| first | (refine code_def (by k_asm) (by k_asm) (by k_asm) (by k_asm) (by k_asm) (by exact rfl) (by exact rfl) (by first | assumption | exact rfl) (by k_is) (by k_is) (by ktr_room) (by walk_at "mine binds") (by exact locs rfl) ?_ (by exact rfl) (by exact rfl) (by exact rfl) (by decide); intro g' L' h' FG' F' N' B' X' T'; (try dsimp only); (try k_fold)) | (refine code_defC (by k_asm) (by k_asm) (by k_asm) (by k_asm) (by k_asm) (by exact rfl) (by exact rfl) (by first | assumption | exact rfl) (by k_is) (by k_is) (by ktr_room) (by walk_at "mine binds") (by exact rfl) (by decide +kernel) ?_ (by exact rfl) (by exact rfl) (by exact rfl); intro g' L' h' tk' cells' FG' F' N' Y' B' X' T' l1; (try k_lt l1); k_cells Y'; (try simp only [List.cons_append, List.nil_append] at N'); (try dsimp only); (try k_fold)))
local macro_rules | `(tactic| walk_at "mine binds") => `(tactic| first | exact BindsTo.of_eq rfl | exact binds_K (by k_in) rfl (by k_is) rfl rfl rfl)
local macro_rules | `(tactic| walk_at "eval ListComp") => `(tactic| (k_here; k_dflt (first | (lct_look; first | ((with_reducible show wpAny _ _ (eval (Expr.ListComp (Expr.Tuple _ _ _) _ _ _) _) _ _ _); refine ListComp_DT (F₀ := by k_asm) (by with_unfolding_all rfl) (by decide) (by rfl) (by decide) (by rfl) ?_) | refine LCt.ListComp_T (F₀ := by k_asm) (by with_unfolding_all rfl) (by decide) (by rfl) (by decide) (by rfl) ?_) | refine LCg.ListComp_U (F₀ := by k_asm) (by first | rfl | with_unfolding_all rfl) (by decide) (by rfl) (by decide) (by rfl) ?_)))
local macro_rules | `(tactic| walk_at "exec Assign cons ListComp") => `(tactic| walk_at "exec Assign")
local macro_rules | `(tactic| walk_at "subscriptTail Name Slice ref ref") => `(tactic| (k_here; (with_reducible show wpAny _ _ (subscriptTail _ _ (Value.ref _) (Value.ref _)) _ _ _); k_dflt (first | refine sl_upto (by k_asm) (by k_asm) (by k_mem) (by omega) (by omega) ?_ (by with_unfolding_all rfl) (by kmk_pure) | refine sl_from (by k_asm) (by k_asm) (by k_mem) (by omega) (by omega) ?_ (by with_unfolding_all rfl) (by kmk_pure)); walk_at "mine new"))
local macro_rules | `(tactic| walk_at "binaryOp Add ref ref") => `(tactic| (k_here; k_dflt (refine cat_lists (by k_asm) (by k_asm) (by k_mem) (by k_mem) (by walk_at "mine len") (by walk_at "mine len") ?_); walk_at "mine new"))
local macro_rules | `(tactic| walk_at "mine len") => `(tactic| ((try simp only [List.length_take, List.length_drop, List.length_append, List.length_cons, List.length_nil]); omega))
local macro_rules | `(tactic| walk_at "compareOp In str ref") => `(tactic| (k_here; k_dflt (first | refine kda_in (knd := PySem.strKind _ _) (by k_asm) (by k_mem) (by k_asm) (by k_asm) (strKind_is _ _ _ _) true (by rfl) ?_ | refine kda_in (knd := PySem.strKind _ _) (by k_asm) (by k_mem) (by k_asm) (by k_asm) (strKind_is _ _ _ _) false (by rfl) ?_)))
local macro_rules | `(tactic| walk_at "subscriptTail Name Constant ref str") => `(tactic| (k_here; (with_reducible show wpAny _ _ (subscriptTail _ _ (Value.ref _) (Value.str _ _)) _ _ _); k_dflt (refine kda_item (knd := PySem.strKind _ _) (by k_asm) (by k_mem) (by k_asm) (strKind_is _ _ _ _) (by rfl) ?_); dsimp only))
local macro_rules | `(tactic| walk_at "eval IfExp") => `(tactic| ((with_reducible show wpAny _ (Around.deeper callerA _) _ _ _ _); (fail_if_success (with_reducible show wpAny _ _ _ (IfPost _ _ _ _ _ _) _ _)); (fail_if_success (with_reducible show wpAny _ _ _ (IfPostL _ _ _ _ _) _ _)); refine stop_ ?_))
local macro_rules | `(tactic| walk_at "exec If") => `(tactic| ((with_reducible show wpAny _ (Around.deeper callerA _) (exec (Stmt.If (Expr.Compare (Expr.Name _ _) [CmpOp.NotEq] _ _) _ _ _) _) _ _ _); (fail_if_success (with_reducible show wpAny _ _ _ (StPost _ _ _ _ _) _ _)); refine stop_ ?_))
local macro_rules | `(tactic| walk_at "compareOp In int ref") => `(tactic| k_dflt (refine int_in (by k_asm) (by k_mem) (by with_reducible assumption) (by ke_room) ?_))
local macro_rules | `(tactic| walk_at "compareOp NotIn int ref") => `(tactic| k_dflt (refine int_notin (by k_asm) (by k_mem) (by with_reducible assumption) (by ke_room) ?_))
local macro_rules | `(tactic| walk_at "compareOp NotEq ref ref") => `(tactic| ((have hMM : Mark9 := by assumption); refine stop_ ?_))
local macro_rules | `(tactic| walk_at "compareOp Eq ref ref") => `(tactic| ((have hMM : Mark9 := by assumption); refine stop_ ?_))
local macro_rules | `(tactic| k_in) => `(tactic| with_reducible first | assumption | exact Frag.In.keeps (by assumption) (Fr.keep (by assumption)))
theorem top.tw15088979973893423861 : True := trivial
theorem top.tw127126225481002756 : True := trivial
theorem top.tw8833053369097974544 : True := trivial
theorem top.tw5597187220613765494 : True := trivial
theorem top.tw18064794426631996164 : True := trivial
theorem top.tw17408102787539135390 : True := trivial
theorem top.tw13321276293971071309 : True := trivial
theorem top.tw16541100652227675460 : True := trivial
theorem top.tw10226039269515513512 : True := trivial
theorem top.tw14197847213752192730 : True := trivial
theorem top.tw5155950481276406077 : True := trivial
theorem top.tw8335412135813284522 : True := trivial
theorem top.tw8945821146733600428 : True := trivial
theorem top.tw11385074118357210864 : True := trivial
theorem top.tw5892708079436301921 : True := trivial
theorem top.tw15910696728931680470 : True := trivial
theorem top.tw17674451897172544987 : True := trivial
theorem top.tw8729362747519067210 : True := trivial
theorem top.tw8973803690348224638 : True := trivial
theorem top.tw6058780594550047802 : True := trivial
theorem top.tw11203750815551599093 : True := trivial
theorem top.tw16325430554902658873 : True := trivial
theorem top.tw7444641836354208208 : True := trivial
theorem top.tw12483720753089274532 : True := trivial
theorem top.tw17355269125676882429 : True := trivial
theorem top.tw620129878449983639 : True := trivial
theorem top.tw390997316461189296 : True := trivial
theorem top.tw15569959144833144457 : True := trivial
theorem top.tw8321918168302905379 : True := trivial
theorem top.tw1817607043029479484 : True := trivial
theorem top.tw13896958669275611876 : True := trivial
theorem top.tw2731995056826638727 : True := trivial
theorem top.tw14826035006057030972 : True := trivial
theorem top.tw18371284783138465269 : True := trivial
theorem top.tw14349089067433371257 : True := trivial
theorem top.tw18237780215024852062 : True := trivial
theorem top.tw3969286963782609292 : True := trivial
theorem top.tw7990429038631628895 : True := trivial
theorem top.tw16044733080236030384 : True := trivial
theorem top.tw2847958352784047137 : True := trivial
theorem top.tw16713831800681072344 : True := trivial
theorem top.tw9614876229902214918 : True := trivial
theorem top.tw9382581127745807760 : True := trivial
theorem top.tw6756868429301003459 : True := trivial
theorem top.tw12317137736924338119 : True := trivial
theorem top.tw14917401599646851644 : True := trivial
theorem top.tw7673058066778466091 : True := trivial
theorem top.tw6664487174759623829 : True := trivial
theorem top.tw4047667213573674445 : True := trivial
theorem top.tw8410488445778877200 : True := trivial
theorem top.tw10996937224433265937 : True := trivial
theorem top.tw4859757453598101857 : True := trivial
theorem top.tw2126296398998916975 : True := trivial
theorem top.tw4213018616267185653 : True := trivial
theorem top.tw8107780213005350392 : True := trivial
theorem top.tw11546936639936008217 : True := trivial
theorem top.tw3422688185749166683 : True := trivial
theorem top.tw8435561252592420358 : True := trivial
theorem top.tw708234853630380328 : True := trivial
theorem top.tw7429413206186439793 : True := trivial
theorem top.tw7008692893051332821 : True := trivial
theorem top.tw13889309363888878346 : True := trivial
theorem top.tw8598144960395782539 : True := trivial
theorem top.tw5088376156974544275 : True := trivial
theorem top.tw10083753850511284816 : True := trivial
theorem top.tw5225916559131626549 : True := trivial
theorem top.tw15058813355848621054 : True := trivial
theorem top.tw17177869089781658578 : True := trivial
theorem top.tw1886144042066472794 : True := trivial
theorem top.tw1492452104121835379 : True := trivial
theorem top.tw15092371282622821202 : True := trivial
theorem top.tw10187264123177260123 : True := trivial
theorem top.tw15503665604740900718 : True := trivial
theorem top.tw7847650389618582240 : True := trivial
theorem top.tw12425085872883035938 : True := trivial
theorem top.tw1617357707322924660 : True := trivial
theorem top.tw1814787853859245837 : True := trivial
theorem top.tw8523463495250067690 : True := trivial
theorem top.tw14372152842798730730 : True := trivial
theorem top.tw6898770573198911631 : True := trivial
theorem top.tw370947364307004932 : True := trivial
theorem top.tw6333448901615975916 : True := trivial
theorem top.tw15361541807878343388 : True := trivial
theorem top.tw12012865196380796599 : True := trivial
theorem top.tw17555251805378815213 : True := trivial
theorem top.tw17810072253543177317 : True := trivial
theorem top.tw17565814175750979855 : True := trivial
theorem top.tw1245559373397905713 : True := trivial
theorem top.tw10006222313960134694 : True := trivial
theorem top.tw987869383939708018 : True := trivial
theorem top.tw8363718466572441477 : True := trivial
theorem top.tw16900427199656544559 : True := trivial
theorem top.tw4159251561096739476 : True := trivial
theorem top.tw12643491718579748851 : True := trivial
theorem top.tw13822267516522204269 : True := trivial
theorem top.tw7855079511596107753 : True := trivial
theorem top.tw5118827330378232414 : True := trivial
theorem top.tw17469865338272021226 : True := trivial
theorem top.tw11133666699803404755 : True := trivial
theorem top.tw6520327441239513222 : True := trivial
theorem top.tw352232786441526191 : True := trivial
theorem top.tw12622177474791663080 : True := trivial
theorem top.tw17486766287000646611 : True := trivial
theorem top.tw3195968871104189447 : True := trivial
theorem top.tw1736530178072539846 : True := trivial
theorem top.tw11459358961799972967 : True := trivial
theorem top.tw795583310449317561 : True := trivial
theorem top.tw2924597203103170677 : True := trivial
theorem top.tw18186074749648716422 : True := trivial
theorem top.tw3730354652608582461 : True := trivial
theorem top.tw14823308797102314842 : True := trivial
theorem top.tw2514443458684651071 : True := trivial
theorem top.tw7458633546980236471 : True := trivial
theorem top.tw8143265674769528471 : True := trivial
theorem top.tw2835187731363253809 : True := trivial
theorem top.tw12080426169559351053 : True := trivial
theorem top.tw11334415319851112604 : True := trivial
theorem top.tw5105846836358774362 : True := trivial
theorem top.tw14402358008270493973 : True := trivial
theorem top.tw15362295582089109014 : True := trivial
theorem top.tw12094960947251128927 : True := trivial
theorem top.tw9631074621892390191 : True := trivial
theorem top.tw17620759639134147866 : True := trivial
theorem top.tw1869187583165140508 : True := trivial
theorem top.tw17470836177267949868 : True := trivial
theorem top.tw13370750898655102155 : True := trivial
theorem top.tw11922380849998532372 : True := trivial
theorem top.tw4571971715460732019 : True := trivial
theorem top.tw9378254376102152143 : True := trivial
theorem top.tw6749217079512962374 : True := trivial
theorem top.tw13177472732611162249 : True := trivial
theorem top.tw3474246075231452896 : True := trivial
theorem top.tw16759092144687519636 : True := trivial
theorem top.tw13120753694373217308 : True := trivial
theorem top.tw705360758644809490 : True := trivial
theorem top.tw18085771088847121727 : True := trivial
theorem top.tw1483126911874232274 : True := trivial
theorem top.tw12385144161495827662 : True := trivial
theorem top.tw4205137553216949640 : True := trivial
theorem top.tw4498253355057717688 : True := trivial
theorem top.tw9059672392935016618 : True := trivial
theorem top.tw11334350811105764591 : True := trivial
theorem top.tw15299407806266782574 : True := trivial
theorem top.tw8184561461823581802 : True := trivial
theorem top.tw728428047077509346 : True := trivial
theorem top.tw4299629679881509495 : True := trivial
theorem top.tw16439428074185983240 : True := trivial
theorem top.tw15976228082101565994 : True := trivial
theorem top.tw12342655685612074800 : True := trivial
theorem top.tw2464713573024523455 : True := trivial
theorem top.tw8507776931139520737 : True := trivial
theorem top.tw10648311167861321448 : True := trivial
theorem top.tw16123964013534891561 : True := trivial
theorem top.tw7198060816514059695 : True := trivial
theorem top.tw3561193834555079511 : True := trivial
theorem top.tw2145171640123136144 : True := trivial
theorem top.tw1149218181149386328 : True := trivial
theorem top.tw1516213087968936877 : True := trivial
theorem top.tw10205528318005450498 : True := trivial
theorem top.tw1139600151236580504 : True := trivial
theorem top.tw9759319705405543751 : True := trivial
theorem top.tw12958502747184954254 : True := trivial
theorem top.tw6885214360128481674 : True := trivial
theorem top.tw6761616313442571491 : True := trivial
theorem top.tw5889316905344633881 : True := trivial
theorem top.tw5278709424875269971 : True := trivial
theorem top.tw2007660962349395123 : True := trivial
theorem top.tw12166907935582030026 : True := trivial
theorem top.tw10956490626425055710 : True := trivial
theorem top.tw9768079942903668216 : True := trivial
theorem top.tw81815255157605957 : True := trivial
theorem top.tw5523086135645875356 : True := trivial
theorem top.tw12787338502077490372 : True := trivial
theorem top.tw10617020205504526918 : True := trivial
theorem top.tw72247145696351765 : True := trivial
theorem top.tw11423202765487971197 : True := trivial
theorem top.tw9800703332001039478 : True := trivial
theorem top.tw9335426496214029073 : True := trivial
theorem top.tw9063741608606530840 : True := trivial
theorem top.tw8204474986945543665 : True := trivial
theorem top.tw775762912060472103 : True := trivial
theorem top.tw7250933059871147345 : True := trivial
theorem top.tw5303079699428457377 : True := trivial
theorem top.tw18063644159110109576 : True := trivial
theorem top.tw1732150942055357024 : True := trivial
theorem top.tw12819366960792805191 : True := trivial
theorem top.tw12540527436937284434 : True := trivial
theorem top.tw11762496359356365647 : True := trivial
theorem top.tw2617719716777270872 : True := trivial
theorem top.tw8810280945414196856 : True := trivial
theorem top.tw4321519831107876412 : True := trivial
theorem top.tw6906291655842520137 : True := trivial
theorem top.tw12718909917080609646 : True := trivial
theorem top.tw11279390925490393535 : True := trivial
theorem top.tw8813761850579938390 : True := trivial
theorem top.tw13310400573052568472 : True := trivial
theorem top.tw8538268897159353584 : True := trivial
theorem top.tw1400011881503588481 : True := trivial
theorem top.tw9601329371697537090 : True := trivial
theorem top.tw18164388396756303480 : True := trivial
theorem top.tw17492772389151264855 : True := trivial
theorem top.tw18086089286151905521 : True := trivial
theorem top.tw13091174067606910046 : True := trivial
theorem top.tw8345894832289464959 : True := trivial
theorem top.tw517144808224063464 : True := trivial
theorem top.tw1142415686869020238 : True := trivial
theorem top.tw14459580976405569124 : True := trivial
theorem top.tw5766051744304087583 : True := trivial
theorem top.tw8892184565913893157 : True := trivial
theorem top.tw1212798325632107971 : True := trivial
theorem top.tw5476889619067714990 : True := trivial
theorem top.tw5225153198818245361 : True := trivial
theorem top.tw216529984938456764 : True := trivial
theorem top.tw1585457916280141200 : True := trivial
theorem top.tw14796646475526232899 : True := trivial
theorem top.tw16058212318047004132 : True := trivial
theorem top.tw12392516345856041104 : True := trivial
theorem top.tw6491118196486620199 : True := trivial
theorem top.tw8689318265317240412 : True := trivial
theorem top.tw18008055252877512497 : True := trivial
theorem top.tw14611434983143301774 : True := trivial
theorem top.tw1195175773429642966 : True := trivial
theorem top.tw5667650583090716360 : True := trivial
theorem top.tw14901070454687303710 : True := trivial
theorem top.tw864819663365544661 : True := trivial
theorem top.tw814325599930780420 : True := trivial
theorem top.tw10936122117785486979 : True := trivial
theorem top.tw7527032243904285869 : True := trivial
theorem top.tw5969682004907312646 : True := trivial
theorem top.tw18034075008235765660 : True := trivial
theorem top.tw6859976401760118174 : True := trivial
theorem top.tw5868845118606482295 : True := trivial
theorem top.tw4186445540838780016 : True := trivial
theorem top.tw339143206060000330 : True := trivial
theorem top.tw17046948494117081484 : True := trivial
theorem top.tw14371913498598963198 : True := trivial
theorem top.tw13369591340354186047 : True := trivial
theorem top.tw10915162052029792233 : True := trivial
theorem top.tw14263998999751124003 : True := trivial
theorem top.tw14168018189251442112 : True := trivial
theorem top.tw9503340733035011235 : True := trivial
theorem top.tw7743179893348639699 : True := trivial
theorem top.tw7414872774492366064 : True := trivial
theorem top.tw7297446738713254254 : True := trivial
theorem top.tw5915399644114372684 : True := trivial
theorem top.tw4784893810139332661 : True := trivial
theorem top.tw4551080515912023512 : True := trivial
theorem top.tw3776753064480771068 : True := trivial
theorem top.tw3337584539547039419 : True := trivial
theorem top.tw2988451766255067171 : True := trivial
theorem top.tw2812155379371279736 : True := trivial
theorem top.tw2741389259953327712 : True := trivial
theorem top.tw2555065506035805374 : True := trivial
theorem top.tw2443449257678562572 : True := trivial
theorem top.tw17315540178315561739 : True := trivial
theorem top.tw16795567611416646642 : True := trivial
theorem top.tw16204670001084760307 : True := trivial
theorem top.tw15878805988109762761 : True := trivial
theorem top.tw15860264024139754761 : True := trivial
theorem top.tw15169761463676818070 : True := trivial
theorem top.tw14597223018079223185 : True := trivial
theorem top.tw14390669486469195807 : True := trivial
theorem top.tw13160728816969591200 : True := trivial
theorem top.tw1088946173253831356 : True := trivial
theorem top.tw1047907039808853306 : True := trivial
theorem top.tw9259421805112917234 : True := trivial
theorem top.tw877433047237710547 : True := trivial
theorem top.tw8735323631387419056 : True := trivial
theorem top.tw8645369167282567922 : True := trivial
theorem top.tw8139039716903228087 : True := trivial
theorem top.tw788273225186049534 : True := trivial
theorem top.tw6919701780365589675 : True := trivial
theorem top.tw6812286434817487243 : True := trivial
theorem top.tw649594095290182367 : True := trivial
theorem top.tw6438537300738474071 : True := trivial
theorem top.tw6286779285267259847 : True := trivial
theorem top.tw6127594578889010139 : True := trivial
theorem top.tw4671429814451907529 : True := trivial
theorem top.tw4656485037274611717 : True := trivial
theorem top.tw453181688931711583 : True := trivial
theorem top.tw427269002284569659 : True := trivial
theorem top.tw4166218997396506358 : True := trivial
theorem top.tw342308947776675178 : True := trivial
theorem top.tw2985252069258134486 : True := trivial
theorem top.tw2867133514656366558 : True := trivial
theorem top.tw2581206410525282061 : True := trivial
theorem top.tw17886615442053742456 : True := trivial
theorem top.tw17428532607074087071 : True := trivial
theorem top.tw17323899518341599180 : True := trivial
theorem top.tw16885616592811714743 : True := trivial
theorem top.tw16782997733028217545 : True := trivial
theorem top.tw16352630495959832749 : True := trivial
theorem top.tw16174758807025615021 : True := trivial
theorem top.tw15240379268576122478 : True := trivial
theorem top.tw14987219478266130788 : True := trivial
theorem top.tw14608685727046917156 : True := trivial
theorem top.tw14282377253939248939 : True := trivial
theorem top.tw14142502885225118848 : True := trivial
theorem top.tw13889484949932952446 : True := trivial
theorem top.tw13359135706311490777 : True := trivial
theorem top.tw13345470168829271861 : True := trivial
theorem top.tw13264354339760550358 : True := trivial
theorem top.tw13044034144603486326 : True := trivial
theorem top.tw1275901062530889299 : True := trivial
theorem top.tw11960245374511038805 : True := trivial
theorem top.tw11613256710310857696 : True := trivial
theorem top.tw11430207588045935325 : True := trivial
theorem top.tw10404823597219466188 : True := trivial
theorem top.tw10090393231696489298 : True := trivial
set_option maxHeartbeats 60000000 in
set_option Elab.async true in
theorem top : PySem.Challenge.rw_nz0301_01.Holds := by
  w_on
  o_law
  k_head
  (case hw => w_witness2)
  have cEnds : CEnds Mine.top.heap_1_39 := by
    as_aux_lemma =>
      unfold CEnds
      w_top off
      have k0 : PySem.Challenge.rw_nz0301_01 = PySem.Challenge.rw_nz0301_01 → True := fun _ => trivial
      revert k0
      k_fill
      intro _
      intro w fz v lo hi g tg hm h1 h2
      obtain ⟨pr, t1, t2, n, rfl, hm⟩ := dat_pair hm
      have e1 : (if hi < lo then hi else lo) = lo := by rw [if_neg (by omega)]
      have e2 : (if hi > lo then hi else lo) = hi := by split <;> omega
      unfold Con
      intro ex p loose mean mg mb dp un gd cn cs a ccd cl outer A₀ base h₀ L m s Q E B F X N T hk hd hu hoff ret
      refine wpAny_call ?_
      (try simp only [List.cons_append, List.nil_append] at N)
      (first | k_dflt k_enter | fail "enter")
      k_steps
      all_goals first
        | (exfalso; omega)
        | ((rename News h₀ _ _ _ => N9); (rename ∀ p : Addr × Obj, p ∈ ex ++ fz → p.1 < _ => l9); rw [e1, e2] at N9;
           exact con_ret ret [] (_ :: fz) (by assumption) N9 rfl sub_x (Grow.refl.new fun q hq => Nat.ne_of_gt (l9 q hq)) ⟨rfl, .tuple (.head _) (.cons (.int _ _) (.cons (.int _ _) .nil))⟩)
  have cPlain : CPlain Mine.top.heap_1_39 := by
    as_aux_lemma =>
      unfold CPlain
      w_top off
      have k0 : PySem.Challenge.rw_nz0301_01 = PySem.Challenge.rw_nz0301_01 → True := fun _ => trivial
      revert k0
      k_fill
      intro _
      intro w fz v ps g tg hm hS hlen
      obtain ⟨S, vs, n, rfl, hm, hD⟩ := dat_tup hm
      unfold Con
      intro ex p loose mean mg mb dp un gd cn cs a ccd cl outer A₀ base h₀ L m s Q E B F X N T hk hd hu hoff ret
      refine wpAny_call ?_
      (try simp only [List.cons_append, List.nil_append] at N)
      (first | k_dflt k_enter | fail "enter")
      k_steps
      rename_i l' h2 l1 h3 lF' N'
      show wpAny _ _ _ _ _ _
      have o1 : ∀ p ∈ ex ++ fz, p.1 ≠ l' := fun p hp => Nat.ne_of_lt (l1 p hp)
      refine lp_tuple (σ := List Value × Nat) (fun c => [(l', listOf c.1.toArray c.2)]) ex fz (fun c => [("pairs", .ref l'), ("greatest", .int g tg)]) (fun i c T => DatAll T c.1 (pairsD (ps.take i))) [l'] ([], 0)
        rfl (List.mem_append_right _ hm) lF' N' (fun p h => h) (fun _ => rfl) (fun p hp a ha => by rw [List.mem_singleton.mp ha]; exact o1 p hp) (by kst_all) .nil (fun I i v s Q E h hQ => go_name I v s Q E hQ) ?_ ?_
      · intro i v c T1 u h tk I oI hv hI sub off hne F1 N1
        dsimp only at F1 N1 hv hI
        simp only [List.cons_append, List.nil_append] at N1
        clear N' lF'
        (try k_fold)
        k_steps
        obtain ⟨d, hd1, hd2⟩ := dat_at (hD.mono sub) hv
        rw [List.getElem?_map] at hd1
        obtain ⟨q, hq, rfl⟩ := Option.map_eq_some_iff.mp hd1
        have hqm := hS.pos q (List.mem_of_getElem? hq)
        show wpAny _ _ _ _ _ _
        k_dflt (refine' Con.use (cEnds w T1 v q.1 q.2 g tg hd2 hqm.1 hqm.2) ((I, oI) :: (l', listOf c.1.toArray c.2) :: ex) ?k1 ?k2 ?k3 ?k4 ?k5 ?k6 ?k7 ?k8 ?k9 ?k10 ?_; (case k1 => k_asm); (case k2 => k_asm); (case k3 => k_asm); (case k4 => k_asm); (case k5 => k_asm); (case k6 => exact rfl); (case k7 => ktr_room); (case k8 => ktr_units); (case k10 => first | assumption | exact fun _ _ _ hq => (List.not_mem_nil hq).elim); (case k9 => exact fun p h => h))
        rintro r mt' T2 h4 tk4 F4 N4 G4 - ⟨rfl, hr⟩
        obtain ⟨e1, e2, e3, e4, rfl, hr2⟩ := dat_pair hr
        simp only [List.cons_append, List.nil_append] at N4
        have o2 : ∀ p ∈ ex ++ T2, p.1 ≠ l' := on_ex (in_ex fun p hp => off p hp _ (.head _)) (G4.ne (o := listOf c.1.toArray c.2) (.tail _ (.head _)) (out_ex fun p hp => off p hp _ (.head _)))
        have n1 : @Ne Nat I l' := fun e => hne (l', _) (.head _) e.symm
        have hlc : c.1.length ≤ 100 := by rw [hI.length, List.length_map, List.length_take]; omega
        k_steps
        rename News _ _ _ _ => N5
        rename Fr _ _ _ _ => F5
        rw [List.push_toArray] at N5
        refine lend (c.1 ++ [Value.ref e1], c.2 + 1) T2 F5 N5 (fun p h => h) G4 (by kst_all) ?_
        dsimp only
        rw [List.take_add_one, hq, Option.toList_some, pairsD, List.map_append]
        exact (hI.mono G4.1).append (DatAll.one hr)
      · intro c T1 u h tk hI G1 off F1 N1
        dsimp only at F1 N1 hI
        simp only [List.cons_append, List.nil_append] at N1
        clear N' lF'
        (try k_fold)
        k_steps
        have hvl : vs.length = ps.length := by rw [hD.length, List.length_map]
        rw [hvl, List.take_length] at hI
        have o2 : ∀ p ∈ ex ++ T1, p.1 ≠ l' := fun p hp => off p hp _ (.head _)
        refine sort_pairs F1 N1 o2 (hI.mono fun p hp => List.mem_append_right _ hp) hS (by omega) fun h5 n5 F5 N5 => ?_
        clear N1 F1
        dsimp only
        k_steps
        rename_i l2 h6 F6 N6 l7 h7 F7 N7
        show wpAny _ _ _ _ _ _
        have o3 : ∀ p ∈ ((l', listOf c.1.toArray n5) :: ex) ++ T1, p.1 ≠ l2 := fun p hp => Nat.ne_of_lt (kst_ltOf (show AllLt l2 ((l', listOf c.1.toArray n5) :: (ex ++ T1)) from l7) p hp)
        refine lp_list (σ := List Value × Nat) (fun d => [(l2, listOf d.1.toArray d.2)]) ((l', listOf c.1.toArray n5) :: ex) T1 (fun d => [("out", .ref l2)]) (fun i d T => DatAll T d.1 (pairsD (ps.take i))) [l2] ([], 0)
          rfl (.head _) F7 N7 (fun p h => h) (fun _ => rfl) (fun p hp a ha => by rw [List.mem_singleton.mp ha]; exact o3 p hp) (by kst_all) .nil (fun I => go_list) ?_ ?_
        · intro i v d T2 u h8 tk I oI hv hI2 sub off2 hne F8 N8
          dsimp only at F8 N8 hv hI2
          simp only [List.cons_append, List.nil_append] at N8
          clear N7 F7 N6 F6
          obtain ⟨d1, hd1, hd2⟩ := dat_at (hI.mono sub) hv
          rw [List.getElem?_map] at hd1
          obtain ⟨q, hq, rfl⟩ := Option.map_eq_some_iff.mp hd1
          obtain ⟨e1, t1, t2, e4, rfl, hr2⟩ := dat_pair hd2
          have hr3 : (e1, tupO [.int q.1 t1, .int q.2 t2] e4) ∈ ex ++ T2 := List.mem_append_right _ hr2
          have hlc : d.1.length = i := by
            have := (List.getElem?_eq_some_iff.mp hq).1
            rw [hI2.length, List.length_map, List.length_take]; omega
          have hi50 : i < 50 := by have := (List.getElem?_eq_some_iff.mp hq).1; omega
          have o4 : ∀ p ∈ ex ++ T2, p.1 ≠ l2 := fun p hp => off2 p (.tail _ hp) _ (.head _)
          have n1 : @Ne Nat I l2 := fun e => hne (l2, _) (.head _) e.symm
          have n2 : @LT.lt Nat _ l' l2 := l7.1
          obtain ⟨ws, n8⟩ := d
          rcases List.eq_nil_or_concat ws with rfl | ⟨us, b, rfl⟩
          · dsimp only at N8 hI2 hlc
            have hi0 : i = 0 := by rw [← hlc]; rfl
            subst hi0
            clear hlc
            (try k_fold)
            k_steps
            rename Fr _ _ _ _ => F9
            rename News _ _ _ _ => N9
            rw [List.push_toArray] at N9
            refine lend_new ([] ++ [Value.ref _], n8 + 1) F9 N9 (by assumption) (by kst_all) ?_
            dsimp only
            rw [List.take_add_one, hq, Option.toList_some, pairsD, List.map_append]
            exact (hI2.mono fun p hp => .tail _ hp).append (DatAll.one (.tuple (.head _) (.cons (.int _ _) (.cons (.int _ _) .nil))))
          · dsimp only at N8 hI2 hlc
            rw [List.concat_eq_append] at *
            obtain ⟨b1, lo, hi, t3, t4, n4, rfl, hb, hlt⟩ := pairs_last hI2 hS hq hlc
            have hi1 : 0 < i := by rw [← hlc, List.length_append, List.length_singleton]; omega
            have hb3 : (b1, tupO [.int lo t3, .int hi t4] n4) ∈ ex ++ T2 := List.mem_append_right _ hb
            (try k_fold)
            k_steps
            rename Fr _ _ _ _ => F9
            rename News _ _ _ _ => N9
            rw [List.push_toArray] at N9
            refine lend_new ((us ++ [Value.ref b1]) ++ [Value.ref _], n8 + 1) F9 N9 (by assumption) (by kst_all) ?_
            dsimp only
            rw [List.take_add_one, hq, Option.toList_some, pairsD, List.map_append]
            exact (hI2.mono fun p hp => .tail _ hp).append (DatAll.one (.tuple (.head _) (.cons (.int _ _) (.cons (.int _ _) .nil))))
        · intro d T2 u h8 tk hI2 G2 off2 F8 N8
          dsimp only at F8 N8 hI2
          simp only [List.cons_append, List.nil_append] at N8
          clear N7 F7 N6 F6
          have hcl : c.1.length = ps.length := by rw [hI.length, List.length_map]
          rw [hcl, List.take_length] at hI2
          have hdl : d.1.length ≤ 50 := by rw [hI2.length, List.length_map]; exact hlen
          (try k_fold)
          k_steps
          rename News h₀ _ _ _ => N9
          exact con_ret_new ret T2 (by assumption) N9 (by assumption) (fun p hp => .tail _ (.tail _ hp)) ((G1.weak fun p hp => .tail _ hp).seq G2 fun p hp => .tail _ (.tail _ hp)) ⟨rfl, .tuple (.head _) (hI2.mono fun p hp => .tail _ hp)⟩
  have cSettled : CSettled Mine.top.heap_1_39 := by
    as_aux_lemma =>
      clear cEnds
      unfold CSettled
      w_top off
      have k0 : PySem.Challenge.rw_nz0301_01 = PySem.Challenge.rw_nz0301_01 → True := fun _ => trivial
      revert k0
      k_fill
      intro _
      intro w fz v ps hv0 hS hlen
      obtain ⟨S, vs, n, rfl, hm, hD⟩ := dat_tup hv0
      have hvl : vs.length = ps.length := by rw [hD.length, List.length_map]
      unfold Con
      intro ex p loose mean mg mb dp un gd cn cs a ccd cl outer A₀ base h₀ L m s Q E B F X N T hk hd hu hoff ret
      refine wpAny_call ?_
      (try simp only [List.cons_append, List.nil_append] at N)
      (first | k_dflt k_enter | fail "enter")
      have hm2 : (S, tupO vs n) ∈ ex ++ fz := List.mem_append_right _ hm
      k_steps
      rename Fr _ _ _ _ => F1
      rename News _ _ _ _ => N1
      rename IsRange _ _ _ _ _ _ _ _ => rg
      show wpAny _ _ _ _ _ _
      refine lp_range (σ := Unit) (n := ps.length) (fun c => []) ex fz (fun c => [("some", .ref S)]) (fun i c T => True) [] ()
        rfl rg (small_one (by omega) (by omega) (by omega) (by omega)) (rangeSize_nat _ _) F1 N1 (fun p h => h) (fun _ => rfl) (fun p hp a ha => nomatch ha) (by kst_all) trivial (fun I v s Q E hQ => go_name I v s Q E hQ) ?_ ?_
      · rintro i v c T1 u h tk I oI ⟨hi, t, rfl⟩ - sub - hne F2 N2
        dsimp only at F2 N2
        simp only [List.cons_append, List.nil_append] at N2
        rw [Int.zero_add]
        obtain ⟨v1, e1, d1⟩ := (hD.mono sub).get (k := i) (by rw [List.length_map]; exact hi)
        rw [List.getElem_map] at d1
        obtain ⟨a1, t1, u1, n1, rfl, m1⟩ := dat_pair d1
        have hp := hS.pos ps[i] (List.getElem_mem _)
        have hmS : (S, tupO vs n) ∈ ex ++ T1 := List.mem_append_right _ (sub _ hm)
        have hmA : (a1, tupO [.int ps[i].1 t1, .int ps[i].2 u1] n1) ∈ ex ++ T1 := List.mem_append_right _ m1
        generalize ps[i].1 = lo at hp hmA
        generalize ps[i].2 = hi2 at hp hmA
        have h1 : 1 ≤ lo := hp.1
        have h2 : 1 ≤ hi2 := by omega
        clear F1 N1 rg
        (try k_fold)
        k_steps
        rename Fr _ _ _ _ => F9
        rename News _ _ _ _ => N9
        exact lend (c := c) () T1 F9 N9 (fun p h => h) Grow.refl (by kst_all) trivial
      · rintro c T1 u h tk - G1 - F2 N2
        dsimp only at F2 N2
        simp only [List.cons_append, List.nil_append] at N2
        clear F1 N1 rg
        (try k_fold)
        k_steps
        show wpAny _ _ _ _ _ _
        k_dflt (refine' Con.use (cPlain w T1 _ ps 0 _ (hv0.mono G1.1) hS hlen) ex ?k1 ?k2 ?k3 ?k4 ?k5 ?k6 ?k7 ?k8 ?k9 ?k10 ?_; (case k1 => k_asm); (case k2 => k_asm); (case k3 => k_asm); (case k4 => k_asm); (case k5 => k_asm); (case k6 => exact rfl); (case k7 => ktr_room); (case k8 => ktr_units); (case k10 => first | assumption | exact fun _ _ _ hq => (List.not_mem_nil hq).elim); (case k9 => exact fun p h => h))
        rintro r mt' T2 h4 tk4 F4 N4 G4 - ⟨rfl, hr⟩
        simp only [List.cons_append, List.nil_append] at N4
        have hh := hr.handed
        k_steps
        rename News h₀ _ _ _ => N9
        exact con_ret ret [] T2 (by assumption) N9 rfl (fun p h => h) (G1.seq G4 fun _ h => h) ⟨rfl, hr⟩
  have cSize : CSize Mine.top.heap_1_39 := by
    as_aux_lemma =>
      clear cEnds cPlain
      unfold CSize
      w_top off
      have k0 : PySem.Challenge.rw_nz0301_01 = PySem.Challenge.rw_nz0301_01 → True := fun _ => trivial
      revert k0
      k_fill
      intro _
      intro w fz v ps hv0 hS hlen
      unfold Con
      intro ex p loose mean mg mb dp un gd cn cs a ccd cl outer A₀ base h₀ L m s Q E B F X N T hk hd hu hoff ret
      refine wpAny_call ?_
      (try simp only [List.cons_append, List.nil_append] at N)
      (first | k_dflt k_enter | fail "enter")
      k_steps
      show wpAny _ _ _ _ _ _
      k_dflt (refine' Con.use (cSettled w fz _ ps hv0 hS hlen) ex ?k1 ?k2 ?k3 ?k4 ?k5 ?k6 ?k7 ?k8 ?k9 ?k10 ?_; (case k1 => k_asm); (case k2 => k_asm); (case k3 => k_asm); (case k4 => k_asm); (case k5 => k_asm); (case k6 => exact rfl); (case k7 => ktr_room); (case k8 => ktr_units); (case k10 => first | assumption | exact fun _ _ _ hq => (List.not_mem_nil hq).elim); (case k9 => exact fun p h => h))
      rintro r mt' T2 h4 tk4 F4 N4 G4 - ⟨rfl, hr⟩
      simp only [List.cons_append, List.nil_append] at N4
      obtain ⟨S, vs, n, rfl, hm, hD⟩ := dat_tup hr
      have hvl : vs.length = ps.length := by rw [hD.length, List.length_map]
      refine lp_tuple (σ := Int × Nat) (fun c => []) ex T2 (fun c => [("count", .int c.1 c.2)]) (fun i c T => c.1 = sizeZ (ps.take i)) [] (0, _)
        rfl (List.mem_append_right _ hm) F4 N4 (fun p h => h) (fun _ => rfl) (fun p hp a ha => nomatch ha) (by kst_all) rfl (fun I => go_tup) ?_ ?_
      · rintro i v c T1 u h tk I oI hv hI sub - hne F1 N1
        dsimp only at F1 N1 hv hI
        simp only [List.cons_append, List.nil_append] at N1
        obtain ⟨d, hd1, hd2⟩ := dat_at (hD.mono sub) hv
        rw [List.getElem?_map] at hd1
        obtain ⟨q, hq, rfl⟩ := Option.map_eq_some_iff.mp hd1
        obtain ⟨e1, t1, t2, e4, rfl, hr2⟩ := dat_pair hd2
        have hr3 : (e1, tupO [.int q.1 t1, .int q.2 t2] e4) ∈ ex ++ T1 := List.mem_append_right _ hr2
        obtain ⟨c1, c2⟩ := c
        clear F4 N4
        (try k_fold)
        k_steps
        rename Fr _ _ _ _ => F9
        rename News _ _ _ _ => N9
        refine lend (c := (c1, c2)) (_, _) T1 F9 N9 (fun p h => h) Grow.refl (by kst_all) ?_
        dsimp only
        unfold sizeZ
        rw [List.take_add_one, hq, Option.toList_some, List.map_append, List.sum_append]
        unfold sizeZ at hI
        simp only [List.map_cons, List.map_nil, List.sum_cons, List.sum_nil]
        omega
      · rintro c T1 u h tk hI G1 - F1 N1
        dsimp only at F1 N1 hI
        simp only [List.cons_append, List.nil_append] at N1
        rw [hvl, List.take_length] at hI
        obtain ⟨c1, c2⟩ := c
        clear F4 N4
        (try k_fold)
        k_steps
        rename News h₀ _ _ _ => N9
        exact con_ret ret [] T1 (by assumption) N9 rfl (fun p h => h) (G4.seq G1 fun _ h => h) ⟨rfl, _, by rw [← hI]⟩
  have cNums : CNums Mine.top.heap_1_39 := by
    as_aux_lemma =>
      clear cEnds cSettled cSize
      unfold CNums
      w_top off
      have k0 : PySem.Challenge.rw_nz0301_01 = PySem.Challenge.rw_nz0301_01 → True := fun _ => trivial
      revert k0
      k_fill
      intro _
      intro w fz v ps g tg hv0 hS hlen hnum hg hps
      unfold Con
      intro ex p loose mean mg mb dp un gd cn cs a ccd cl outer A₀ base h₀ L m s Q E B F X N T hk hd hu hoff ret
      refine wpAny_call ?_
      (try simp only [List.cons_append, List.nil_append] at N)
      (first | k_dflt k_enter | fail "enter")
      k_steps
      rename_i l' h2 l1 h3 F3 N3
      show wpAny _ _ _ _ _ _
      have o1 : ∀ p ∈ ex ++ fz, p.1 ≠ l' := fun p hp => Nat.ne_of_lt (l1 p hp)
      k_dflt (refine' Con.use (cPlain w fz v ps g tg hv0 hS hlen) ((l', listOf #[] 0) :: ex) ?k1 ?k2 ?k3 ?k4 ?k5 ?k6 ?k7 ?k8 ?k9 ?k10 ?_; (case k1 => k_asm); (case k2 => k_asm); (case k3 => k_asm); (case k4 => k_asm); (case k5 => k_asm); (case k6 => exact rfl); (case k7 => ktr_room); (case k8 => ktr_units); (case k10 => first | assumption | exact fun _ _ _ hq => (List.not_mem_nil hq).elim); (case k9 => exact fun p h => h))
      rintro r mt' T2 h4 tk4 F4 N4 G4 - ⟨rfl, hr⟩
      simp only [List.cons_append, List.nil_append] at N4
      obtain ⟨S, vs, n, rfl, hm, hD⟩ := dat_tup hr
      have hvl : vs.length = ps.length := by rw [hD.length, List.length_map]
      have o2 : ∀ p ∈ ex ++ T2, p.1 ≠ l' := on_ex (in_ex o1) (G4.ne (o := listOf #[] 0) (.head _) (out_ex o1))
      refine lp_tuple (σ := List Value × Nat) (fun c => [(l', listOf c.1.toArray c.2)]) ex T2 (fun c => [("out", .ref l'), ("greatest", .int g tg)]) (fun i c T => DatAll T c.1 ((numsOf (ps.take i)).map Dat.int)) [l'] ([], 0)
        rfl (List.mem_append_right _ hm) F4 N4 (fun p h => h) (fun _ => rfl) (fun p hp a ha => by rw [List.mem_singleton.mp ha]; exact o2 p hp) (by kst_all) .nil (fun I => go_tup) ?_ ?_
      · rintro i v c T1 u h tk I oI hv hI sub off hne F1 N1
        dsimp only at F1 N1 hv hI
        simp only [List.cons_append, List.nil_append] at N1
        obtain ⟨d, hd1, hd2⟩ := dat_at (hD.mono sub) hv
        rw [List.getElem?_map] at hd1
        obtain ⟨q, hq, rfl⟩ := Option.map_eq_some_iff.mp hd1
        obtain ⟨e1, t1, t2, e4, rfl, hr2⟩ := dat_pair hd2
        have hr3 : (e1, tupO [.int q.1 t1, .int q.2 t2] e4) ∈ ex ++ T1 := List.mem_append_right _ hr2
        have o3 : ∀ p ∈ (I, oI) :: (ex ++ T1), p.1 ≠ l' := fun p hp => by
          rcases List.mem_cons.mp hp with rfl | hp
          · exact fun e => hne (l', _) (.head _) e.symm
          · exact off p hp _ (.head _)
        have hqg := hps q (List.mem_of_getElem? hq)
        have hq1 := (hS.pos q (List.mem_of_getElem? hq)).1
        have hq2 := (hS.pos q (List.mem_of_getElem? hq)).2
        obtain ⟨lo, hi⟩ := q
        dsimp only at hqg hq1 hq2 hr3 hr2
        have em : (if g < hi then g else hi) = hi := by rw [if_neg (by omega)]
        obtain ⟨c1, c2⟩ := c
        clear F4 N4 F3 N3
        (try k_fold)
        k_steps
        rename Fr _ _ _ _ => F9
        rename News _ _ _ _ => N9
        rename IsRange _ _ _ _ _ _ _ _ => rg
        rw [em] at rg
        have hcl : c1.length = (numsOf (ps.take i)).length := by rw [hI.length, List.length_map]
        have hnx : numsOf (ps.take (i + 1)) = numsOf (ps.take i) ++ rangeKs lo (hi + 1 - lo).toNat := by rw [List.take_add_one, hq, Option.toList_some, numsOf_app, numsOf_one]
        have hle : c1.length + (hi + 1 - lo).toNat ≤ 100 := by
          have := numsOf_take ps (i + 1)
          rw [hnx, List.length_append, rangeKs_length] at this
          omega
        show wpAny _ _ _ _ _ _
        refine ext_range (us := c1) rfl F9 (fun p hp => N9 p (swap2 p hp)) o3 rg (small_one (by omega) (by omega) (by omega) (by omega)) (rangeSize_nat _ _) (by omega) fun h7 tk7 c7 vs7 F7 N7 hd7 => ?_
        clear F9 N9 rg
        dsimp only
        k_steps
        refine lend (c := (c1, c2)) (c1 ++ vs7, c7) T1 F7 (fun p hp => N7 p (swap2 p hp)) (fun p h => h) Grow.refl (by kst_all) ?_
        dsimp only
        rw [hnx, List.map_append]
        exact hI.append (ints_any hd7)
      · rintro c T1 u h tk hI G1 off F1 N1
        dsimp only at F1 N1 hI
        simp only [List.cons_append, List.nil_append] at N1
        rw [hvl, List.take_length] at hI
        obtain ⟨c1, c2⟩ := c
        clear F4 N4 F3 N3
        (try k_fold)
        k_steps
        rename News h₀ _ _ _ => N9
        exact con_ret ret [] ((l', listOf c1.toArray c2) :: T1) (by assumption) N9 rfl sub_x (((G4.weak fun p hp => .tail _ hp).seq G1 fun q hq => .tail _ hq).new fun q hq => Nat.ne_of_gt (l1 q hq)) ⟨rfl, .list (.head _) (ints_any hI)⟩
  have cUids : CUids Mine.top.heap_1_39 := by
    as_aux_lemma =>
      clear cEnds cSettled cSize
      unfold CUids
      w_top off
      have k0 : PySem.Challenge.rw_nz0301_01 = PySem.Challenge.rw_nz0301_01 → True := fun _ => trivial
      revert k0
      k_fill
      intro _
      intro w fz v ps hv0 hS hne hlen hnum hps
      unfold Con
      intro ex p loose mean mg mb dp un gd cn cs a ccd cl outer A₀ base h₀ L m s Q E B F X N T hk hd hu hoff ret
      refine wpAny_call ?_
      (try simp only [List.cons_append, List.nil_append] at N)
      (first | k_dflt k_enter | fail "enter")
      k_steps
      show wpAny _ _ _ _ _ _
      k_dflt (refine' Con.use (cPlain w fz v ps 0 _ hv0 hS hlen) ex ?k1 ?k2 ?k3 ?k4 ?k5 ?k6 ?k7 ?k8 ?k9 ?k10 ?_; (case k1 => k_asm); (case k2 => k_asm); (case k3 => k_asm); (case k4 => k_asm); (case k5 => k_asm); (case k6 => exact rfl); (case k7 => ktr_room); (case k8 => ktr_units); (case k10 => first | assumption | exact fun _ _ _ hq => (List.not_mem_nil hq).elim); (case k9 => exact fun p h => h))
      rintro r mt' T2 h4 tk4 F4 N4 G4 - ⟨rfl, hr⟩
      simp only [List.cons_append, List.nil_append] at N4
      rcases List.eq_nil_or_concat ps with e | ⟨ps, q, rfl⟩
      · exact absurd e hne
      rw [List.concat_eq_append] at *
      have hr0 := hr
      obtain ⟨S, vs, n, rfl, hm, hD⟩ := dat_tup hr
      obtain ⟨us, b, t1, t2, n2, rfl, -, hb⟩ := dat_snoc hD
      have hvl : (us ++ [Value.ref b]).length = us.length + 1 := by rw [List.length_append, List.length_singleton]
      have hpl : us.length + 1 ≤ 50 := by have := hD.length; rw [List.length_map, hvl] at this; omega
      have hm2 : (S, tupO (us ++ [Value.ref b]) n) ∈ ex ++ T2 := List.mem_append_right _ hm
      have hb2 : (b, tupO [.int q.1 t1, .int q.2 t2] n2) ∈ ex ++ T2 := List.mem_append_right _ hb
      k_steps
      show wpAny _ _ _ _ _ _
      rename News _ _ _ _ => N5
      rename Fr _ _ _ _ => F5
      k_dflt (refine' Con.use (cNums w T2 _ (ps ++ [q]) q.2 _ hr0 hS hlen hnum (hps q (by simp)) (sep_last hS)) ex ?k1 ?k2 ?k3 ?k4 ?k5 ?k6 ?k7 ?k8 ?k9 ?k10 ?_; (case k1 => k_asm); (case k2 => k_asm); (case k3 => k_asm); (case k4 => k_asm); (case k5 => k_asm); (case k6 => exact rfl); (case k7 => ktr_room); (case k8 => ktr_units); (case k10 => first | assumption | exact fun _ _ _ hq => (List.not_mem_nil hq).elim); (case k9 => exact fun p h => h))
      rintro r mt' T3 h5 tk5 F6 N6 G6 - ⟨rfl, hr⟩
      simp only [List.cons_append, List.nil_append] at N6
      have hh := hr.handed
      k_steps
      rename News h₀ _ _ _ => N9
      exact con_ret ret [] T3 (by assumption) N9 rfl (fun p h => h) (G4.seq G6 fun q hq => hq) ⟨rfl, hr⟩
  have cRanges : CRanges Mine.top.heap_1_39 := by
    as_aux_lemma =>
      clear cEnds cPlain cSettled cSize cNums cUids
      unfold CRanges
      w_top off
      have k0 : PySem.Challenge.rw_nz0301_01 = PySem.Challenge.rw_nz0301_01 → True := fun _ => trivial
      revert k0
      k_fill
      intro _
      intro w fz v ns hv0 hpw hpos hlen
      obtain ⟨l, vs, n, rfl, hm, hD⟩ := dat_lst hv0
      have hvl : vs.length = ns.length := by rw [hD.length, List.length_map]
      unfold Con
      intro ex p loose mean mg mb dp un gd cn cs a ccd cl outer A₀ base h₀ L m s Q E B F X N T hk hd hu hoff ret
      refine wpAny_call ?_
      (try simp only [List.cons_append, List.nil_append] at N)
      (first | k_dflt k_enter | fail "enter")
      k_steps
      rename_i l' h2 l1 h3 F3 N3
      show wpAny _ _ _ _ _ _
      have o1 : ∀ p ∈ ex ++ fz, p.1 ≠ l' := fun p hp => Nat.ne_of_lt (l1 p hp)
      refine lp_list (σ := List Value × Nat) (fun c => [(l', listOf c.1.toArray c.2)]) ex fz (fun c => [("out", .ref l')]) (fun i c T => ∃ ps, DatAll T c.1 (pairsD ps) ∧ Sep ps ∧ numsOf ps = ns.take i ∧ ps.length ≤ i) [l'] ([], 0)
        rfl (List.mem_append_right _ hm) F3 N3 (fun p h => h) (fun _ => rfl) (fun p hp a ha => by rw [List.mem_singleton.mp ha]; exact o1 p hp) (by kst_all) ⟨[], .nil, ⟨(fun _ h => nomatch h), .nil⟩, rfl, Nat.le_refl _⟩ (fun I i v s Q E h hQ => go_name I v s Q E hQ) ?_ ?_
      · rintro i v c T1 u h tk I oI hv ⟨ps, hI, hS, hN, hL⟩ sub off hne F1 N1
        dsimp only at F1 N1 hv hI
        simp only [List.cons_append, List.nil_append] at N1
        obtain ⟨d, hd1, hd2⟩ := dat_at (hD.mono sub) hv
        rw [List.getElem?_map] at hd1
        obtain ⟨x, hq, rfl⟩ := Option.map_eq_some_iff.mp hd1
        cases hd2
        rename_i tx
        have hxi : ns.take (i + 1) = ns.take i ++ [x] := by rw [List.take_add_one, hq, Option.toList_some]
        have hi50 : i < 50 := by have := (List.getElem?_eq_some_iff.mp hq).1; omega
        have o2 : ∀ p ∈ ex ++ T1, p.1 ≠ l' := fun p hp => off p hp _ (.head _)
        have n1 : @Ne Nat I l' := fun e => hne (l', _) (.head _) e.symm
        have hx1 : 1 ≤ x := hpos x (List.mem_of_getElem? hq)
        clear F3 N3
        obtain ⟨ws, n8⟩ := c
        dsimp only at N1 hI
        rcases List.eq_nil_or_concat ps with rfl | ⟨ps, q, rfl⟩
        · cases hI
          (try k_fold)
          k_steps
          rename Fr _ _ _ _ => F9
          rename News _ _ _ _ => N9
          rw [List.push_toArray] at N9
          refine lend_new (c := ([], n8)) ([] ++ [Value.ref _], n8 + 1) F9 N9 (by assumption) (by kst_all) ⟨[(x, x)], DatAll.one (.tuple (.head _) (.cons (.int _ _) (.cons (.int _ _) .nil))), ⟨fun p hp => by rw [List.mem_singleton.mp hp]; exact ⟨hx1, Int.le_refl _⟩, List.pairwise_singleton _ _⟩, ?_, Nat.le_add_left _ _⟩
          rw [hxi, ← hN]
          exact nums_new (ps := [])
        · rw [List.concat_eq_append] at *
          obtain ⟨us, b, t3, t4, n4, rfl, hU, hb⟩ := dat_snoc hI
          have hb3 : (b, tupO [.int q.1 t3, .int q.2 t4] n4) ∈ ex ++ T1 := List.mem_append_right _ hb
          have hwl : (us ++ [Value.ref b]).length = us.length + 1 := by rw [List.length_append, List.length_singleton]
          have hul : us.length + 1 ≤ 50 := by have := hI.length; rw [List.length_map, hwl] at this; omega
          have hq12 := (hS.pos q (by simp)).2
          have hqx : q.2 < x := mem_take_lt hpw hq (hN ▸ nums_mem_last hq12)
          by_cases hle : x ≤ q.2 + 1
          · (try k_fold)
            k_steps
            rename_i D' h8 F9 N9 l9
            refine set_last (us := us) (x := Value.ref b) (v := Value.ref D') F9 N9 (.tail (Nat.ne_of_gt (show @LT.lt Nat _ l' D' from l9.2.1)) (.tail n1 (.head o2))) fun h7 F7 N7 => ?_
            clear F9 N9
            dsimp only
            k_steps
            refine lend_new (c := (us ++ [Value.ref b], n8)) (us ++ [Value.ref D'], n8) F7 N7 (by exact l9) (by kst_all) ⟨ps ++ [(q.1, x)], ?_, ?_, ?_, ?_⟩
            · rw [pairsD, List.map_append]
              exact (hU.mono fun p hp => .tail _ hp).append (DatAll.one (.tuple (.head _) (.cons (.int _ _) (.cons (.int _ _) .nil))))
            · have e : x = q.2 + 1 := by omega
              rw [e]
              exact sep_grow (a := q.1) (b := q.2) hS
            · have e : x = q.2 + 1 := by omega
              rw [hxi, ← hN, e]
              exact nums_grow hq12
            · rw [List.length_append, List.length_singleton] at hL ⊢
              omega
          · have hlt : q.2 + 1 < x := by omega
            (try k_fold)
            k_steps
            rename Fr _ _ _ _ => F9
            rename News _ _ _ _ => N9
            rw [List.push_toArray] at N9
            refine lend_new (c := (us ++ [Value.ref b], n8)) (us ++ [Value.ref b] ++ [Value.ref _], n8 + 1) F9 N9 (by assumption) (by kst_all) ⟨ps ++ [q] ++ [(x, x)], ?_, sep_new hS hlt, ?_, ?_⟩
            · rw [pairsD, List.map_append]
              exact (hI.mono fun p hp => .tail _ hp).append (DatAll.one (.tuple (.head _) (.cons (.int _ _) (.cons (.int _ _) .nil))))
            · rw [hxi, ← hN]
              exact nums_new
            · rw [List.length_append, List.length_singleton]
              omega
      · rintro c T1 u h tk ⟨ps, hI, hS, hN, hL⟩ G1 off F1 N1
        dsimp only at F1 N1 hI
        simp only [List.cons_append, List.nil_append] at N1
        rw [hvl, List.take_length] at hN
        rw [hvl] at hL
        obtain ⟨c1, c2⟩ := c
        dsimp only at hI N1
        have hcl : c1.length ≤ 50 := by rw [hI.length, List.length_map]; omega
        clear F3 N3
        (try k_fold)
        k_steps
        rename News h₀ _ _ _ => N9
        exact con_ret_new ret T1 (by assumption) N9 (by assumption) (fun p hp => .tail _ hp) (G1.weak fun p hp => .tail _ hp) ⟨rfl, ps, .tuple (.head _) (hI.mono fun p hp => .tail _ hp), hS, hN, hL⟩
  have cCopy : CCopy Mine.top.heap_1_39 := by
    as_aux_lemma =>
      clear cEnds cPlain cSettled cSize cNums cUids cRanges
      unfold CCopy
      w_top off
      have k0 : PySem.Challenge.rw_nz0301_01 = PySem.Challenge.rw_nz0301_01 → True := fun _ => trivial
      revert k0
      k_fill
      intro _
      intro w fz
      unfold Con
      intro ex p loose mean mg mb dp un gd cn cs a ccd cl outer A₀ base h₀ L m s Q E B F X N T hk hd hu hoff ret
      (try simp only [List.cons_append, List.nil_append] at N)
      k_steps
      rename News h₀ _ _ _ => N9
      exact copy_fin (t := ⟨_, _, _, _, _, _, _, _, _, _, _, _, _, _, _, _⟩) ret (by assumption) N9 (by assumption) (by assumption) (by assumption) (by assumption) (by assumption) (by assumption)
  have cTold : CTold Mine.top.heap_1_39 := by
    as_aux_lemma =>
      clear cEnds cPlain cSettled cSize cNums cUids cRanges cCopy
      unfold CTold
      w_top off
      have k0 : PySem.Challenge.rw_nz0301_01 = PySem.Challenge.rw_nz0301_01 → True := fun _ => trivial
      revert k0
      k_fill
      intro _
      intro w fz c dc rr kk t rs hC hlen
      obtain ⟨vs, nv, hrr, hH⟩ := hC.rows
      have hvl := hH.length
      unfold Con
      intro ex p loose mean mg mb dp un gd cn cs a ccd cl outer A₀ base h₀ L m s Q E B F X N T hk hd hu hoff ret
      refine wpAny_call ?_
      (try simp only [List.cons_append, List.nil_append] at N)
      (first | k_dflt k_enter | fail "enter")
      have q1 := List.mem_append_right ex hC.inst
      have q3 := List.mem_append_right ex hrr
      k_steps
      refine unstop ?_
      k_dflt (refine LCg.CompSrc.ledger rfl (by k_asm) (by k_asm) (.tail _ q3) (by rw [List.size_toArray, sizeLine_eq]; omega) ?_)
      intro g
      refine comp_inv (n := vs.toArray.size) (fun i ys T => ∃ T1, T = (dc, copyO w.params t rr kk) :: (ex ++ T1) ∧ Grow fz ([] ++ (((dc, copyO w.params t rr kk) :: ex) ++ fz)) T1 ∧ DatAll T1 ys (rowsD (rs.take i))) ?_ ?_ _ 0 [] _ (Nat.zero_add _) ⟨fz, rfl, Grow.refl, .nil⟩
      · rintro i ys _ hi ⟨T1, rfl, G1, hD⟩ v I oI C oC D m2 h tk E' hv hC2 hx F1 N1 off ne
        have hv := arr_get hv
        have hi2 : i < rs.length := by rw [List.size_toArray, hvl] at hi; exact hi
        obtain ⟨x, d, f, t', n', tf, e1, w1, w2, w3⟩ := (hH.mono G1.1).get hi2
        rw [hv] at e1
        cases e1
        have q4 := List.mem_append_right ex w1
        have q5 := List.mem_append_right ex w2
        have q6 := List.mem_append_right ex w3
        (try k_fold)
        k_steps
        rename News _ _ _ _ => N9
        rename_i D9 _ _ _ l9 _ _ _
        refine cend_new (ex := (dc, copyO w.params t rr kk) :: ex) (by assumption) N9 (by exact l9) off (.inr ⟨_, .tail _ (List.mem_append_right _ (.tail _ (G1.1 _ hrr))), rfl, _, rfl⟩) ⟨_ :: T1, rfl, G1.add l9.2.2.2, ?_⟩
        have hri : rs.take (i + 1) = rs.take i ++ [rs[i]] := by rw [List.take_add_one, List.getElem?_eq_getElem hi2, Option.toList_some]
        rw [hri, rowsD, List.map_append]
        exact (hD.mono fun p hp => .tail _ hp).append (DatAll.one (.tuple (.head _) (.cons (.int _ _) (.cons (.tuple (.tail _ w3) (.cons (.str _ _) .nil)) (.cons (.int _ _) .nil)))))
      · rintro ys _ ⟨T1, rfl, G1, hD⟩ D h tk F1 N1 off
        have hn : vs.toArray.size = rs.length := by rw [List.size_toArray, hvl]
        rw [hn, List.take_length] at hD
        have hyl : ys.length ≤ 50 := by rw [hD.length, List.length_map]; exact hlen
        k_steps
        rename News h₀ _ _ _ => N9
        exact con_ret_m2 ret T1 (by assumption) N9 (by assumption) (by assumption) (fun p hp => .tail _ hp) G1 ⟨rfl, .tuple (.head _) (.cons (.str _ _) (.cons (.int _ _) (.cons (.tuple (.tail _ (.head _)) (hD.mono fun p hp => .tail _ (.tail _ hp))) .nil)))⟩
  have cUidsL : CUidsL Mine.top.heap_1_39 := by
    as_aux_lemma =>
      clear cEnds cPlain cSettled cSize cNums cUids cRanges cCopy cTold
      unfold CUidsL
      w_top off
      have k0 : PySem.Challenge.rw_nz0301_01 = PySem.Challenge.rw_nz0301_01 → True := fun _ => trivial
      revert k0
      k_fill
      intro _
      intro w fz c dc rr kk t rs hC hlen
      obtain ⟨vs, nv, hrr, hH⟩ := hC.rows
      have hvl := hH.length
      unfold Con
      intro ex p loose mean mg mb dp un gd cn cs a ccd cl outer A₀ base h₀ L m s Q E B F X N T hk hd hu hoff ret
      refine wpAny_call ?_
      (try simp only [List.cons_append, List.nil_append] at N)
      (first | k_dflt k_enter | fail "enter")
      have q1 := List.mem_append_right ex hC.inst
      have q3 := List.mem_append_right ex hrr
      k_steps
      refine unstop ?_
      k_dflt (refine LCg.CompSrc.ledger rfl (by k_asm) (by k_asm) (.tail _ q3) (by rw [List.size_toArray, sizeLine_eq]; omega) ?_)
      intro g
      refine comp_inv (n := vs.toArray.size) (fun i ys T => T = (dc, copyO w.params t rr kk) :: (ex ++ fz) ∧ DatAll fz ys (((rs.take i).map (·.1)).map Dat.int)) ?_ ?_ _ 0 [] _ (Nat.zero_add _) ⟨rfl, .nil⟩
      · rintro i ys _ hi ⟨rfl, hD⟩ v I oI C oC D m2 h tk E' hv hC2 hx F1 N1 off ne
        have hv := arr_get hv
        have hi2 : i < rs.length := by rw [List.size_toArray, hvl] at hi; exact hi
        obtain ⟨x, d, f, t', n', tf, e1, w1, w2, w3⟩ := hH.get hi2
        rw [hv] at e1
        cases e1
        have q4 := List.mem_append_right ex w1
        have q5 := List.mem_append_right ex w2
        (try k_fold)
        k_steps
        rename News _ _ _ _ => N9
        refine cend_same (by assumption) N9 off (.inr ⟨_, .tail _ (List.mem_append_right _ hrr), rfl, _, rfl⟩) ⟨rfl, ?_⟩
        have hri : rs.take (i + 1) = rs.take i ++ [rs[i]] := by rw [List.take_add_one, List.getElem?_eq_getElem hi2, Option.toList_some]
        rw [hri, List.map_append, List.map_append]
        exact hD.append (DatAll.one (.int _ _))
      · rintro ys _ ⟨rfl, hD⟩ D h tk F1 N1 off
        have hn : vs.toArray.size = rs.length := by rw [List.size_toArray, hvl]
        rw [hn, List.take_length] at hD
        k_steps
        rename News h₀ _ _ _ => N9
        exact con_ret ret [(dc, copyO w.params t rr kk)] ((D, LCg.lst ys) :: fz) (by assumption) N9 rfl sub_mx (Grow.refl.new fun q hq => Ne.symm (off1_all off q hq)) ⟨rfl, .list (.head _) (ints_any hD)⟩
  have cMissing : CMissing Mine.top.heap_1_39 := by
    as_aux_lemma =>
      clear cEnds cPlain cSettled cSize cNums cUids cRanges cCopy cTold cUidsL
      unfold CMissing
      w_top off
      have k0 : PySem.Challenge.rw_nz0301_01 = PySem.Challenge.rw_nz0301_01 → True := fun _ => trivial
      revert k0
      k_fill
      intro _
      intro w fz c dc rr kk t rs hC hlen hpos
      obtain ⟨vs, nv, hrr, hH⟩ := hC.rows
      have hvl := hH.length
      unfold Con
      intro ex p loose mean mg mb dp un gd cn cs a ccd cl outer A₀ base h₀ L m s Q E B F X N T hk hd hu hoff ret
      refine wpAny_call ?_
      (try simp only [List.cons_append, List.nil_append] at N)
      (first | k_dflt k_enter | fail "enter")
      have q1 := List.mem_append_right ex hC.inst
      have q3 := List.mem_append_right ex hrr
      k_steps
      rename IsRange _ _ _ _ _ _ _ _ => rg
      rename News _ _ _ _ => N1
      rename Fr _ _ _ _ => F1
      refine unstop ?_
      k_dflt (refine LCt.CompSrcT.range (n := rs.length) rfl F1 N1 rg (small_one (by omega) (by omega) (by omega) (by omega)) ?_ (by rw [sizeLine_eq]; omega) ?_)
      · rw [rangeSize_nat]
        omega
      intro g
      refine comp_invT (n := rs.length) (fun i ys T => T = _ :: (dc, copyO w.params t rr kk) :: (ex ++ fz) ∧ ys = []) ?_ ?_ _ 0 [] _ (Nat.zero_add _) ⟨rfl, rfl⟩
      · rintro i _ _ hi ⟨rfl, rfl⟩ v I oI C oC D m2 h tk E' ⟨t3, rfl⟩ hC2 hx F2 N2 off ne
        obtain ⟨x, d, f, t', n', tf, e1, w1, w2, w3⟩ := hH.get hi
        have q4 := List.mem_append_right ex w1
        have q5 := List.mem_append_right ex w2
        have q6 := List.mem_append_right ex w3
        have hup := hpos _ (List.getElem_mem hi)
        have e2 : vs[(1 + (i : Int) - 1).toNat]? = some (Value.ref x) := by rw [show (1 + (i : Int) - 1).toNat = i by omega]; exact e1
        clear F1 N1 rg
        (try k_fold)
        k_steps
        rename News _ _ _ _ => N9
        exact cend_same (by assumption) N9 off trivial ⟨rfl, rfl⟩
      · rintro _ _ ⟨rfl, rfl⟩ D h tk F2 N2 off
        clear F1 N1 rg
        k_steps
        rename News h₀ _ _ _ => N9
        refine con_ret ret [(dc, copyO w.params t rr kk)] ((D, LCg.lst []) :: fz) (by assumption) N9 rfl (fun p hp => ?_) (Grow.refl.new fun q hq => Ne.symm (off1_all off q (.tail _ hq))) ⟨rfl, .list (.head _) .nil⟩
        rcases List.mem_cons.mp (sub_mx p hp) with rfl | hp
        · exact .head _
        · exact .tail _ (.tail _ hp)
  have cPlace : CPlace Mine.top.heap_1_39 := by
    as_aux_lemma =>
      clear cEnds cPlain cSettled cSize cNums cUids cRanges cCopy cTold cUidsL cMissing
      unfold CPlace
      w_top off
      have k0 : PySem.Challenge.rw_nz0301_01 = PySem.Challenge.rw_nz0301_01 → True := fun _ => trivial
      revert k0
      k_fill
      intro _
      intro w fz c dc rr kk t rs k uid tu hC hlen hlow hk0 hup
      obtain ⟨hk, hku⟩ := hk0
      obtain ⟨vs, nv, hrr, hH⟩ := hC.rows
      have hvl := hH.length
      unfold Con
      intro ex p loose mean mg mb dp un gd cn cs a ccd cl outer A₀ base h₀ L m s Q E B F X N T hk hd hu hoff ret
      refine wpAny_call ?_
      (try simp only [List.cons_append, List.nil_append] at N)
      (first | k_dflt k_enter | fail "enter")
      have q1 := List.mem_append_right ex hC.inst
      have q3 := List.mem_append_right ex hrr
      k_steps
      rename IsRange _ _ _ _ _ _ _ _ => rg
      rename News _ _ _ _ => N1
      rename Fr _ _ _ _ => F1
      show wpAny _ _ _ _ _ _
      refine lp_range (σ := Unit) (n := rs.length) (fun _ => [(dc, copyO w.params t rr kk)]) ex fz (fun _ => [("copy", .ref c), ("uid", .int uid tu)]) (fun i _ T => i ≤ k) [dc] ()
        rfl rg (small_one (by omega) (by omega) (by omega) (by omega)) (rangeSize_nat _ _) F1 N1 (fun p h => h) (fun _ => rfl) (fun p hp a ha => by rw [List.mem_singleton.mp ha]; exact hoff p hp _ (.head _)) (by kst_all) (Nat.zero_le _) (fun I v s Q E hQ => go_name I v s Q E hQ) ?_ ?_
      · rintro i v c9 T1 u h tk I oI ⟨hi, t9, rfl⟩ hik sub - hne F2 N2
        dsimp only at F2 N2 hik
        simp only [List.cons_append, List.nil_append] at N2
        rw [Int.zero_add]
        obtain ⟨x, d, f, t', n', tf, e1, w1, w2, w3⟩ := hH.get hi
        have q4 := List.mem_append_right ex (sub _ w1)
        have q5 := List.mem_append_right ex (sub _ w2)
        have q1 := List.mem_append_right ex (sub _ hC.inst)
        have q3 := List.mem_append_right ex (sub _ hrr)
        have e2 : vs[((i : Int)).toNat]? = some (Value.ref x) := by rw [Int.toNat_natCast]; exact e1
        clear F1 N1 rg
        by_cases hik2 : i = k
        · subst hik2
          have hu9 := hku
          generalize rs[i].1 = z at q5 hu9
          subst hu9
          (try k_fold)
          k_steps
          rename News h₀ _ _ _ => N9
          refine con_ret ret [(dc, copyO w.params t rr kk)] fz (by assumption) N9 rfl (fun p hp => .tail _ ?_) Grow.refl ⟨rfl, _, rfl⟩
          rcases List.mem_cons.mp hp with rfl | hp
          · exact .head _
          · exact .tail _ ((List.mem_append.mp (show p ∈ ex ++ fz from hp)).elim (fun h => List.mem_append_left _ h) fun h => List.mem_append_right _ (sub _ h))
        · have hlt := hlow i hi (by omega)
          obtain ⟨hl1, hl2⟩ := hlt
          generalize rs[i].1 = z at q5 hl1 hl2
          (try k_fold)
          k_steps
          rename Fr _ _ _ _ => F9
          rename News _ _ _ _ => N9
          exact lend (c := c9) () T1 F9 N9 (fun p h => h) Grow.refl (by kst_all) (by show i + 1 ≤ k; omega)
      · rintro c9 T1 u h tk hik
        omega
  have cDrop : CDrop Mine.top.heap_1_39 := by
    as_aux_lemma =>
      clear cEnds cPlain cSettled cSize cNums cUids cRanges cCopy cTold cUidsL cMissing
      unfold CDrop
      w_top off
      have k0 : PySem.Challenge.rw_nz0301_01 = PySem.Challenge.rw_nz0301_01 → True := fun _ => trivial
      revert k0
      k_fill
      intro _
      intro w fz c dc rr kk t rs k uid tu hC hlen hlow hk0 hup
      unfold Con
      intro ex p loose mean mg mb dp un gd cn cs a ccd cl outer A₀ base h₀ L m s Q E B F X N T hk hd hu hoff ret
      refine wpAny_call ?_
      (try simp only [List.cons_append, List.nil_append] at N)
      (first | k_dflt k_enter | fail "enter")
      have q1 := List.mem_append_right ex hC.inst
      k_steps
      show wpAny _ _ _ _ _ _
      k_dflt (refine' Con.use (cPlace w fz c dc rr kk t rs k uid _ hC hlen hlow hk0 hup) ex ?k1 ?k2 ?k3 ?k4 ?k5 ?k6 ?k7 ?k8 ?k9 ?k10 ?_; (case k1 => k_asm); (case k2 => k_asm); (case k3 => k_asm); (case k4 => k_asm); (case k5 => k_asm); (case k6 => exact rfl); (case k7 => ktr_room); (case k8 => ktr_units); (case k10 => first | assumption | exact fun _ _ _ hq => (List.not_mem_nil hq).elim); (case k9 => exact fun p h => h))
      rintro r mt' T2 h4 tk4 F4 N4 G4 - ⟨rfl, ⟨tk5, rfl⟩⟩
      simp only [List.cons_append, List.nil_append] at N4
      have hC2 := hC.mono G4.1
      obtain ⟨hk, hku⟩ := hk0
      obtain ⟨vs, nv, hrr, hH⟩ := hC2.rows
      have hvl := hH.length
      obtain ⟨x, d, f, t', n', tf, e1, w1, w2, w3⟩ := hH.get hk
      have q1 := List.mem_append_right ex hC2.inst
      have q3 := List.mem_append_right ex hrr
      have q4 := List.mem_append_right ex w1
      have q5 := List.mem_append_right ex w2
      have e2 : vs[((k : Int)).toNat]? = some (Value.ref x) := by rw [Int.toNat_natCast]; exact e1
      rw [hku] at q5
      have o1 : ∀ p ∈ ex ++ fz, p.1 ≠ dc := fun p hp => hoff p hp _ (.head _)
      have o2 : ∀ p ∈ ex ++ T2, p.1 ≠ dc := on_ex (in_ex o1) (G4.ne (o := copyO w.params t rr kk) (.head _) (out_ex o1))
      k_steps
      rename News h₀ _ _ _ => N9
      rename_i D _ l9 _ _ _ _ _ _
      rw [Int.toNat_natCast, show ((k : Int) + 1).toNat = k + 1 by omega] at N9
      refine con_ret ret [(dc, copyO w.params t D kk)] ((D, listOf (vs.take k ++ vs.drop (k + 1)).toArray 0) :: T2) (by assumption) N9 rfl (fun p hp => ?_) (G4.new fun q hq => ?_) ⟨D, rfl, rfl, (hC2.mono fun p hp => .tail _ hp).inst, ⟨_, 0, .head _, ((hH.take k).append (hH.drop (k + 1))).mono fun p hp => .tail _ hp⟩, (hC2.mono fun p hp => .tail _ hp).kept, hC2.plain⟩
      · rcases List.mem_cons.mp (sub_mx p hp) with rfl | hp
        · exact .head _
        · exact .tail _ (.tail _ (.tail _ hp))
      · rcases List.mem_cons.mp hq with rfl | hq
        · exact Nat.ne_of_gt l9.2.2.1
        · refine Nat.ne_of_gt (kst_ltOf l9.2.2.2 q ?_)
          rcases List.mem_append.mp (show q ∈ ex ++ fz from hq) with hq | hq
          · exact List.mem_append_left _ hq
          · exact List.mem_append_right _ (G4.1 q hq)
  have cVan : CVan Mine.top.heap_1_39 := by
    as_aux_lemma =>
      clear cEnds cPlain cSettled cNums cRanges cCopy cTold cUidsL cMissing cPlace
      unfold CVan
      w_top off
      have k0 : PySem.Challenge.rw_nz0301_01 = PySem.Challenge.rw_nz0301_01 → True := fun _ => trivial
      revert k0
      k_fill
      intro _
      intro w fz c dc rr kk t rs v ps ns hC hlen hpw hpos hv0 hS hne hpl hN hnp hsl
      unfold Con
      intro ex p loose mean mg mb dp un gd cn cs a ccd cl outer A₀ base h₀ L m s Q E B F X N T hk hd hu hoff ret
      refine wpAny_call ?_
      (try simp only [List.cons_append, List.nil_append] at N)
      (first | k_dflt k_enter | fail "enter")
      have q1 := List.mem_append_right ex hC.inst
      k_steps
      rename_i g' L' h' tk' FG' F1 B' X' T' l1 c1 c2 d1 d2 N1
      show wpAny _ _ _ _ _ _
      k_dflt (refine' Con.use (cSize w fz v ps hv0 hS hpl) ((L' + 1 + 1, c1) :: (L' + 1, c2) :: (dc, copyO w.params t rr kk) :: ex) ?k1 ?k2 ?k3 ?k4 ?k5 ?k6 ?k7 ?k8 ?k9 ?k10 ?_; (case k1 => k_asm); (case k2 => k_asm); (case k3 => k_asm); (case k4 => k_asm); (case k5 => k_asm); (case k6 => exact rfl); (case k7 => ktr_room); (case k8 => ktr_units); (case k10 => first | assumption | exact fun _ _ _ hq => (List.not_mem_nil hq).elim); (case k9 => exact fun p h => h))
      rintro r mt' T2 h4 tk4 F4 N4 G4 - ⟨rfl, ts, rfl⟩
      simp only [List.cons_append, List.nil_append] at N4
      have hsz : sizeZ ps ≤ (rs.length : Int) := by
        rw [sizeZ_nums ps hS.pos, hN]
        have := hsl.length_le
        rw [List.length_map] at this
        omega
      have hC2 := hC.mono G4.1
      obtain ⟨vs, nv, hrr, hH⟩ := hC2.rows
      have hvl := hH.length
      have q1 := List.mem_append_right ex hC2.inst
      have q3 := List.mem_append_right ex hrr
      k_steps
      have hnl : ns.length ≤ rs.length := by
        have := hsl.length_le
        rw [List.length_map] at this
        exact this
      have hns : ∀ n ∈ ns, ∃ r ∈ rs, r.1 = n := fun n hn => by
        obtain ⟨r, hr, e⟩ := List.mem_map.mp (hsl.subset hn)
        exact ⟨r, hr, e⟩
      have hnp2 : ∀ n ∈ ns, 0 < n ∧ n ≤ 1000000 := fun n hn => by
        obtain ⟨r, hr, rfl⟩ := hns n hn
        exact hpos r hr
      show wpAny _ _ _ _ _ _
      rename Fr _ _ _ _ => F5
      k_dflt (refine' Con.use (cUids w T2 v ps (hv0.mono G4.1) hS hne hpl (by rw [hN]; omega) (fun q hq => (hnp2 _ (hN ▸ nums_has hS hq)).2)) ((L' + 1 + 1, c1) :: (L' + 1, c2) :: (dc, copyO w.params t rr kk) :: ex) ?k1 ?k2 ?k3 ?k4 ?k5 ?k6 ?k7 ?k8 ?k9 ?k10 ?_; (case k1 => k_asm); (case k2 => k_asm); (case k3 => k_asm); (case k4 => k_asm); (case k5 => k_asm); (case k6 => exact rfl); (case k7 => ktr_room); (case k8 => ktr_units); (case k10 => first | assumption | exact fun _ _ _ hq => (List.not_mem_nil hq).elim); (case k9 => exact fun p h => h))
      rintro r mt' T3 h5 tk5 F6 N6 G6 - ⟨rfl, hr⟩
      rw [hN] at hr
      simp only [List.cons_append, List.nil_append] at N6
      obtain ⟨l, ws, nw, rfl, hl, hD⟩ := dat_lst hr
      have hwl : ws.length = ns.length := by rw [hD.length, List.length_map]
      have hC3 := hC2.mono G6.1
      have g1 : ∀ p ∈ ex ++ T3, p.1 ≠ dc := on_ex (fun p hp => hoff p (List.mem_append_left _ hp) _ (.head _)) ((G4.seq G6 fun q hq => hq).ne (o := copyO w.params t rr kk) (.tail _ (.tail _ (.head _))) fun p hp => hoff p (List.mem_append_right _ hp) _ (.head _))
      have hdl : @LT.lt Nat _ dc L' := l1.1
      have g2 : ∀ p ∈ ((L' + 1 + 1, c1) :: (L' + 1, c2) :: ex) ++ T3, p.1 ≠ dc := fun p hp => by
        rcases List.mem_cons.mp hp with rfl | hp
        · exact Nat.ne_of_gt (show @LT.lt Nat _ dc (L' + 1 + 1) by omega)
        · rcases List.mem_cons.mp hp with rfl | hp
          · exact Nat.ne_of_gt (show @LT.lt Nat _ dc (L' + 1) by omega)
          · exact g1 p hp
      refine lp_list (σ := Addr) (fun a => [(dc, copyO w.params t a kk)]) ((L' + 1 + 1, c1) :: (L' + 1, c2) :: ex) T3 (fun _ => []) (fun i a T => CopyIs w T c dc a kk (without (ns.take i) rs)) [dc] rr
        rfl (.tail _ (.tail _ (List.mem_append_right _ hl))) F6 N6 rot3 (fun _ => rfl) (fun p hp a ha => by rw [List.mem_singleton.mp ha]; exact g2 p hp) (by kst_all) (by rw [List.take_zero, without_nil]; exact hC3) (fun I i v s Q E h hQ => go_name I v s Q E hQ) ?_ ?_
      · rintro i v a T4 u h tk I oI hv hI sub off hne2 F7 N7
        dsimp only at F7 N7 hv hI
        simp only [List.cons_append, List.nil_append] at N7
        obtain ⟨d, hd1, hd2⟩ := dat_at (hD.mono sub) hv
        rw [List.getElem?_map] at hd1
        obtain ⟨x, hq, rfl⟩ := Option.map_eq_some_iff.mp hd1
        cases hd2
        rename_i tx
        have hxn := List.mem_of_getElem? hq
        obtain ⟨r0, hr0, hr0x⟩ := hns x hxn
        have hx0 := (hnp2 x hxn).1
        have hnot : x ∉ ns.take i := fun hm => absurd (mem_take_lt hnp hq hm) (Int.lt_irrefl _)
        obtain ⟨k, k1, k2, k3⟩ := find_k (u := x) (without_pw (ns := ns.take i) hpw) (fun r hr => (hpos r (List.mem_filter.mp hr).1).1) ⟨r0, List.mem_filter.mpr ⟨hr0, by rw [hr0x]; simpa using hnot⟩, hr0x⟩
        have hidc : @Ne Nat I dc := fun e => hne2 (dc, _) (.head _) e.symm
        have q1 := List.mem_append_right ex hI.inst
        clear F5 F6 N6 N4 N1 F1
        (try k_fold)
        k_steps
        show wpAny _ _ _ _ _ _
        rename Fr _ _ _ _ => F8
        rename News _ _ _ _ => N8
        have hko : ∀ p ∈ ((I, oI) :: (L' + 1 + 1, c1) :: (L' + 1, c2) :: ex) ++ T4, ∀ q ∈ [(dc, copyO w.params t a kk)], p.1 ≠ q.1 := by
          intro p hp q hq
          rw [List.mem_singleton.mp hq]
          rcases List.mem_cons.mp hp with rfl | hp
          · exact hidc
          · exact off p hp _ (.head _)
        k_dflt (refine' Con.use (cDrop w T4 c dc a kk t (without (ns.take i) rs) k x tx hI (Nat.le_trans (without_le _ _) hlen) k1 k2 hx0) ((I, oI) :: (L' + 1 + 1, c1) :: (L' + 1, c2) :: ex) ?k1 ?k2 ?k3 ?k4 ?k5 ?k6 ?k7 ?k8 ?k9 ?k10 ?_; (case k1 => k_asm); (case k2 => k_asm); (case k3 => k_asm); (case k4 => k_asm); (case k5 => k_asm); (case k6 => exact rfl); (case k7 => ktr_room); (case k8 => ktr_units); (case k10 => first | assumption | exact fun _ _ _ hq => (List.not_mem_nil hq).elim); (case k9 => exact swap2))
        rintro r mt' T5 h9 tk9 F9 N9 G9 - ⟨rr', rfl, rfl, hC9⟩
        simp only [List.cons_append, List.nil_append] at N9
        clear F8 N8
        k_steps
        rename Fr _ _ _ _ => F10
        rename News _ _ _ _ => N10
        refine lend (c := a) rr' T5 F10 N10 swap2 (G9.weak swap2) (by kst_all) ?_
        rw [List.take_add_one, hq, Option.toList_some, ← without_snoc, ← k3]
        exact hC9
      · rintro a T4 u h tk hI G7 off F7 N7
        dsimp only at F7 N7 hI
        simp only [List.cons_append, List.nil_append] at N7
        rw [hwl, List.take_length] at hI
        clear F5 F6 N6 N4 N1 F1
        (try k_fold)
        k_steps
        rename News h₀ _ _ _ => N9
        exact con_ret ret [(dc, copyO w.params t a kk)] T4 (by assumption) N9 rfl skip2 (((G4.seq G6 fun q hq => hq).seq G7 rot3b).weak fun p hp => .tail _ (.tail _ hp)) ⟨a, rfl, rfl, hI⟩
  have cVanE : CVanE Mine.top.heap_1_39 := by
    as_aux_lemma =>
      clear cEnds cPlain cSettled cSize cNums cUids cRanges cCopy cTold cUidsL cMissing cPlace cDrop cVan
      unfold CVanE
      w_top off
      have k0 : PySem.Challenge.rw_nz0301_01 = PySem.Challenge.rw_nz0301_01 → True := fun _ => trivial
      revert k0
      k_fill
      intro _
      intro w fz c dc rr kk t rs v hC
      unfold Con
      intro ex p loose mean mg mb dp un gd cn cs a ccd cl outer A₀ base h₀ L m s Q E B F X N T hk hd hu hoff ret
      refine wpAny_call ?_
      (try simp only [List.cons_append, List.nil_append] at N)
      (first | k_dflt k_enter | fail "enter")
      have q1 := List.mem_append_right ex hC.inst
      obtain ⟨ok, hk1, hk2⟩ := hC.kept
      have q2 := List.mem_append_right ex hk1
      k_steps
      refine unstop ?_
      refine ⟨kk, ok, _, rfl, rfl, hC.plain, by k_asm, by k_asm, .tail _ (.tail _ (.tail _ q2)), hk2, fun g D h tk F2 N2 off => ?_⟩
      k_steps
      show wpAny _ _ _ _ _ _
      have o1 : ∀ p ∈ ex ++ fz, p.1 ≠ dc := fun p hp => hoff p hp _ (.head _)
      k_dflt (refine dictn (by rfl) (by k_asm) (by k_asm) (modules_low (Top.nolimit (by k_asm))) (.head _) ?_)
      intro D2 o2 h2 tk2 F3 N3 l2 i2 a2
      have hdD : @Ne Nat dc D2 := Nat.ne_of_lt (l2 (dc, copyO w.params t rr kk) (by simp))
      have hDd : @Ne Nat dc D := off.2.2.1
      k_lt l2
      k_steps
      rename News h₀ _ _ _ => N9
      refine con_ret ret [(dc, copyO w.params t rr D2)] ((D2, o2) :: fz) (by assumption) N9 rfl (fun p hp => ?_) (Grow.refl.new fun q hq => ?_) ⟨D2, rfl, rfl, .tail _ hC.inst, hC.rows.mono fun p hp => .tail _ hp, ⟨o2, .head _, i2⟩, a2⟩
      · rcases List.mem_cons.mp (sub_mx p hp) with rfl | hp
        · exact .head _
        · exact .tail _ (.tail _ (.tail _ (.tail _ hp)))
      · rcases List.mem_cons.mp hq with rfl | hq
        · exact Nat.ne_of_gt l2.2.2.2.1
        · exact Nat.ne_of_gt (kst_ltOf l2.2.2.2.2 q hq)
  have cRow : CRow Mine.top.heap_1_39 := by
    as_aux_lemma =>
      clear cEnds cPlain cSettled cSize cNums cUids cRanges cCopy cTold cUidsL cMissing cPlace cDrop cVan cVanE
      unfold CRow
      w_top off
      have k0 : PySem.Challenge.rw_nz0301_01 = PySem.Challenge.rw_nz0301_01 → True := fun _ => trivial
      revert k0
      k_fill
      intro _
      intro w fz c dc rr kk t vs nv z tn x w1 w2 hl hz1 hz2 hx
      obtain ⟨nn, hvl⟩ : ∃ n, vs.length = n := ⟨_, rfl⟩
      unfold Con
      intro ex p loose mean mg mb dp un gd cn cs a ccd cl outer A₀ base h₀ L m s Q E B F X N T hk hd hu hoff ret
      refine wpAny_call ?_
      (try simp only [List.cons_append, List.nil_append] at N)
      (first | k_dflt k_enter | fail "enter")
      have q1 := List.mem_append_right ex w1
      have q3 := List.mem_append_right ex w2
      k_steps
      rename News h₀ _ _ _ => N9
      exact con_ret ret [(dc, copyO w.params t rr kk)] fz (by assumption) N9 rfl (fun p hp => hp) Grow.refl ⟨rfl, rfl⟩
  have cExists : CExists Mine.top.heap_1_39 := by
    as_aux_lemma =>
      clear cEnds cPlain cSettled cSize cNums cUids cRanges cCopy cTold cUidsL cMissing cPlace cDrop cVan cVanE cRow
      unfold CExists
      w_top off
      have k0 : PySem.Challenge.rw_nz0301_01 = PySem.Challenge.rw_nz0301_01 → True := fun _ => trivial
      revert k0
      k_fill
      intro _
      intro w fz c dc rr kk t rs z tn hC hlen hz
      obtain ⟨vs, nv, hrr, hH⟩ := hC.rows
      have hvl := hH.length
      unfold Con
      intro ex p loose mean mg mb dp un gd cn cs a ccd cl outer A₀ base h₀ L m s Q E B F X N T hk hd hu hoff ret
      refine wpAny_call ?_
      (try simp only [List.cons_append, List.nil_append] at N)
      (first | k_dflt k_enter | fail "enter")
      have q1 := List.mem_append_right ex hC.inst
      have q3 := List.mem_append_right ex hrr
      k_steps
      rename IsRange _ _ _ _ _ _ _ _ => rg
      rename News _ _ _ _ => N1
      rename Fr _ _ _ _ => F1
      refine unstop ?_
      k_dflt (refine LCg.CompSrc.range (n := 1) rfl F1 N1 rg (small_one (by omega) (by omega) (by omega) (by omega)) ?_ (by rw [sizeLine_eq]; omega) ?_)
      · rw [show z - (rs.length : Int) = 1 by omega]
        rfl
      intro g
      refine LCg.CompRest.succ fun v I oI C oC D m2 h tk E' hv hC2 hx F2 N2 off ne => ?_
      obtain ⟨t3, rfl⟩ := hv
      clear F1 N1 rg
      (try k_fold)
      k_steps
      rename News _ _ _ _ => N9
      refine cend_held (t := ⟨_, _, _, _, _⟩) (by assumption) N9 (by assumption) (by assumption) off fun ht l2 l1 => ?_
      refine LCg.CompRest.zero fun D3 h3 tk3 F3 N3 off3 => ?_
      have o1 : ∀ p ∈ ex ++ fz, p.1 ≠ dc := fun p hp => hoff p hp _ (.head _)
      rename_i x d _ _ _ _ _ _ _ _ _ _ _ _ _ _ _ _ _ _ _ _
      have a1 : @LT.lt Nat _ dc d := l1.1
      have a2 : @LT.lt Nat _ dc x := Nat.lt_trans a1 l2
      have a3 : @Ne Nat dc d := Nat.ne_of_lt a1
      have a4 : @Ne Nat dc x := Nat.ne_of_lt a2
      have a5 : @Ne Nat dc D3 := off3.2.2.1
      k_steps
      rename News h₀ _ _ _ => N9
      rename_i D4 _ l4 _ _ _ _ _ _
      have m4 := kst_ltOf l4.2.2.2.2
      have ml := kst_ltOf l1.2
      have Hm : ∀ p ∈ fz, p ∈ (D4, listOf (vs ++ [Value.ref x]).toArray 0) :: (x, instObj 175 d) :: fz := fun p hp => .tail _ (.tail _ hp)
      have hal : ∀ q ∈ (dc, copyO w.params t rr kk) :: (ex ++ fz), @LT.lt Nat _ q.1 d := kst_ltOf l1
      refine ret .none [(dc, copyO w.params t D4 kk), (d, heldO w.params ht 0 .none)] ((D4, listOf (vs ++ [Value.ref x]).toArray 0) :: (x, instObj 175 d) :: fz) _ _ (by assumption) (fun p hp => N9 p ?_) ((Grow.refl.new fun q hq => ?_).new fun q hq => ?_) (fun p hp => ?_) ⟨D4, x, d, ht, rfl, rfl, ⟨Hm _ hC.inst, ⟨vs, 0, .head _, hH.mono Hm⟩, .tail _ (.head _), hC.kept.imp fun o x => ⟨Hm _ x.1, x.2⟩, hC.plain⟩, fun p hp => ?_, Ne.symm a3⟩
      · rcases List.mem_append.mp hp with hp | hp
        · rcases List.mem_cons.mp hp with rfl | hp
          · exact .tail _ (.tail _ (.tail _ (.tail _ (.head _))))
          · rw [List.mem_singleton.mp hp]; exact .tail _ (.tail _ (.tail _ (.head _)))
        · rcases List.mem_append.mp hp with hp | hp
          · exact .tail _ (.tail _ (.tail _ (.tail _ (.tail _ (List.mem_append_left _ hp)))))
          · rcases List.mem_cons.mp hp with rfl | hp
            · exact .head _
            · rcases List.mem_cons.mp hp with rfl | hp
              · exact .tail _ (.tail _ (.head _))
              · exact .tail _ (.tail _ (.tail _ (.tail _ (.tail _ (List.mem_append_right _ hp)))))
      · exact Nat.ne_of_gt (Nat.lt_trans (hal q hq) l2)
      · rcases List.mem_cons.mp hq with rfl | hq
        · exact Nat.ne_of_gt l4.2.2.2.1
        · exact Nat.ne_of_gt (m4 q hq)
      · rcases List.mem_cons.mp hp with rfl | hp
        · exact .inl (.head _)
        · rw [List.mem_singleton.mp hp]
          exact .inr fun q hq => Nat.ne_of_gt (hal q hq)
      · rcases List.mem_cons.mp hp with rfl | hp
        · exact Nat.ne_of_gt l4.2.2.1
        · rcases List.mem_cons.mp hp with rfl | hp
          · exact Nat.ne_of_gt l2
          · exact Nat.ne_of_lt (hal p (.tail _ (List.mem_append_right _ hp)))
  have cCheck : CCheck Mine.top.heap_1_39 := by
    as_aux_lemma =>
      clear cEnds cPlain cSettled cSize cNums cUids cRanges cCopy cTold cUidsL cMissing cPlace cDrop cVan cVanE cRow cExists
      unfold CCheck
      w_top off
      have k0 : PySem.Challenge.rw_nz0301_01 = PySem.Challenge.rw_nz0301_01 → True := fun _ => trivial
      revert k0
      k_fill
      intro _
      intro w fz c dc rr kk hh dh t ht rs z u tn tu hC hlen hz hlow hup hdd
      obtain ⟨vs, nv, hrr, hH⟩ := hC.rows
      have hvl0 := hH.length
      obtain ⟨ws, hws⟩ : ∃ ws, ws = vs ++ [Value.ref hh] := ⟨_, rfl⟩
      rw [← hws] at hrr
      have hvl : ws.length = rs.length + 1 := by rw [hws, List.length_append, hvl0]; rfl
      unfold Con
      intro ex p loose mean mg mb dp un gd cn cs a ccd cl outer A₀ base h₀ L m s Q E B F X N T hk hd hu hoff ret
      refine wpAny_call ?_
      (try simp only [List.cons_append, List.nil_append] at N)
      (first | k_dflt k_enter | fail "enter")
      have q1 := List.mem_append_right ex hC.inst
      have q3 := List.mem_append_right ex hrr
      have q6 := List.mem_append_right ex hC.held
      k_steps
      rename IsRange _ _ _ _ _ _ _ _ => rg
      rename News _ _ _ _ => N1
      rename Fr _ _ _ _ => F1
      show wpAny _ _ _ _ _ _
      refine lp_range (σ := Unit) (n := rs.length + 1) (fun _ => [(dc, copyO w.params t rr kk), (dh, heldO w.params ht 0 .none)]) ex fz (fun _ => [("copy", .ref c), ("number", .int z tn), ("uid", .int u tu)]) (fun _ _ T => True) [dc, dh] ()
        rfl rg (small_one (by omega) (by omega) (by omega) (by omega)) (rangeSize_nat _ _) F1 N1 (fun p h => h) (fun _ => rfl) (fun p hp a ha => ?_) (by kst_all) trivial (fun I v s Q E hQ => go_name I v s Q E hQ) ?_ ?_
      · rcases List.mem_cons.mp ha with rfl | ha
        · exact hoff p hp _ (.head _)
        · rw [List.mem_singleton.mp ha]; exact hoff p hp _ (.tail _ (.head _))
      · rintro i v c9 T1 u2 h tk I oI ⟨hi, t9, rfl⟩ - sub - hne F2 N2
        dsimp only at F2 N2
        simp only [List.cons_append, List.nil_append] at N2
        rw [Int.zero_add]
        have q1 := List.mem_append_right ex (sub _ hC.inst)
        have q3 := List.mem_append_right ex (sub _ hrr)
        have q6 := List.mem_append_right ex (sub _ hC.held)
        clear F1 N1 rg
        by_cases hik : i = rs.length
        · have e2 : ws[((i : Int)).toNat]? = some (Value.ref hh) := by rw [Int.toNat_natCast, hik, hws, ← hvl0]; exact List.getElem?_concat_length
          (try k_fold)
          k_steps
          rename Fr _ _ _ _ => F9
          rename News _ _ _ _ => N9
          exact lend (c := c9) () T1 F9 N9 (fun p h => h) Grow.refl (by kst_all) trivial
        · have hi2 : i < rs.length := by omega
          obtain ⟨x, d, f, t', n', tf, e1, w1, w2, w3⟩ := hH.get hi2
          have q4 := List.mem_append_right ex (sub _ w1)
          have q5 := List.mem_append_right ex (sub _ w2)
          have e2 : ws[((i : Int)).toNat]? = some (Value.ref x) := by rw [Int.toNat_natCast, hws, List.getElem?_append_left (by rw [hvl0]; exact hi2)]; exact e1
          obtain ⟨hl1, hl2⟩ := hlow _ (List.getElem_mem hi2)
          generalize rs[i].1 = zz at q5 hl1 hl2
          (try k_fold)
          k_steps
          rename Fr _ _ _ _ => F9
          rename News _ _ _ _ => N9
          exact lend (c := c9) () T1 F9 N9 (fun p h => h) Grow.refl (by kst_all) trivial
      · rintro c9 T1 u2 h tk - G off F2 N2
        dsimp only at F2 N2
        simp only [List.cons_append, List.nil_append] at N2
        clear F1 N1 rg
        (try k_fold)
        k_steps
        rename News h₀ _ _ _ => N9
        exact con_ret ret [(dc, copyO w.params t rr kk), (dh, heldO w.params ht 0 .none)] T1 (by assumption) N9 rfl (fun p hp => hp) G ⟨rfl, rfl⟩
  have cFetch : CFetch Mine.top.heap_1_39 := by
    as_aux_lemma =>
      clear cEnds cPlain cSettled cSize cNums cUids cRanges cCopy cTold cUidsL cMissing cPlace cDrop cVan cVanE cExists
      unfold CFetch
      w_top off
      have k0 : PySem.Challenge.rw_nz0301_01 = PySem.Challenge.rw_nz0301_01 → True := fun _ => trivial
      revert k0
      k_fill
      intro _
      intro w fz c dc rr kk hh dh t ht rs z u tn v flag tu x p1 p2 fl a1 da t1 t2 t3 t4 n0 n1 n2 n3 hC hlen hz hlow hup hdd hP
      obtain ⟨vs, nv, hrr, hH⟩ := hC.rows
      have hvl0 := hH.length
      unfold Con
      intro ex p loose mean mg mb dp un gd cn cs a ccd cl outer A₀ base h₀ L m s Q E B F X N T hk hd hu hoff ret
      refine wpAny_call ?_
      (try simp only [List.cons_append, List.nil_append] at N)
      (first | k_dflt k_enter | fail "enter")
      have q1 := List.mem_append_right ex hC.inst
      k_steps
      show wpAny _ _ _ _ _ _
      have hko : ∀ p ∈ ((dh, heldO w.params ht 0 .none) :: ex) ++ fz, ∀ q ∈ [(dc, copyO w.params t rr kk)], p.1 ≠ q.1 := off_cons hdd (off_fst hoff)
      k_dflt (refine' Con.use (cRow w fz c dc rr kk t (vs ++ [Value.ref hh]) nv z tn (Value.ref hh) hC.inst hrr (by simp; omega) (by omega) (by simp; omega) (by rw [hz, show ((rs.length : Int) + 1 - 1).toNat = vs.length by omega]; exact List.getElem?_concat_length)) ((dh, heldO w.params ht 0 .none) :: ex) ?k1 ?k2 ?k3 ?k4 ?k5 ?k6 ?k7 ?k8 ?k9 ?k10 ?_; (case k1 => k_asm); (case k2 => k_asm); (case k3 => k_asm); (case k4 => k_asm); (case k5 => k_asm); (case k6 => exact rfl); (case k7 => ktr_room); (case k8 => ktr_units); (case k10 => first | assumption | exact fun _ _ _ hq => (List.not_mem_nil hq).elim); (case k9 => exact fun p h => h))
      rintro r mt' T2 h4 tk4 F4 N4 G4 - ⟨rfl, rfl⟩
      simp only [List.cons_append, List.nil_append] at N4
      have hP2 : PairsIs w.params (ex ++ T2) v u flag tu x p1 p2 fl a1 da t1 t2 t3 t4 n0 n1 n2 n3 := hP.mono fun p hp => List.mem_append_right _ (G4.1 p hp)
      obtain ⟨rfl, b1, b2, b3, b4, b5, b6⟩ := hP2
      k_steps
      show wpAny _ _ _ _ _ _
      k_dflt (refine dictp (by rfl) (by k_asm) (by k_asm) (modules_low (Top.nolimit (by k_asm))) (.tail _ (.tail _ b1)) (.tail _ (.tail _ b2)) (.tail _ (.tail _ b3)) (by decide) ?_)
      intro D2 o2 h2 tk2 F3 N3 l2 i2 a2
      have hdD : @LT.lt Nat _ dc D2 := l2 (dc, copyO w.params t rr kk) (.head _)
      have hdD2 : @LT.lt Nat _ dh D2 := l2 (dh, heldO w.params ht 0 .none) (.tail _ (.head _))
      k_lt l2
      k_steps
      show wpAny _ _ _ _ _ _
      have hC2 := hC.mono G4.1
      have o4 : ∀ p ∈ ex ++ T2, ∀ q ∈ [(dc, copyO w.params t rr kk), (dh, heldO w.params ht 0 .none)], p.1 ≠ q.1 := off_grow G4 hoff (fun q hq => by
        rcases List.mem_cons.mp hq with rfl | hq
        · exact .head _
        · rw [List.mem_singleton.mp hq]; exact .tail _ (.head _))
      have hko2 : ∀ p ∈ ((D2, o2) :: ex) ++ T2, ∀ q ∈ [(dc, copyO w.params t rr kk), (dh, heldO w.params ht 0 .none)], p.1 ≠ q.1 := off_cons2 (Nat.ne_of_gt hdD) (Nat.ne_of_gt hdD2) o4
      k_dflt (refine' Con.use (cCheck w T2 c dc rr kk hh dh t ht rs z u tn tu hC2 hlen hz hlow hup hdd) ((D2, o2) :: ex) ?k1 ?k2 ?k3 ?k4 ?k5 ?k6 ?k7 ?k8 ?k9 ?k10 ?_; (case k1 => k_asm); (case k2 => k_asm); (case k3 => k_asm); (case k4 => k_asm); (case k5 => k_asm); (case k6 => exact rfl); (case k7 => ktr_room); (case k8 => ktr_units); (case k10 => first | assumption | exact fun _ _ _ hq => (List.not_mem_nil hq).elim); (case k9 => exact rot3b))
      rintro r mt' T3 h5 tk5 F5 N5 G5 - ⟨rfl, rfl⟩
      simp only [List.cons_append, List.nil_append] at N5
      have hm3 : ∀ p ∈ ex ++ T2, p ∈ ex ++ T3 := fun p hp => (List.mem_append.mp hp).elim (fun h => List.mem_append_left _ h) fun h => List.mem_append_right _ (G5.1 p h)
      have b4 := hm3 _ b4
      have b5 := hm3 _ b5
      have b6 := hm3 _ b6
      have q6 := List.mem_append_right ex (G5.1 _ hC2.held)
      have o5 : ∀ p ∈ ex ++ T3, ∀ q ∈ [(dc, copyO w.params t rr kk), (dh, heldO w.params ht 0 .none)], p.1 ≠ q.1 := off_grow G5 o4 (fun q hq => by
        rcases List.mem_cons.mp hq with rfl | hq
        · exact .head _
        · rw [List.mem_singleton.mp hq]; exact .tail _ (.head _))
      have o6 : ∀ p ∈ ex ++ T3, p.1 ≠ dh := fun p hp => o5 p hp _ (.tail _ (.head _))
      have o8 : @Ne Nat dh dc := hdd
      have o7 : @Ne Nat dh D2 := Nat.ne_of_lt hdD2
      k_steps
      refine unstop ?_
      k_dflt (refine LCg.CompSrc.ledger rfl (by k_asm) (by k_asm) (.tail _ (.tail _ (.tail _ b4))) (by rw [sizeLine_eq]; show 1 ≤ 16777216; decide) ?_)
      intro g
      refine LCg.CompRest.succ (k := 0) fun v I oI C oC D m2 h tk E' hv hC2 hx F2 N2 off ne => ?_
      obtain rfl : Value.ref a1 = v := by simpa using hv
      (try k_fold)
      k_steps
      rename News _ _ _ _ => N9
      refine cend_same (by assumption) N9 off ?_ ?_
      · exact Or.inr ⟨_, .tail _ (.tail _ (.tail _ b4)), rfl, _, rfl⟩
      refine LCg.CompRest.zero fun D3 h3 tk3 F6 N6 off3 => ?_
      have o9 : @Ne Nat dh D3 := off3.2.1
      k_steps
      show wpAny _ _ _ _ _ _
      k_dflt (refine sorted_one (by k_asm) (by k_asm) (.head _) ?_)
      intro D4 h6 t6 e6 F7 N7 l7
      have o10 : @LT.lt Nat _ dh D4 := l7 (dh, _) (.tail _ (.tail _ (.head _)))
      k_lt l7
      k_steps
      rename News h₀ _ _ _ => N9
      exact fetch_fin (ht' := ⟨ht.k1, ht.k2, ht.k3, tu, _⟩) ret (by assumption) N9 (by assumption) (G4.sub G5 (sub_cons (sub_cons (sub_skip (sub_app G4.1)))))
  have cTakeE : CTakeE Mine.top.heap_1_39 := by
    as_aux_lemma =>
      clear cEnds cPlain cSettled cSize cNums cUids cRanges cCopy cTold cUidsL cMissing cPlace cDrop cVan cVanE cRow cCheck cFetch
      unfold CTakeE
      w_top off
      have k0 : PySem.Challenge.rw_nz0301_01 = PySem.Challenge.rw_nz0301_01 → True := fun _ => trivial
      revert k0
      k_fill
      intro _
      intro w fz c dc rr kk t rs z tn an ta na hC hlen hz hA
      unfold Con
      intro ex p loose mean mg mb dp un gd cn cs a ccd cl outer A₀ base h₀ L m s Q E B F X N T hk hd hu hoff ret
      refine wpAny_call ?_
      (try simp only [List.cons_append, List.nil_append] at N)
      (first | k_dflt k_enter | fail "enter")
      have q1 := List.mem_append_right ex hC.inst
      have q2 := List.mem_append_right ex hA
      k_steps
      show wpAny _ _ _ _ _ _
      k_dflt (refine' Con.use (cExists w fz c dc rr kk t rs z tn hC hlen hz) ex ?k1 ?k2 ?k3 ?k4 ?k5 ?k6 ?k7 ?k8 ?k9 ?k10 ?_; (case k1 => k_asm); (case k2 => k_asm); (case k3 => k_asm); (case k4 => k_asm); (case k5 => k_asm); (case k6 => exact rfl); (case k7 => ktr_room); (case k8 => ktr_units); (case k10 => first | assumption | exact fun _ _ _ hq => (List.not_mem_nil hq).elim); (case k9 => exact fun p h => h))
      rintro r mt' T2 h4 tk4 F4 N4 G4 H4 ⟨rr', h, dh, ht, rfl, rfl, hR, hdh, hne⟩
      simp only [List.cons_append, List.nil_append] at N4
      k_steps
      rename News h₀ _ _ _ => N9
      exact ret _ _ T2 _ _ (by assumption) N9 G4 H4 ⟨rr', h, dh, ht, rfl, rfl, hR, hdh, hne⟩
  have cTakeF : CTakeF Mine.top.heap_1_39 := by
    as_aux_lemma =>
      clear cEnds cPlain cSettled cSize cNums cUids cRanges cCopy cTold cUidsL cMissing cPlace cDrop cVan cVanE cRow cExists cCheck cTakeE
      unfold CTakeF
      w_top off
      have k0 : PySem.Challenge.rw_nz0301_01 = PySem.Challenge.rw_nz0301_01 → True := fun _ => trivial
      revert k0
      k_fill
      intro _
      intro w fz c dc rr kk hh dh t ht rs z u tn v flag tu x p1 p2 fl a1 da t1 t2 t3 t4 n0 n1 n2 n3 an ta na hC hlen hz hlow hup hdd hP hA
      unfold Con
      intro ex p loose mean mg mb dp un gd cn cs a ccd cl outer A₀ base h₀ L m s Q E B F X N T hk hd hu hoff ret
      refine wpAny_call ?_
      (try simp only [List.cons_append, List.nil_append] at N)
      (first | k_dflt k_enter | fail "enter")
      have q1 := List.mem_append_right ex hC.inst
      have q2 := List.mem_append_right ex hA
      k_steps
      show wpAny _ _ _ _ _ _
      k_dflt (refine' Con.use (cFetch w fz c dc rr kk hh dh t ht rs z u tn v flag tu x p1 p2 fl a1 da t1 t2 t3 t4 n0 n1 n2 n3 hC hlen hz hlow hup hdd hP) ex ?k1 ?k2 ?k3 ?k4 ?k5 ?k6 ?k7 ?k8 ?k9 ?k10 ?_; (case k1 => k_asm); (case k2 => k_asm); (case k3 => k_asm); (case k4 => k_asm); (case k5 => k_asm); (case k6 => exact rfl); (case k7 => ktr_room); (case k8 => ktr_units); (case k10 => first | assumption | exact fun _ _ _ hq => (List.not_mem_nil hq).elim); (case k9 => exact fun p h => h))
      rintro r mt' T2 h4 tk4 F4 N4 G4 H4 ⟨ht', f, tf, nf, rfl, rfl, hf⟩
      simp only [List.cons_append, List.nil_append] at N4
      k_steps
      rename News h₀ _ _ _ => N9
      exact ret _ _ T2 _ _ (by assumption) N9 G4 H4 ⟨ht', f, tf, nf, rfl, rfl, hf⟩
  have cTakeW : CTakeW Mine.top.heap_1_39 := by
    as_aux_lemma =>
      clear cEnds cPlain cSettled cSize cNums cUids cRanges cCopy cTold cUidsL cMissing cPlace cDrop cVan cRow cExists cCheck cFetch cTakeE cTakeF
      unfold CTakeW
      w_top off
      have k0 : PySem.Challenge.rw_nz0301_01 = PySem.Challenge.rw_nz0301_01 → True := fun _ => trivial
      revert k0
      k_fill
      intro _
      intro w fz c dc rr kk t rs v an ta na hC hA
      unfold Con
      intro ex p loose mean mg mb dp un gd cn cs a ccd cl outer A₀ base h₀ L m s Q E B F X N T hk hd hu hoff ret
      refine wpAny_call ?_
      (try simp only [List.cons_append, List.nil_append] at N)
      (first | k_dflt k_enter | fail "enter")
      have q1 := List.mem_append_right ex hC.inst
      have q2 := List.mem_append_right ex hA
      k_steps
      show wpAny _ _ _ _ _ _
      k_dflt (refine' Con.use (cVanE w fz c dc rr kk t rs v hC) ex ?k1 ?k2 ?k3 ?k4 ?k5 ?k6 ?k7 ?k8 ?k9 ?k10 ?_; (case k1 => k_asm); (case k2 => k_asm); (case k3 => k_asm); (case k4 => k_asm); (case k5 => k_asm); (case k6 => exact rfl); (case k7 => ktr_room); (case k8 => ktr_units); (case k10 => first | assumption | exact fun _ _ _ hq => (List.not_mem_nil hq).elim); (case k9 => exact fun p h => h))
      rintro r mt' T2 h4 tk4 F4 N4 G4 H4 ⟨kk', rfl, rfl, hC2⟩
      simp only [List.cons_append, List.nil_append] at N4
      k_steps
      rename News h₀ _ _ _ => N9
      exact ret _ _ T2 _ _ (by assumption) N9 G4 H4 ⟨kk', rfl, rfl, hC2⟩
  have cTakeV : CTakeV Mine.top.heap_1_39 := by
    as_aux_lemma =>
      clear cEnds cPlain cSettled cSize cNums cUids cRanges cCopy cTold cUidsL cMissing cPlace cDrop cVanE cRow cExists cCheck cFetch cTakeE cTakeF cTakeW
      unfold CTakeV
      w_top off
      have k0 : PySem.Challenge.rw_nz0301_01 = PySem.Challenge.rw_nz0301_01 → True := fun _ => trivial
      revert k0
      k_fill
      intro _
      intro w fz c dc rr kk t rs v ps ns an ta na hC hlen hpw hpos hv0 hS hne hpl hN hnp hsl hA
      unfold Con
      intro ex p loose mean mg mb dp un gd cn cs a ccd cl outer A₀ base h₀ L m s Q E B F X N T hk hd hu hoff ret
      refine wpAny_call ?_
      (try simp only [List.cons_append, List.nil_append] at N)
      (first | k_dflt k_enter | fail "enter")
      have q1 := List.mem_append_right ex hC.inst
      have q2 := List.mem_append_right ex hA
      k_steps
      show wpAny _ _ _ _ _ _
      k_dflt (refine' Con.use (cVan w fz c dc rr kk t rs v ps ns hC hlen hpw hpos hv0 hS hne hpl hN hnp hsl) ex ?k1 ?k2 ?k3 ?k4 ?k5 ?k6 ?k7 ?k8 ?k9 ?k10 ?_; (case k1 => k_asm); (case k2 => k_asm); (case k3 => k_asm); (case k4 => k_asm); (case k5 => k_asm); (case k6 => exact rfl); (case k7 => ktr_room); (case k8 => ktr_units); (case k10 => first | assumption | exact fun _ _ _ hq => (List.not_mem_nil hq).elim); (case k9 => exact fun p h => h))
      rintro r mt' T2 h4 tk4 F4 N4 G4 H4 ⟨rr', rfl, rfl, hC2⟩
      simp only [List.cons_append, List.nil_append] at N4
      k_steps
      rename News h₀ _ _ _ => N9
      exact ret _ _ T2 _ _ (by assumption) N9 G4 H4 ⟨rr', rfl, rfl, hC2⟩
  have cTakeX : CTakeX Mine.top.heap_1_39 := by
    as_aux_lemma =>
      clear cEnds cPlain cSettled cSize cNums cUids cRanges cCopy cTold cUidsL cMissing cPlace cDrop cVan cVanE cExists cCheck cFetch cTakeE cTakeF cTakeW cTakeV
      unfold CTakeX
      w_top off
      have k0 : PySem.Challenge.rw_nz0301_01 = PySem.Challenge.rw_nz0301_01 → True := fun _ => trivial
      revert k0
      k_fill
      intro _
      intro w fz c dc rr kk t rs z k tn an ta na hC hlen hz hk hA
      obtain ⟨vs, nv, hrr, hH⟩ := hC.rows
      have hvl := hH.length
      obtain ⟨x, d, f, t', n', tf, e1, w1, w2, w3⟩ := hH.get hk
      unfold Con
      intro ex p loose mean mg mb dp un gd cn cs a ccd cl outer A₀ base h₀ L m s Q E B F X N T hk hd hu hoff ret
      refine wpAny_call ?_
      (try simp only [List.cons_append, List.nil_append] at N)
      (first | k_dflt k_enter | fail "enter")
      have q1 := List.mem_append_right ex hC.inst
      have q2 := List.mem_append_right ex hA
      k_steps
      show wpAny _ _ _ _ _ _
      k_dflt (refine' Con.use (cRow w fz c dc rr kk t vs nv z tn (Value.ref x) hC.inst hrr (by omega) (by omega) (by omega) (by rw [hz, show ((k : Int) + 1 - 1).toNat = k by omega]; exact e1)) ex ?k1 ?k2 ?k3 ?k4 ?k5 ?k6 ?k7 ?k8 ?k9 ?k10 ?_; (case k1 => k_asm); (case k2 => k_asm); (case k3 => k_asm); (case k4 => k_asm); (case k5 => k_asm); (case k6 => exact rfl); (case k7 => ktr_room); (case k8 => ktr_units); (case k10 => first | assumption | exact fun _ _ _ hq => (List.not_mem_nil hq).elim); (case k9 => exact fun p h => h))
      rintro r mt' T2 h4 tk4 F4 N4 G4 - ⟨rfl, rfl⟩
      simp only [List.cons_append, List.nil_append] at N4
      have hC2 := hC.mono G4.1
      have hH2 := hH.mono G4.1
      have q1 := List.mem_append_right ex hC2.inst
      have q2 := List.mem_append_right ex (G4.1 _ hA)
      have q3 := List.mem_append_right ex (G4.1 _ hrr)
      have o1 : ∀ p ∈ ex ++ fz, p.1 ≠ dc := fun p hp => hoff p hp _ (.head _)
      have o2 : ∀ p ∈ ex ++ T2, p.1 ≠ dc := on_ex (in_ex o1) (G4.ne (o := copyO w.params t rr kk) (.head _) (out_ex o1))
      k_steps
      rename News h₀ _ _ _ => N9
      rename_i D _ l9 _ _ _ _ _ _
      rw [show (z - 1).toNat = k by omega, show z.toNat = k + 1 by omega] at N9
      refine con_ret ret [(dc, copyO w.params t D kk)] ((D, listOf (vs.take k ++ vs.drop (k + 1)).toArray 0) :: T2) (by assumption) N9 rfl (sub_in (.tail _ (.tail _ (.tail _ (.head _)))) (sub_mid (.head _) (sub_skip (sub_skip (sub_skip (sub_skip sub_id)))))) (G4.new fun q hq => ?_) ⟨D, rfl, rfl, (hC2.mono fun p hp => .tail _ hp).inst, ⟨_, 0, .head _, ((hH2.take k).append (hH2.drop (k + 1))).mono fun p hp => .tail _ hp⟩, (hC2.mono fun p hp => .tail _ hp).kept, hC2.plain⟩
      · rcases List.mem_cons.mp hq with rfl | hq
        · exact Nat.ne_of_gt l9.2.2.1
        · exact Nat.ne_of_gt (kst_ltOf l9.2.2.2 q (sub_app G4.1 q hq))
  have cCome : CCome Mine.top.heap_1_39 := by
    as_aux_lemma =>
      clear cEnds cPlain cSettled cSize cNums cUids cRanges cCopy cTold cUidsL cMissing cPlace cDrop cVan cVanE cRow cExists cCheck cFetch cTakeW cTakeV cTakeX
      unfold CCome
      w_top off
      have k0 : PySem.Challenge.rw_nz0301_01 = PySem.Challenge.rw_nz0301_01 → True := fun _ => trivial
      revert k0
      k_fill
      intro _
      intro w fz c1 dc1 r1 kk1 c2 dc2 r2 kk2 lc lr t1 t2 rs vs nr nc u tu flag tf hC1 hC2 hlen hD hlc hlow hup n1 n2 n3
      have hvl : vs.length = rs.length := by rw [hD.length, List.length_map]
      unfold Con
      intro ex p loose mean mg mb dp un gd cn cs a ccd cl outer A₀ base h₀ L m s Q E B F X N T hk hd hu hoff ret
      refine wpAny_call ?_
      (try simp only [List.cons_append, List.nil_append] at N)
      (first | k_dflt k_enter | fail "enter")
      have o1 : ∀ p ∈ ex ++ fz, p.1 ≠ lr := fun p hp => hoff p hp _ (.head _)
      have n1' : @Ne Nat dc1 lr := Ne.symm n1
      have n2' : @Ne Nat dc2 lr := Ne.symm n2
      k_steps
      rename News _ _ _ _ => N5
      rename Fr _ _ _ _ => F5
      rename_i D1 _ l1 D2 _ l2 _
      obtain ⟨tz, N6⟩ : ∃ tz, News _ _ _ ((D2, tupO [Value.int u tu, Value.ref D1, Value.int 0 tz] 0) :: (D1, tupO [Value.str flag tf] 0) :: (lr, listOf (vs ++ [Value.ref D2]).toArray (nr + 1)) :: (dc1, copyO w.params t1 r1 kk1) :: (dc2, copyO w.params t2 r2 kk2) :: (ex ++ fz)) := ⟨_, by rw [List.push_toArray] at N5; exact N5⟩
      clear N5
      obtain ⟨ws, hws⟩ : ∃ ws, ws = vs ++ [Value.ref D2] := ⟨_, rfl⟩
      rw [← hws] at N6
      have hwl : ws.length = rs.length + 1 := by rw [hws, List.length_append, hvl]; rfl
      obtain ⟨rs', hrs'⟩ : ∃ rs', rs' = rs ++ [(u, flag)] := ⟨_, rfl⟩
      obtain ⟨f2, hf2⟩ : ∃ f2 : Led, f2 = (D2, tupO [Value.int u tu, Value.ref D1, Value.int 0 tz] 0) :: (D1, tupO [Value.str flag tf] 0) :: fz := ⟨_, rfl⟩
      have hfm : ∀ p ∈ fz, p ∈ f2 := by rw [hf2]; exact sub_skip (sub_skip sub_id)
      have hD' : DatAll f2 ws (rowsD rs') := by
        rw [hws, hrs', rowsD, List.map_append]
        refine (hD.mono hfm).append (DatAll.one ?_)
        rw [hf2]
        exact .tuple (.head _) (.cons (.int _ _) (.cons (.tuple (.tail _ (.head _)) (.cons (.str _ _) .nil)) (.cons (.int _ _) .nil)))
      have hal : ∀ q ∈ (lr, listOf vs.toArray nr) :: (dc1, copyO w.params t1 r1 kk1) :: (dc2, copyO w.params t2 r2 kk2) :: (ex ++ fz), @LT.lt Nat _ q.1 D1 := kst_ltOf l1
      have hD12 : @LT.lt Nat _ D1 D2 := l2.1
      have hG2 : Grow fz ([(lr, listOf vs.toArray nr), (dc1, copyO w.params t1 r1 kk1), (dc2, copyO w.params t2 r2 kk2)] ++ (ex ++ fz)) f2 := by
        rw [hf2]
        exact (Grow.refl.new fun q hq => Nat.ne_of_gt (hal q hq)).new fun q hq => Nat.ne_of_gt (Nat.lt_trans (hal q hq) hD12)
      have hoff2 : ∀ p ∈ ex ++ f2, ∀ q ∈ [(lr, listOf vs.toArray nr), (dc1, copyO w.params t1 r1 kk1), (dc2, copyO w.params t2 r2 kk2)], p.1 ≠ q.1 := off_grow hG2 hoff fun q hq => List.mem_append_left _ hq
      have N7 := fun p hp => N6 p (come_sub hf2 p hp)
      clear N6
      have hlc2 := List.mem_append_right ex (hfm _ hlc)
      show wpAny _ _ _ _ _ _
      refine lp_list (σ := Addr × Addr) (fun a => [(lr, listOf ws.toArray (nr + 1)), (dc1, copyO w.params t1 a.1 kk1), (dc2, copyO w.params t2 a.2 kk2)]) ex f2 (fun _ => [("rows", .ref lr), ("uid", .int u tu), ("flag", .str flag tf)]) (fun i a T => CopyIs w T c1 dc1 a.1 kk1 (if i = 0 then rs else rs') ∧ CopyIs w T c2 dc2 a.2 kk2 (if i ≤ 1 then rs else rs')) [lr, dc1, dc2] (r1, r2)
        rfl hlc2 F5 N7 (fun p h => h) (fun _ => rfl) (fun p hp a ha => ?_) (by kst_all) ⟨hC1.mono hfm, hC2.mono hfm⟩ (fun I i v s Q E h hQ => go_name I v s Q E hQ) ?_ ?_
      · obtain ⟨q, hq, rfl⟩ := List.mem_map.mp (show a ∈ ([(lr, listOf vs.toArray nr), (dc1, copyO w.params t1 r1 kk1), (dc2, copyO w.params t2 r2 kk2)] : Led).map (·.1) from ha)
        exact hoff2 p hp q hq
      · rintro i v ⟨a, b⟩ T1 u2 h tk I oI hv hI sub off hne F8 N8
        dsimp only at F8 N8 hv hI
        simp only [List.cons_append, List.nil_append] at N8
        have i1 : @Ne Nat I lr := fun e => hne (lr, _) (.head _) e.symm
        have i2 : @Ne Nat I dc1 := fun e => hne (dc1, _) (.tail _ (.head _)) e.symm
        have i3 : @Ne Nat I dc2 := fun e => hne (dc2, _) (.tail _ (.tail _ (.head _))) e.symm
        clear F5 N7
        rcases i with _ | _ | i
        · cases hv
          have q1 := List.mem_append_right ex hI.1.inst
          (try k_fold)
          k_steps
          show wpAny _ _ _ _ _ _
          rename News _ _ _ _ => N9
          rename Fr _ _ _ _ => F9
          first
            | (rename_i A1 _ lA; have hA1 : ∀ q ∈ (I, oI) :: (lr, listOf ws.toArray (nr + 1)) :: (dc1, copyO w.params t1 a kk1) :: (dc2, copyO w.params t2 b kk2) :: (ex ++ T1), @LT.lt Nat _ q.1 A1 := kst_ltOf lA)
            | (rename_i A1 _ lA _; have hA1 : ∀ q ∈ (I, oI) :: (lr, listOf ws.toArray (nr + 1)) :: (dc1, copyO w.params t1 a kk1) :: (dc2, copyO w.params t2 b kk2) :: (ex ++ T1), @LT.lt Nat _ q.1 A1 := kst_ltOf lA)
            | (rename_i A1 _ lA _ _; have hA1 : ∀ q ∈ (I, oI) :: (lr, listOf ws.toArray (nr + 1)) :: (dc1, copyO w.params t1 a kk1) :: (dc2, copyO w.params t2 b kk2) :: (ex ++ T1), @LT.lt Nat _ q.1 A1 := kst_ltOf lA)
            | (rename_i A1 _ lA _ _ _; have hA1 : ∀ q ∈ (I, oI) :: (lr, listOf ws.toArray (nr + 1)) :: (dc1, copyO w.params t1 a kk1) :: (dc2, copyO w.params t2 b kk2) :: (ex ++ T1), @LT.lt Nat _ q.1 A1 := kst_ltOf lA)
            | (rename_i A1 _ lA _ _ _ _; have hA1 : ∀ q ∈ (I, oI) :: (lr, listOf ws.toArray (nr + 1)) :: (dc1, copyO w.params t1 a kk1) :: (dc2, copyO w.params t2 b kk2) :: (ex ++ T1), @LT.lt Nat _ q.1 A1 := kst_ltOf lA)
          have hR1 : CopyIs w T1 c1 dc1 a kk1 rs := hI.1
          have hko1 : ∀ p ∈ ex ++ T1, ∀ q ∈ [(dc1, copyO w.params t1 a kk1)], p.1 ≠ q.1 := fun p hp q hq => by rw [List.mem_singleton.mp hq]; exact off p hp _ (by simp)
          have hko : ∀ p ∈ ((I, oI) :: (lr, listOf ws.toArray (nr + 1)) :: (dc2, copyO w.params t2 b kk2) :: ex) ++ ((A1, tupO [Value.str "exists" tk, Value.int ((rs.length + 1 : Nat) : Int) (tk + 1 + 1)] 0) :: T1), ∀ q ∈ [(dc1, copyO w.params t1 a kk1)], p.1 ≠ q.1 :=
            off_in (one_ne i2) (off_in (one_ne n1) (off_in (one_ne (Ne.symm n3)) (off_mid (one_ne (Nat.ne_of_gt (hA1 (dc1, _) (.tail _ (.tail _ (.head _)))))) hko1)))
          k_dflt (refine' Con.use (cTakeE w ((A1, tupO [Value.str "exists" tk, Value.int ((rs.length + 1 : Nat) : Int) (tk + 1 + 1)] 0) :: T1) c1 dc1 a kk1 t1 rs ((rs.length + 1 : Nat) : Int) _ A1 _ 0 (hR1.mono fun p hp => .tail _ hp) (by omega) (by omega) (.head _)) ((I, oI) :: (lr, listOf ws.toArray (nr + 1)) :: (dc2, copyO w.params t2 b kk2) :: ex) ?k1 ?k2 ?k3 ?k4 ?k5 ?k6 ?k7 ?k8 ?k9 ?k10 ?_; (case k1 => k_asm); (case k2 => k_asm); (case k3 => k_asm); (case k4 => k_asm); (case k5 => k_asm); (case k6 => exact rfl); (case k7 => ktr_room); (case k8 => ktr_units); (case k10 => first | assumption | exact fun _ _ _ hq => (List.not_mem_nil hq).elim); (case k9 => exact k9a))
          rintro r mt' T2 h4 tk4 F4 N4 G4 H4 ⟨a', hh, dh, ht, rfl, rfl, hR, hdh, hdd⟩
          simp only [List.cons_append, List.nil_append] at N4
          clear N8 F8 N9 F9
          have q1 := List.mem_append_right ex hR.inst
          k_steps
          show wpAny _ _ _ _ _ _
          rename News _ _ _ _ => N9
          rename Fr _ _ _ _ => F9
          obtain ⟨S7, s1, s2, s3, s4, s5, N10, hP, hAn, hS7⟩ := seven N9 (by assumption) (by assumption) (by assumption) (by assumption) (by assumption) (by assumption) (by assumption)
          clear N9
          have hnew := (H4 (dh, heldO w.params ht 0 .none) (.tail _ (.head _))).resolve_left (fun h => hdd (List.mem_singleton.mp h))
          have hko2 : ∀ p ∈ ((I, oI) :: (lr, listOf ws.toArray (nr + 1)) :: (dc2, copyO w.params t2 b kk2) :: ex) ++ (S7 ++ T2), ∀ q ∈ [(dc1, copyO w.params t1 a' kk1), (dh, heldO w.params ht 0 .none)], p.1 ≠ q.1 := by
            refine off_in (two_ne i2 (Ne.symm (hnew (I, oI) (.tail _ (.head _))))) (off_in (two_ne n1 (Ne.symm (hnew (lr, _) (.tail _ (.tail _ (.head _)))))) (off_in (two_ne (Ne.symm n3) (Ne.symm (hnew (dc2, _) (.tail _ (.tail _ (.tail _ (.head _))))))) (off_pre (fun p hp => two_ne (Nat.ne_of_gt (hS7 p hp (dc1, _) (.head _))) (Nat.ne_of_gt (hS7 p hp (dh, _) (.tail _ (.head _))))) fun p hp => ?_)))
            have hx : p.1 ≠ dc1 := off_grow G4 (off_mid (one_ne (Nat.ne_of_gt (hA1 (dc1, _) (.tail _ (.tail _ (.head _)))))) hko1) (fun q hq => List.mem_append_left _ hq) p hp (dc1, copyO w.params t1 a kk1) (.head _)
            refine two_ne hx ?_
            rcases List.mem_append.mp hp with hp | hp
            · exact Ne.symm (hnew p (List.mem_append_right _ (List.mem_append_left _ (.tail _ (.tail _ (.tail _ hp))))))
            · exact hdh p hp
          k_dflt (refine' Con.use (cTakeF w (S7 ++ T2) c1 dc1 a' kk1 hh dh t1 ht rs _ u _ _ flag tu _ _ _ _ _ _ _ _ _ _ 0 0 0 0 _ _ 0 (hR.mono fun p hp => List.mem_append_right _ hp) (by omega) (by omega) hlow hup hdd (hP T2) (hAn T2)) ((I, oI) :: (lr, listOf ws.toArray (nr + 1)) :: (dc2, copyO w.params t2 b kk2) :: ex) ?k1 ?k2 ?k3 ?k4 ?k5 ?k6 ?k7 ?k8 ?k9 ?k10 ?_; (case k1 => k_asm); (case k2 => k_asm); (case k3 => k_asm); (case k4 => k_asm); (case k5 => k_asm); (case k6 => exact rfl); (case k7 => ktr_room); (case k8 => ktr_units); (case k10 => first | assumption | exact fun _ _ _ hq => (List.not_mem_nil hq).elim); (case k9 => exact k9c))
          rintro r mt' T3 h6 tk6 F6 N6 G6 - ⟨ht', f, tf', nf', rfl, rfl, hf⟩
          simp only [List.cons_append, List.nil_append] at N6
          clear N10 F9
          k_steps
          rename Fr _ _ _ _ => F11
          rename News _ _ _ _ => N11
          refine lend (c := (a, b)) (a', b) ((dh, heldO w.params ht' u (.ref f)) :: T3) F11 N11 lend0 (come_grow (A1 := (A1, _)) (dh' := (dh, _)) (fun q hq => ?_) ?_ hA1 G4 hS7 G6 hnew) (by kst_all) ?_
          · simp only [List.mem_append, List.mem_cons, List.not_mem_nil, or_false] at hq ⊢
            rcases hq with h | (h | h | h) | h | h <;> simp [h]
          · rfl
          · have hM : ∀ p ∈ T1, p ∈ (dh, heldO w.params ht' u (.ref f)) :: T3 := fun p hp => .tail _ (G6.1 p (List.mem_append_right _ (G4.1 p (.tail _ hp))))
            have hN : CopyIs w ((dh, heldO w.params ht' u (.ref f)) :: T3) c1 dc1 a' kk1 rs' := by
              rw [hrs']
              exact hR.done (fun p hp => .tail _ (G6.1 p (List.mem_append_right _ hp))) (.head _) (.tail _ hf)
            exact ⟨hN, hI.2.mono hM⟩
        · cases hv
          have q1 := List.mem_append_right ex hI.2.inst
          (try k_fold)
          k_steps
          show wpAny _ _ _ _ _ _
          rename News _ _ _ _ => N9
          rename Fr _ _ _ _ => F9
          first
            | (rename_i A1 _ lA; have hA1 : ∀ q ∈ (I, oI) :: (lr, listOf ws.toArray (nr + 1)) :: (dc1, copyO w.params t1 a kk1) :: (dc2, copyO w.params t2 b kk2) :: (ex ++ T1), @LT.lt Nat _ q.1 A1 := kst_ltOf lA)
            | (rename_i A1 _ lA _; have hA1 : ∀ q ∈ (I, oI) :: (lr, listOf ws.toArray (nr + 1)) :: (dc1, copyO w.params t1 a kk1) :: (dc2, copyO w.params t2 b kk2) :: (ex ++ T1), @LT.lt Nat _ q.1 A1 := kst_ltOf lA)
            | (rename_i A1 _ lA _ _; have hA1 : ∀ q ∈ (I, oI) :: (lr, listOf ws.toArray (nr + 1)) :: (dc1, copyO w.params t1 a kk1) :: (dc2, copyO w.params t2 b kk2) :: (ex ++ T1), @LT.lt Nat _ q.1 A1 := kst_ltOf lA)
            | (rename_i A1 _ lA _ _ _; have hA1 : ∀ q ∈ (I, oI) :: (lr, listOf ws.toArray (nr + 1)) :: (dc1, copyO w.params t1 a kk1) :: (dc2, copyO w.params t2 b kk2) :: (ex ++ T1), @LT.lt Nat _ q.1 A1 := kst_ltOf lA)
            | (rename_i A1 _ lA _ _ _ _; have hA1 : ∀ q ∈ (I, oI) :: (lr, listOf ws.toArray (nr + 1)) :: (dc1, copyO w.params t1 a kk1) :: (dc2, copyO w.params t2 b kk2) :: (ex ++ T1), @LT.lt Nat _ q.1 A1 := kst_ltOf lA)
          have hR1 : CopyIs w T1 c2 dc2 b kk2 rs := hI.2
          have hko1 : ∀ p ∈ ex ++ T1, ∀ q ∈ [(dc2, copyO w.params t2 b kk2)], p.1 ≠ q.1 := fun p hp q hq => by rw [List.mem_singleton.mp hq]; exact off p hp _ (by simp)
          have hko : ∀ p ∈ ((I, oI) :: (lr, listOf ws.toArray (nr + 1)) :: (dc1, copyO w.params t1 a kk1) :: ex) ++ ((A1, tupO [Value.str "exists" tk, Value.int ((rs.length + 1 : Nat) : Int) (tk + 1 + 1)] 0) :: T1), ∀ q ∈ [(dc2, copyO w.params t2 b kk2)], p.1 ≠ q.1 :=
            off_in (one_ne i3) (off_in (one_ne n2) (off_in (one_ne n3) (off_mid (one_ne (Nat.ne_of_gt (hA1 (dc2, _) (.tail _ (.tail _ (.tail _ (.head _))))))) hko1)))
          k_dflt (refine' Con.use (cTakeE w ((A1, tupO [Value.str "exists" tk, Value.int ((rs.length + 1 : Nat) : Int) (tk + 1 + 1)] 0) :: T1) c2 dc2 b kk2 t2 rs ((rs.length + 1 : Nat) : Int) _ A1 _ 0 (hR1.mono fun p hp => .tail _ hp) (by omega) (by omega) (.head _)) ((I, oI) :: (lr, listOf ws.toArray (nr + 1)) :: (dc1, copyO w.params t1 a kk1) :: ex) ?k1 ?k2 ?k3 ?k4 ?k5 ?k6 ?k7 ?k8 ?k9 ?k10 ?_; (case k1 => k_asm); (case k2 => k_asm); (case k3 => k_asm); (case k4 => k_asm); (case k5 => k_asm); (case k6 => exact rfl); (case k7 => ktr_room); (case k8 => ktr_units); (case k10 => first | assumption | exact fun _ _ _ hq => (List.not_mem_nil hq).elim); (case k9 => exact k9b))
          rintro r mt' T2 h4 tk4 F4 N4 G4 H4 ⟨a', hh, dh, ht, rfl, rfl, hR, hdh, hdd⟩
          simp only [List.cons_append, List.nil_append] at N4
          clear N8 F8 N9 F9
          have q1 := List.mem_append_right ex hR.inst
          k_steps
          show wpAny _ _ _ _ _ _
          rename News _ _ _ _ => N9
          rename Fr _ _ _ _ => F9
          obtain ⟨S7, s1, s2, s3, s4, s5, N10, hP, hAn, hS7⟩ := seven N9 (by assumption) (by assumption) (by assumption) (by assumption) (by assumption) (by assumption) (by assumption)
          clear N9
          have hnew := (H4 (dh, heldO w.params ht 0 .none) (.tail _ (.head _))).resolve_left (fun h => hdd (List.mem_singleton.mp h))
          have hko2 : ∀ p ∈ ((I, oI) :: (lr, listOf ws.toArray (nr + 1)) :: (dc1, copyO w.params t1 a kk1) :: ex) ++ (S7 ++ T2), ∀ q ∈ [(dc2, copyO w.params t2 a' kk2), (dh, heldO w.params ht 0 .none)], p.1 ≠ q.1 := by
            refine off_in (two_ne i3 (Ne.symm (hnew (I, oI) (.tail _ (.head _))))) (off_in (two_ne n2 (Ne.symm (hnew (lr, _) (.tail _ (.tail _ (.head _)))))) (off_in (two_ne n3 (Ne.symm (hnew (dc1, _) (.tail _ (.tail _ (.tail _ (.head _))))))) (off_pre (fun p hp => two_ne (Nat.ne_of_gt (hS7 p hp (dc2, _) (.head _))) (Nat.ne_of_gt (hS7 p hp (dh, _) (.tail _ (.head _))))) fun p hp => ?_)))
            have hx : p.1 ≠ dc2 := off_grow G4 (off_mid (one_ne (Nat.ne_of_gt (hA1 (dc2, _) (.tail _ (.tail _ (.tail _ (.head _))))))) hko1) (fun q hq => List.mem_append_left _ hq) p hp (dc2, copyO w.params t2 b kk2) (.head _)
            refine two_ne hx ?_
            rcases List.mem_append.mp hp with hp | hp
            · exact Ne.symm (hnew p (List.mem_append_right _ (List.mem_append_left _ (.tail _ (.tail _ (.tail _ hp))))))
            · exact hdh p hp
          k_dflt (refine' Con.use (cTakeF w (S7 ++ T2) c2 dc2 a' kk2 hh dh t2 ht rs _ u _ _ flag tu _ _ _ _ _ _ _ _ _ _ 0 0 0 0 _ _ 0 (hR.mono fun p hp => List.mem_append_right _ hp) (by omega) (by omega) hlow hup hdd (hP T2) (hAn T2)) ((I, oI) :: (lr, listOf ws.toArray (nr + 1)) :: (dc1, copyO w.params t1 a kk1) :: ex) ?k1 ?k2 ?k3 ?k4 ?k5 ?k6 ?k7 ?k8 ?k9 ?k10 ?_; (case k1 => k_asm); (case k2 => k_asm); (case k3 => k_asm); (case k4 => k_asm); (case k5 => k_asm); (case k6 => exact rfl); (case k7 => ktr_room); (case k8 => ktr_units); (case k10 => first | assumption | exact fun _ _ _ hq => (List.not_mem_nil hq).elim); (case k9 => exact k9c))
          rintro r mt' T3 h6 tk6 F6 N6 G6 - ⟨ht', f, tf', nf', rfl, rfl, hf⟩
          simp only [List.cons_append, List.nil_append] at N6
          clear N10 F9
          k_steps
          rename Fr _ _ _ _ => F11
          rename News _ _ _ _ => N11
          refine lend (c := (a, b)) (a, a') ((dh, heldO w.params ht' u (.ref f)) :: T3) F11 N11 lend1 (come_grow (A1 := (A1, _)) (dh' := (dh, _)) (fun q hq => ?_) ?_ hA1 G4 hS7 G6 hnew) (by kst_all) ?_
          · simp only [List.mem_append, List.mem_cons, List.not_mem_nil, or_false] at hq ⊢
            rcases hq with h | (h | h | h) | h | h <;> simp [h]
          · rfl
          · have hM : ∀ p ∈ T1, p ∈ (dh, heldO w.params ht' u (.ref f)) :: T3 := fun p hp => .tail _ (G6.1 p (List.mem_append_right _ (G4.1 p (.tail _ hp))))
            have hN : CopyIs w ((dh, heldO w.params ht' u (.ref f)) :: T3) c2 dc2 a' kk2 rs' := by
              rw [hrs']
              exact hR.done (fun p hp => .tail _ (G6.1 p (List.mem_append_right _ hp))) (.head _) (.tail _ hf)
            exact ⟨hI.1.mono hM, hN⟩
        · simp at hv
      · rintro ⟨a, b⟩ T1 u2 h tk hI G off F8 N8
        dsimp only at F8 N8 hI
        simp only [List.cons_append, List.nil_append] at N8
        clear F5 N7
        (try k_fold)
        k_steps
        rename News h₀ _ _ _ => N9
        refine con_ret ret [(lr, listOf ws.toArray (nr + 1)), (dc1, copyO w.params t1 a kk1), (dc2, copyO w.params t2 b kk2)] T1 (by assumption) N9 rfl (fun p hp => hp) (hG2.of G ?_) ⟨a, b, ws, nr + 1, rfl, rfl, ?_, ?_, ?_⟩
        · intro q hq
          rcases List.mem_cons.mp hq with rfl | hq
          · exact ⟨_, .head _, rfl⟩
          · exact ⟨q, .tail _ (sub_cons (sub_cons (sub_app hfm)) q hq), rfl⟩
        · rw [← hrs']; exact hD'.mono G.1
        · rw [← hrs']; exact hI.1
        · rw [← hrs']; exact hI.2
  clear cEnds cPlain cSettled cSize cNums cUids cPlace cDrop cVan cVanE cRow cExists cCheck cFetch cTakeE cTakeF
  k_fill
  intro w s₀ s₁ mg mb G Y fa o pm cd doc dV kV ho hd hcd hD hmg hg args vals as hpre hlay hrd hwl hlo
  have KX := kIn_of Y
  k_behind G ho hd hcd hD hmg hpre hlay hrd hwl hlo cd
  (all_goals try k_fold)
  rename IntsAre _ _ => hI
  rename Heap.IsList _ _ _ => hL
  rename News _ _ _ _ => N0
  rename_i _ _ _ _ _ _ _ _ _ _ _ _ ns hs hlay0 hLl hr hl2 wA1 wA2 la vs wA3 ra w1 r0 hr2 hc1 hc2 K0 h₁ tk₁ F c3 c2 c1 e3 e2 e1 X0
  clear hD G Y ho
  k_steps
  show wpAny _ _ _ _ _ _
  k_dflt (refine' Con.use (cCopy w []) [(s₁.heap.objs.size + 1 + 1 + 1, c3), (s₁.heap.objs.size + 1 + 1, c2), (s₁.heap.objs.size + 1, c1)] ?k1 ?k2 ?k3 ?k4 ?k5 ?k6 ?k7 ?k8 ?k9 ?k10 ?_; (case k1 => k_asm); (case k2 => k_asm); (case k3 => k_asm); (case k4 => k_asm); (case k5 => k_asm); (case k6 => exact rfl); (case k7 => ktr_room); (case k8 => ktr_units); (case k10 => first | assumption | exact fun _ _ _ hq => (List.not_mem_nil hq).elim); (case k9 => exact fun p h => h))
  rintro r mt' T2 h4 tk4 F4 N4 G4 H4 ⟨a1, d1, t1, r1, kk1, rfl, rfl, hC1, hd1⟩
  simp only [List.cons_append, List.nil_append] at N4
  k_steps
  show wpAny _ _ _ _ _ _
  k_dflt (refine' Con.use (cCopy w T2) [(d1, copyO w.params t1 r1 kk1), (s₁.heap.objs.size + 1 + 1 + 1, c3), (s₁.heap.objs.size + 1 + 1, c2), (s₁.heap.objs.size + 1, c1)] ?k1 ?k2 ?k3 ?k4 ?k5 ?k6 ?k7 ?k8 ?k9 ?k10 ?_; (case k1 => k_asm); (case k2 => k_asm); (case k3 => k_asm); (case k4 => k_asm); (case k5 => k_asm); (case k6 => exact rfl); (case k7 => ktr_room); (case k8 => ktr_units); (case k10 => first | assumption | exact fun _ _ _ hq => (List.not_mem_nil hq).elim); (case k9 => exact fun p h => h))
  rintro r mt' T3 h5 tk5 F5 N5 G5 H5 ⟨a2, d2, t2, r2, kk2, rfl, rfl, hC2, hd2⟩
  simp only [List.cons_append, List.nil_append] at N5
  clear F4 N4
  have hcs1 := (H4 (d1, copyO w.params t1 r1 kk1) (.head _)).resolve_left (fun h => nomatch h)
  have hcs2 := (H5 (d2, copyO w.params t2 r2 kk2) (.head _)).resolve_left (fun h => nomatch h)
  have x13 : @Ne Nat d1 (s₁.heap.objs.size + 1 + 1 + 1) := hcs1 (_, c3) (.head _)
  have x12 : @Ne Nat d1 (s₁.heap.objs.size + 1 + 1) := hcs1 (_, c2) (.tail _ (.head _))
  have x11 : @Ne Nat d1 (s₁.heap.objs.size + 1) := hcs1 (_, c1) (.tail _ (.tail _ (.head _)))
  have x21 : @Ne Nat d2 d1 := hcs2 (d1, _) (.head _)
  have x24 : @Ne Nat d2 (s₁.heap.objs.size + 1 + 1 + 1) := hcs2 (_, c3) (.tail _ (.head _))
  have x23 : @Ne Nat d2 (s₁.heap.objs.size + 1 + 1) := hcs2 (_, c2) (.tail _ (.tail _ (.head _)))
  have x22 : @Ne Nat d2 (s₁.heap.objs.size + 1) := hcs2 (_, c1) (.tail _ (.tail _ (.tail _ (.head _))))
  have hT3 : ∀ p ∈ T3, ∀ q ∈ [(d1, copyO w.params t1 r1 kk1), (s₁.heap.objs.size + 1 + 1 + 1, c3), (s₁.heap.objs.size + 1 + 1, c2), (s₁.heap.objs.size + 1, c1)], p.1 ≠ q.1 := fun p hp q hq => by
    rcases G5.2 p hp with h | h
    · rcases G4.2 p h with h2 | h2
      · exact absurd h2 (List.not_mem_nil)
      · rcases List.mem_cons.mp hq with rfl | hq
        · exact hd1 p h
        · exact h2 q (List.mem_append_right [] (List.mem_append_left _ hq))
    · exact h q (List.mem_append_right [] (List.mem_append_left _ hq))
  have y1 : ∀ p ∈ T3, p.1 ≠ s₁.heap.objs.size + 1 := fun p hp => hT3 p hp (_, c1) (.tail _ (.tail _ (.tail _ (.head _))))
  have y2 : ∀ p ∈ T3, p.1 ≠ s₁.heap.objs.size + 1 + 1 := fun p hp => hT3 p hp (_, c2) (.tail _ (.tail _ (.head _)))
  have y3 : ∀ p ∈ T3, p.1 ≠ s₁.heap.objs.size + 1 + 1 + 1 := fun p hp => hT3 p hp (_, c3) (.tail _ (.head _))
  have y4 : ∀ p ∈ T3, p.1 ≠ d1 := fun p hp => hT3 p hp (_, _) (.head _)
  clear hcs1 hcs2 H4 H5
  k_steps
  show wpAny _ _ _ _ _ _
  k_dflt (refine if_split (P := fun _ => True) (by k_asm) (by k_asm) ?_ ?_)
  · k_steps
    · rename News _ _ _ _ => N9
      exact ⟨_, _, _, _, rfl, trivial, rfl, by k_asm, fun p hp => N9 p (.tail _ hp)⟩
    · exfalso
      rename decide _ = false => a9
      rename _ ∨ _ => x9
      rcases x9 with h | h
      · omega
      · exact (of_decide_eq_false a9) (List.length_eq_zero_iff.mp (by omega))
    · rename News _ _ _ _ => N9
      exact ⟨_, _, _, _, rfl, trivial, rfl, by k_asm, fun p hp => N9 p (.tail _ hp)⟩
  rintro z tz h6 tk6 - F6 N6
  rename_i A0 _ lA _ _ _ tu0 lr _ lL B0 _ lB _ _ o1 e1' _ _ _
  k_steps
  rename IsRange _ _ _ _ _ _ _ _ => rg
  rename News _ _ _ _ => N7
  rename Fr _ _ _ _ => F7
  have hmT : ∀ p ∈ T2, p ∈ T3 := G5.1
  have hfm : 0 ≤ z.fmod 8 := Int.fmod_nonneg_of_pos z (by decide)
  have hfl := Int.fmod_lt_of_pos z (show (0 : Int) < 8 by decide)
  show wpAny _ _ _ _ _ _
  have hlL : ∀ q ∈ (d2, copyO w.params t2 r2 kk2) :: (d1, copyO w.params t1 r1 kk1) :: (s₁.heap.objs.size + 1 + 1 + 1, c3) :: (s₁.heap.objs.size + 1 + 1, c2) :: (s₁.heap.objs.size + 1, c1) :: T3, @LT.lt Nat _ q.1 lr := kst_ltOf lL.2
  have n1 : @Ne Nat lr d1 := Nat.ne_of_gt (hlL (d1, _) (.tail _ (.head _)))
  have n2 : @Ne Nat lr d2 := Nat.ne_of_gt (hlL (d2, _) (.head _))
  have n3 : @Ne Nat d1 d2 := Ne.symm x21
  refine lp_range (σ := S1) (n := (1 + z.fmod 8).toNat) (fun c => [(lr, listOf c.ws.toArray c.nr), (d1, copyO w.params t1 c.r1 kk1), (d2, copyO w.params t2 c.r2 kk2)]) [(s₁.heap.objs.size + 1 + 1 + 1, c3), (s₁.heap.objs.size + 1 + 1, c2), (s₁.heap.objs.size + 1, o1)] T3
    (fun c => [("script", .ref la), ("first", .ref a1), ("second", .ref a2), ("head", .int z tz), ("uid", .int c.z c.tz)])
    (fun i c T => ∃ rs, rs.length = i ∧ Rows c.z rs ∧ c.z ≤ 10 * (i : Int) ∧ CopyIs w T a1 d1 c.r1 kk1 rs ∧ CopyIs w T a2 d2 c.r2 kk2 rs ∧ DatAll T c.ws (rowsD rs)) [lr, d1, d2] ⟨r1, r2, 0, tu0, [], 0⟩
    rfl rg (small_one (by omega) (by omega) (by omega) (by omega)) ?_ F7 N7 ?_ (fun _ => rfl) ?_ (by kst_all) ⟨[], rfl, Rows.nil, Int.le_refl _, hC1.mono hmT, hC2, .nil⟩ (fun I v s Q E hQ => go_name I v s Q E hQ) ?_ ?_
  · rw [rangeSize_nat, Int.sub_zero]
  · exact loop1_sub
  · refine off_la (ms := [(lr, listOf #[] 0), (d1, copyO w.params t1 r1 kk1), (d2, copyO w.params t2 r2 kk2)]) ?_ rfl
    refine off_in (three_ne (Nat.ne_of_lt (hlL (_, c3) (.tail _ (.tail _ (.head _))))) (Ne.symm x13) (Ne.symm x24)) (off_in (three_ne (Nat.ne_of_lt (hlL (_, c2) (.tail _ (.tail _ (.tail _ (.head _)))))) (Ne.symm x12) (Ne.symm x23)) (off_in (three_ne (Nat.ne_of_lt (hlL (_, c1) (.tail _ (.tail _ (.tail _ (.tail _ (.head _))))))) (Ne.symm x11) (Ne.symm x22)) fun p hp => ?_))
    exact three_ne (Nat.ne_of_lt (hlL p (.tail _ (.tail _ (.tail _ (.tail _ (.tail _ hp))))))) (y4 p hp) (hd2 p hp)
  · rintro i v c9 T1 u h tk I oI ⟨hi, t9, rfl⟩ ⟨rs, hrl, hRw, hzb, hA1, hA2, hDD⟩ sub off hne F8 N8
    dsimp only at F8 N8
    simp only [List.cons_append, List.nil_append] at N8
    rw [Int.zero_add]
    clear F7 N7 rg
    (try k_fold)
    k_steps
    show wpAny _ _ _ _ _ _
    rename News _ _ _ _ => N9
    rename Fr _ _ _ _ => F9
    rename_i l9 _ lt9 _
    have hb9 : 0 ≤ ((z.fdiv 8).fdiv (2 ^ ((i : Int)).toNat)).fmod 2 ∧ ((z.fdiv 8).fdiv (2 ^ ((i : Int)).toNat)).fmod 2 < 2 := ⟨Int.fmod_nonneg_of_pos _ (by decide), Int.fmod_lt_of_pos _ (by decide)⟩
    generalize ((z.fdiv 8).fdiv (2 ^ ((i : Int)).toNat)).fmod 2 = bz at hb9 F9 ⊢
    obtain ⟨u9, hu9⟩ : ∃ x, x = c9.z + 1 + bz := ⟨_, rfl⟩
    rw [← hu9] at F9 ⊢
    have hRn := hRw.nn
    have hal9 : ∀ q ∈ (I, oI) :: (lr, listOf c9.ws.toArray c9.nr) :: (d1, copyO w.params t1 c9.r1 kk1) :: (d2, copyO w.params t2 c9.r2 kk2) :: (s₁.heap.objs.size + 1 + 1 + 1, c3) :: (s₁.heap.objs.size + 1 + 1, c2) :: (s₁.heap.objs.size + 1, o1) :: T1, @LT.lt Nat _ q.1 l9 := kst_ltOf lt9
    have i1 : @Ne Nat I lr := fun e => hne (lr, _) (.head _) e.symm
    have i2 : @Ne Nat I d1 := fun e => hne (d1, _) (.tail _ (.head _)) e.symm
    have i3 : @Ne Nat I d2 := fun e => hne (d2, _) (.tail _ (.tail _ (.head _))) e.symm
    have hoA : ∀ p ∈ [(s₁.heap.objs.size + 1 + 1 + 1, c3), (s₁.heap.objs.size + 1 + 1, c2), (s₁.heap.objs.size + 1, o1)] ++ ((l9, listOf #[Value.ref a1, Value.ref a2] 0) :: T1), ∀ q ∈ [(lr, listOf c9.ws.toArray c9.nr), (d1, copyO w.params t1 c9.r1 kk1), (d2, copyO w.params t2 c9.r2 kk2)], p.1 ≠ q.1 :=
      off_mid (three_ne (Nat.ne_of_gt (hal9 (lr, _) (.tail _ (.head _)))) (Nat.ne_of_gt (hal9 (d1, _) (.tail _ (.tail _ (.head _))))) (Nat.ne_of_gt (hal9 (d2, _) (.tail _ (.tail _ (.tail _ (.head _))))))) (off_al off rfl)
    have hko : ∀ p ∈ [(I, oI), (s₁.heap.objs.size + 1 + 1 + 1, c3), (s₁.heap.objs.size + 1 + 1, c2), (s₁.heap.objs.size + 1, o1)] ++ ((l9, listOf #[Value.ref a1, Value.ref a2] 0) :: T1), ∀ q ∈ [(lr, listOf c9.ws.toArray c9.nr), (d1, copyO w.params t1 c9.r1 kk1), (d2, copyO w.params t2 c9.r2 kk2)], p.1 ≠ q.1 := off_in (three_ne i1 i2 i3) hoA
    k_dflt (refine' Con.use (cCome w ((l9, listOf #[Value.ref a1, Value.ref a2] 0) :: T1) a1 d1 c9.r1 kk1 a2 d2 c9.r2 kk2 l9 lr t1 t2 rs c9.ws c9.nr 0 u9 _ (Txt.item (Str.ofString "ab") ((i : Int).fmod 2)) _ (hA1.mono fun p hp => .tail _ hp) (hA2.mono fun p hp => .tail _ hp) (by omega) (hDD.mono fun p hp => .tail _ hp) (.head _) (hRw.low (by omega)) (by omega) n1 n2 n3) [(I, oI), (s₁.heap.objs.size + 1 + 1 + 1, c3), (s₁.heap.objs.size + 1 + 1, c2), (s₁.heap.objs.size + 1, o1)] ?k1 ?k2 ?k3 ?k4 ?k5 ?k6 ?k7 ?k8 ?k9 ?k10 ?_; (case k1 => k_asm); (case k2 => k_asm); (case k3 => k_asm); (case k4 => k_asm); (case k5 => k_asm); (case k6 => exact rfl); (case k7 => ktr_room); (case k8 => ktr_units); (case k10 => first | assumption | exact fun _ _ _ hq => (List.not_mem_nil hq).elim); (case k9 => exact k9d))
    rintro r mt' T5 h10 tk10 F10 N10 G10 - ⟨r1', r2', vs', nr', rfl, rfl, hV, hP1, hP2⟩
    simp only [List.cons_append, List.nil_append] at N10
    clear N9 F8 N8
    k_steps
    rename Fr _ _ _ _ => F11
    rename News _ _ _ _ => N11
    refine lend (c := c9) ⟨r1', r2', u9, _, vs', nr'⟩ T5 F11 N11 lend2 (come_grow2 (l := (l9, listOf #[Value.ref a1, Value.ref a2] 0)) (fun q hq => ?_) hal9 G10) (by kst_all) ⟨rs ++ [(u9, Txt.item (Str.ofString "ab") ((i : Int).fmod 2))], ?_, hRw.snoc (u := u9) (by omega) (ab_ok i), ?_, hP1, hP2, hV⟩
    · simp only [List.mem_append, List.mem_cons, List.not_mem_nil, or_false, List.cons_append, List.nil_append] at hq
      exact hq
    · rw [List.length_append, hrl]; rfl
    · show u9 ≤ 10 * ((i + 1 : Nat) : Int)
      omega
  · rintro c9 T1 u h tk ⟨rs, hrl, hRw, hzb, hA1, hA2, hDD⟩ G off F8 N8
    dsimp only at F8 N8 off
    simp only [List.cons_append, List.nil_append] at N8
    clear F7 N7 rg
    (try k_fold)
    k_steps
    show wpAny _ _ _ _ _ _
    k_dflt (refine if_splitL (by k_asm) (by k_asm) ?_ ?_)
    · k_steps
      · rename News _ _ _ _ => N9
        rename Fr _ _ _ _ => F9
        rename_i D9 w9 _ i9 l9 _ lt9
        exact ⟨D9, w9, _, _, _, _, rfl, i9, by rw [IntsAre.length i9, l9]; omega, rfl, F9, N9, kst_ltOf lt9⟩
      · rename News _ _ _ _ => N9
        rename Fr _ _ _ _ => F9
        rename_i l9 _ lt9
        exact ⟨l9, [_, _], _, [5, 2], _, _, rfl, .cons _ _ (.cons _ _ .nil), by show 2 ≤ 4; decide, rfl, F9, N9, kst_ltOf lt9⟩
    intro lc vc nc zs h6 tk6 hIc hlc F6 N6 hltc
    k_steps
    show wpAny _ _ _ _ _ _
    rename News _ _ _ _ => N7
    rename Fr _ _ _ _ => F7
    refine lp_list (σ := S2) (fun c => [(s₁.heap.objs.size + 1 + 1 + 1, c.o3), (s₁.heap.objs.size + 1 + 1, c.o2), (s₁.heap.objs.size + 1, c.o1), (d1, copyO w.params t1 c.r1 c.kk), (d2, copyO w.params t2 c.r2 kk2)]) [] ((lr, listOf c9.ws.toArray c9.nr) :: (lc, listOf vc.toArray nc) :: T1)
      (fun c => [("first", .ref a1), ("second", .ref a2), ("uid", .int c.z c.tz)])
      (fun i c T => ∃ rs ws nr, c.o1.data = Data.cell (some (.ref c.lr)) ∧ (∃ v, c.o2.data = Data.cell v) ∧ (∃ v, c.o3.data = Data.cell v) ∧ (c.lr, listOf ws.toArray nr) ∈ T ∧ DatAll T ws (rowsD rs) ∧ Rows c.z rs ∧ rs.length ≤ 8 + i ∧ c.z ≤ 100 + 10 * (i : Int) ∧ CopyIs w T a1 d1 c.r1 c.kk rs ∧ CopyIs w T a2 d2 c.r2 kk2 rs)
      [s₁.heap.objs.size + 1 + 1 + 1, s₁.heap.objs.size + 1 + 1, s₁.heap.objs.size + 1, d1, d2] ⟨c9.r1, c9.r2, kk1, c9.z, c9.tz, lr, o1, c2, c3⟩
      rfl (.tail _ (.head _)) F7 N7 ?_ (fun _ => rfl) ?_ (by kst_all) ?_ (fun I i v s Q E h hQ => go_name I v s Q E hQ) ?_ ?_
    · exact t9g
    · refine all_in ?_ (all_in ?_ fun p hp => ?_)
      · exact five_ne (Nat.ne_of_gt (hlL (_, c3) (.tail _ (.tail _ (.head _))))) (Nat.ne_of_gt (hlL (_, c2) (.tail _ (.tail _ (.tail _ (.head _)))))) (Nat.ne_of_gt (hlL (_, c1) (.tail _ (.tail _ (.tail _ (.tail _ (.head _))))))) n1 n2
      · exact five_ne (Nat.ne_of_gt (hltc (_, c3) (.tail _ (.tail _ (.tail _ (.head _)))))) (Nat.ne_of_gt (hltc (_, c2) (.tail _ (.tail _ (.tail _ (.tail _ (.head _))))))) (Nat.ne_of_gt (hltc (_, o1) (.tail _ (.tail _ (.tail _ (.tail _ (.tail _ (.head _)))))))) (Nat.ne_of_gt (hltc (d1, _) (.tail _ (.head _)))) (Nat.ne_of_gt (hltc (d2, _) (.tail _ (.tail _ (.head _)))))
      · exact five_ne (G.ne (o := c3) (.tail _ (.tail _ (.tail _ (.head _)))) y3 p hp) (G.ne (o := c2) (.tail _ (.tail _ (.tail _ (.tail _ (.head _))))) y2 p hp) (G.ne (o := o1) (.tail _ (.tail _ (.tail _ (.tail _ (.tail _ (.head _)))))) y1 p hp) (off p (List.mem_append_right _ hp) _ (.tail _ (.head _))) (off p (List.mem_append_right _ hp) _ (.tail _ (.tail _ (.head _))))
    · have hsk : ∀ p ∈ T1, p ∈ (lr, listOf c9.ws.toArray c9.nr) :: (lc, listOf vc.toArray nc) :: T1 := sub_skip (sub_skip sub_id)
      refine ⟨rs, c9.ws, c9.nr, e1', ⟨_, e2⟩, ⟨_, e3⟩, .head _, hDD.mono hsk, hRw, ?_, ?_, hA1.mono hsk, hA2.mono hsk⟩
      · omega
      · show c9.z ≤ 100 + 10 * ((0 : Nat) : Int); omega
    · rintro i v ⟨b1, b2, bk, bz, btz, blr, bo1, bo2, bo3⟩ T5 u5 h5 tk5 I oI hv ⟨rs, ws, nr, ho1, ⟨v2, ho2⟩, ⟨v3, ho3⟩, hlr, hDD, hRw, hrl, hzb, hA1, hA2⟩ sub off hne F8 N8
      dsimp only at F8 N8 hv ho1 ho2 ho3 hlr hRw hzb hA1 hA2
      simp only [List.cons_append, List.nil_append] at N8
      clear F7 N7
      have y1 : ∀ p ∈ T5, p.1 ≠ s₁.heap.objs.size + 1 := fun p hp => off p hp _ (.tail _ (.tail _ (.head _)))
      have y2 : ∀ p ∈ T5, p.1 ≠ s₁.heap.objs.size + 1 + 1 := fun p hp => off p hp _ (.tail _ (.head _))
      have y3 : ∀ p ∈ T5, p.1 ≠ s₁.heap.objs.size + 1 + 1 + 1 := fun p hp => off p hp _ (.head _)
      have y4 : ∀ p ∈ T5, p.1 ≠ d1 := fun p hp => off p hp _ (.tail _ (.tail _ (.tail _ (.head _))))
      have y5 : ∀ p ∈ T5, p.1 ≠ d2 := fun p hp => off p hp _ (.tail _ (.tail _ (.tail _ (.tail _ (.head _)))))
      have i1 : @Ne Nat I (s₁.heap.objs.size + 1) := fun e => hne (s₁.heap.objs.size + 1, _) (.tail _ (.tail _ (.head _))) e.symm
      have i2 : @Ne Nat I (s₁.heap.objs.size + 1 + 1) := fun e => hne (s₁.heap.objs.size + 1 + 1, _) (.tail _ (.head _)) e.symm
      have i3 : @Ne Nat I (s₁.heap.objs.size + 1 + 1 + 1) := fun e => hne (s₁.heap.objs.size + 1 + 1 + 1, _) (.head _) e.symm
      have i4 : @Ne Nat I d1 := fun e => hne (d1, _) (.tail _ (.tail _ (.tail _ (.head _)))) e.symm
      have i5 : @Ne Nat I d2 := fun e => hne (d2, _) (.tail _ (.tail _ (.tail _ (.tail _ (.head _))))) e.symm
      have hi4 : i < 4 := Nat.lt_of_lt_of_le (List.getElem?_eq_some_iff.mp hv).1 hlc
      obtain ⟨cz, tc, rfl⟩ := ints_get hIc hv
      have hwl : ws.length = rs.length := by rw [hDD.length, List.length_map]
      (try k_fold)
      k_steps
      rename IsRange _ _ _ _ _ _ _ _ => rg
      rename News _ _ _ _ => N9
      rename Fr _ _ _ _ => F9
      rename_i oc _ _ hoc _ _ _ _ _ _
      refine unstop ?_
      k_dflt (refine LCt.CompSrcT.range (n := rs.length) rfl F9 N9 rg (small_one (by omega) (by omega) (by omega) (by omega)) ?_ (by rw [sizeLine_eq]; omega) ?_)
      · rw [rangeSize_nat, Int.sub_zero, Int.toNat_natCast]
      intro g9
      refine comp_invT (n := rs.length) (fun i ys T => ∃ us : List Int, T = (I, oI) :: (s₁.heap.objs.size + 1 + 1 + 1, bo3) :: (s₁.heap.objs.size + 1 + 1, oc) :: (s₁.heap.objs.size + 1, bo1) :: (d1, copyO w.params t1 b1 bk) :: (d2, copyO w.params t2 b2 kk2) :: T5 ∧ DatAll [] ys (us.map Dat.int) ∧ us.Sublist ((rs.take i).map (·.1))) ?_ ?_ _ 0 [] _ (Nat.zero_add _) ⟨[], rfl, .nil, .slnil⟩
      · rintro j ys _ hj ⟨us, rfl, hus, hsub⟩ v I2 oI2 C2 oC2 D2 m2 h9 tk9 E' ⟨t3, rfl⟩ hC2 hx F2 N2 off2 ne2
        obtain ⟨x, tx, nx, f, tz9, tf9, nf9, e1, w1, w2⟩ := row_get hDD hj
        have hri : rs.take (j + 1) = rs.take j ++ [rs[j]] := by rw [List.take_add_one, List.getElem?_eq_getElem hj, Option.toList_some]
        obtain ⟨z9, hz9⟩ : ∃ z, z = rs[j].1 := ⟨_, rfl⟩
        rw [← hz9] at w1
        have e2 : ws[(0 + (j : Int)).toNat]? = some (Value.ref x) := by rw [Int.zero_add, Int.toNat_natCast]; exact e1
        clear F9 N9 rg
        (try k_fold)
        k_steps
        · rename News _ _ _ _ => N10
          rename Fr _ _ _ _ => F10
          refine cend_same F10 N10 off2 trivial ⟨us ++ [z9], rfl, ?_, ?_⟩
          · rw [List.map_append]
            exact hus.append (DatAll.one (.int _ _))
          · rw [hri, List.map_append, hz9]
            exact hsub.append (List.Sublist.refl _)
        · rename News _ _ _ _ => N10
          rename Fr _ _ _ _ => F10
          refine cend_same F10 N10 off2 trivial ⟨us, rfl, hus, ?_⟩
          rw [hri, List.map_append]
          exact hsub.trans (List.sublist_append_left _ _)
      · rintro ys _ ⟨gs, rfl, hgs, hsub⟩ D9 h9 tk9 F2 N2 off2
        rw [List.take_length] at hsub
        have z1 : @Ne Nat D9 (s₁.heap.objs.size + 1 + 1 + 1) := Ne.symm (off1_all off2 (s₁.heap.objs.size + 1 + 1 + 1, bo3) (.tail _ (.head _)))
        have z2 : @Ne Nat D9 (s₁.heap.objs.size + 1 + 1) := Ne.symm (off1_all off2 (s₁.heap.objs.size + 1 + 1, oc) (.tail _ (.tail _ (.head _))))
        have z3 : @Ne Nat D9 (s₁.heap.objs.size + 1) := Ne.symm (off1_all off2 (s₁.heap.objs.size + 1, bo1) (.tail _ (.tail _ (.tail _ (.head _)))))
        have z4 : @Ne Nat D9 d1 := Ne.symm (off1_all off2 (d1, _) (.tail _ (.tail _ (.tail _ (.tail _ (.head _))))))
        have z5 : @Ne Nat D9 d2 := Ne.symm (off1_all off2 (d2, _) (.tail _ (.tail _ (.tail _ (.tail _ (.tail _ (.head _)))))))
        have hzT : ∀ p ∈ T5, p.1 ≠ D9 := fun p hp => off1_all off2 p (.tail _ (.tail _ (.tail _ (.tail _ (.tail _ (.tail _ hp))))))
        have hzI : @Ne Nat I D9 := off2.1
        have q1 := hA1.inst
        have q2 := hA2.inst
        clear F9 N9 rg
        (try k_fold)
        k_steps
        rename News _ _ _ _ => N9
        rename Fr _ _ _ _ => F9
        rename Obj => og
        rename _ = Data.cell (some (Value.ref D9)) => hog
        refine unstop ?_
        k_dflt (refine LCg.CompSrc.ledger rfl F9 N9 (.tail _ (.tail _ (.tail _ (.tail _ (.tail _ (.tail _ (.tail _ hlr))))))) (by rw [List.size_toArray, sizeLine_eq]; omega) ?_)
        intro g10
        refine comp_inv (n := ws.toArray.size) (fun j ys2 T => T = (D9, LCg.lst ys) :: (I, oI) :: (s₁.heap.objs.size + 1 + 1 + 1, og) :: (s₁.heap.objs.size + 1 + 1, oc) :: (s₁.heap.objs.size + 1, bo1) :: (d1, copyO w.params t1 b1 bk) :: (d2, copyO w.params t2 b2 kk2) :: T5 ∧ DatAll [] ys2 (((rs.take j).map (·.1)).map Dat.int)) ?_ ?_ _ 0 [] _ (Nat.zero_add _) ⟨rfl, .nil⟩
        · rintro j ys2 _ hj ⟨rfl, hy2⟩ v I2 oI2 C2 oC2 D2 m2 h10 tk10 E' hv2 hC2 hx F3 N3 off3 ne2
          have hv2 := arr_get hv2
          have hj2 : j < rs.length := by rw [List.size_toArray, hwl] at hj; exact hj
          obtain ⟨x, tx, nx, f, tz9, tf9, nf9, e1, w1, w2⟩ := row_get hDD hj2
          rw [hv2] at e1
          cases e1
          have hri : rs.take (j + 1) = rs.take j ++ [rs[j]] := by rw [List.take_add_one, List.getElem?_eq_getElem hj2, Option.toList_some]
          obtain ⟨z9, hz9⟩ : ∃ z, z = rs[j].1 := ⟨_, rfl⟩
          rw [← hz9] at w1
          clear F9 N9
          (try k_fold)
          k_steps
          rename News _ _ _ _ => N10
          rename Fr _ _ _ _ => F10
          refine cend_same F10 N10 off3 ?_ ⟨rfl, ?_⟩
          · exact Or.inr ⟨_, .tail _ (.tail _ (.tail _ (.tail _ (.tail _ (.tail _ (.tail _ hlr)))))), rfl, _, rfl⟩
          · rw [hri, List.map_append, List.map_append, List.map_singleton, List.map_singleton, ← hz9]
            exact hy2.append (DatAll.one (.int _ _))
        · rintro ys2 _ ⟨rfl, hy2⟩ D10 h10 tk10 F3 N3 off3
          rw [List.size_toArray, hwl, List.take_length] at hy2
          have GA : Grow T5 (Al I (s₁.heap.objs.size + 1 + 1 + 1) (s₁.heap.objs.size + 1 + 1) (s₁.heap.objs.size + 1) d1 d2 oI bo3 bo2 bo1 (copyO w.params t1 b1 bk) (copyO w.params t2 b2 kk2) T5) ((D9, LCg.lst ys) :: T5) := al_new Grow.refl hzI (Ne.symm z1) (Ne.symm z2) (Ne.symm z3) (Ne.symm z4) (Ne.symm z5) hzT
          have hDn := off1_all off3
          have GB := al_new (D := D10) (o := LCg.lst ys2) GA (hDn (I, oI) (.tail _ (.head _))) (hDn (s₁.heap.objs.size + 1 + 1 + 1, og) (.tail _ (.tail _ (.head _)))) (hDn (s₁.heap.objs.size + 1 + 1, oc) (.tail _ (.tail _ (.tail _ (.head _))))) (hDn (s₁.heap.objs.size + 1, bo1) (.tail _ (.tail _ (.tail _ (.tail _ (.head _)))))) (hDn (d1, _) (.tail _ (.tail _ (.tail _ (.tail _ (.tail _ (.head _))))))) (hDn (d2, _) (.tail _ (.tail _ (.tail _ (.tail _ (.tail _ (.tail _ (.head _)))))))) (all_in (hDn (D9, _) (.head _)) fun p hp => hDn p (.tail _ (.tail _ (.tail _ (.tail _ (.tail _ (.tail _ (.tail _ hp))))))))
          clear F9 N9
          (try k_fold)
          k_steps
          show wpAny _ _ _ _ _ _
          k_dflt (refine' Con.use (cRanges w ((D10, LCg.lst ys2) :: (D9, LCg.lst ys) :: T5) (.ref D10) (rs.map (·.1)) (.list (.head _) (ints_any hy2)) ?pw ?pos (by rw [List.length_map]; omega)) [(I, oI), (s₁.heap.objs.size + 1 + 1 + 1, og), (s₁.heap.objs.size + 1 + 1, oc), (s₁.heap.objs.size + 1, bo1), (d1, copyO w.params t1 b1 bk), (d2, copyO w.params t2 b2 kk2)] ?k1 ?k2 ?k3 ?k4 ?k5 ?k6 ?k7 ?k8 ?k9 ?k10 ?_; (case k1 => k_asm); (case k2 => k_asm); (case k3 => k_asm); (case k4 => k_asm); (case k5 => k_asm); (case k6 => exact rfl); (case k7 => ktr_room); (case k8 => ktr_units); (case k10 => first | assumption | exact fun _ _ _ hq => (List.not_mem_nil hq).elim); (case k9 => exact k9e))
          case pw => exact List.pairwise_map.mpr hRw.pw
          case pos => exact fun n hn => by obtain ⟨r, hr, rfl⟩ := List.mem_map.mp hn; exact (hRw.pos r hr).1
          rintro r mt' T6 h11 tk11 F11 N11 G6 - ⟨rfl, ps, hps, -, -, -⟩
          simp only [List.cons_append, List.nil_append] at N11
          obtain ⟨xr, vr, nxr, rfl, -, -⟩ := dat_tup hps
          have GC := al_step GB G6 ⟨_, .head _⟩ ⟨_, .tail _ (.head _)⟩ ⟨_, .tail _ (.tail _ (.head _))⟩ ⟨_, .tail _ (.tail _ (.tail _ (.head _)))⟩ ⟨_, .tail _ (.tail _ (.tail _ (.tail _ (.head _))))⟩ ⟨_, .tail _ (.tail _ (.tail _ (.tail _ (.tail _ (.head _)))))⟩ (sub_skip (sub_skip (sub_skip (sub_skip (sub_skip (sub_skip sub_id))))))
          clear F3 N3
          have hA6 := hA1.mono GC.1
          have q1 := hA6.inst
          k_steps
          show wpAny _ _ _ _ _ _
          rename News _ _ _ _ => N9
          rename Fr _ _ _ _ => F9
          rename_i an _ ltA
          have hlA : ∀ q ∈ (I, oI) :: (s₁.heap.objs.size + 1 + 1 + 1, og) :: (s₁.heap.objs.size + 1 + 1, oc) :: (s₁.heap.objs.size + 1, bo1) :: (d1, copyO w.params t1 b1 bk) :: (d2, copyO w.params t2 b2 kk2) :: T6, @LT.lt Nat _ q.1 an := kst_ltOf ltA
          have GD := al_new (D := an) (o := tupO [Value.str "vanished" tk, Value.ref xr, Value.bool true] 0) GC (Nat.ne_of_lt (hlA (I, oI) (.head _))) (Nat.ne_of_lt (hlA (s₁.heap.objs.size + 1 + 1 + 1, og) (.tail _ (.head _)))) (Nat.ne_of_lt (hlA (s₁.heap.objs.size + 1 + 1, oc) (.tail _ (.tail _ (.head _))))) (Nat.ne_of_lt (hlA (s₁.heap.objs.size + 1, bo1) (.tail _ (.tail _ (.tail _ (.head _)))))) (Nat.ne_of_lt (hlA (d1, _) (.tail _ (.tail _ (.tail _ (.tail _ (.head _))))))) (Nat.ne_of_lt (hlA (d2, _) (.tail _ (.tail _ (.tail _ (.tail _ (.tail _ (.head _)))))))) (fun p hp => Nat.ne_of_lt (hlA p (.tail _ (.tail _ (.tail _ (.tail _ (.tail _ (.tail _ hp))))))))
          have hko : ∀ p ∈ [(I, oI), (s₁.heap.objs.size + 1 + 1 + 1, og), (s₁.heap.objs.size + 1 + 1, oc), (s₁.heap.objs.size + 1, bo1), (d2, copyO w.params t2 b2 kk2)] ++ ((an, tupO [Value.str "vanished" tk, Value.ref xr, Value.bool true] 0) :: T6), ∀ q ∈ [(d1, copyO w.params t1 b1 bk)], p.1 ≠ q.1 := off7 i4 (Ne.symm x13) (Ne.symm x12) (Ne.symm x11) x21 (Nat.ne_of_gt (hlA (d1, _) (.tail _ (.tail _ (.tail _ (.tail _ (.head _))))))) (GC.ne (o := copyO w.params t1 b1 bk) (.tail _ (.tail _ (.tail _ (.tail _ (.head _))))) y4)
          k_dflt (refine' Con.use (cTakeW w ((an, tupO [Value.str "vanished" tk, Value.ref xr, Value.bool true] 0) :: T6) a1 d1 b1 bk t1 rs (.ref xr) an tk 0 (hA6.mono fun p hp => .tail _ hp) (.head _)) [(I, oI), (s₁.heap.objs.size + 1 + 1 + 1, og), (s₁.heap.objs.size + 1 + 1, oc), (s₁.heap.objs.size + 1, bo1), (d2, copyO w.params t2 b2 kk2)] ?k1 ?k2 ?k3 ?k4 ?k5 ?k6 ?k7 ?k8 ?k9 ?k10 ?_; (case k1 => k_asm); (case k2 => k_asm); (case k3 => k_asm); (case k4 => k_asm); (case k5 => k_asm); (case k6 => exact rfl); (case k7 => ktr_room); (case k8 => ktr_units); (case k10 => first | assumption | exact fun _ _ _ hq => (List.not_mem_nil hq).elim); (case k9 => exact k9f))
          rintro r mt' T7 h12 tk12 F12 N12 G7 - ⟨bk', rfl, rfl, hA7⟩
          simp only [List.cons_append, List.nil_append] at N12
          have GE := al_step GD G7 ⟨_, .tail _ (.head _)⟩ ⟨_, .tail _ (.tail _ (.head _))⟩ ⟨_, .tail _ (.tail _ (.tail _ (.head _)))⟩ ⟨_, .tail _ (.tail _ (.tail _ (.tail _ (.head _))))⟩ ⟨_, .head _⟩ ⟨_, .tail _ (.tail _ (.tail _ (.tail _ (.tail _ (.head _)))))⟩ (sub_skip (sub_skip (sub_skip (sub_skip (sub_skip (sub_skip sub_id))))))
          have hD9 : (D9, LCg.lst ys) ∈ T7 := G7.1 _ (.tail _ (G6.1 _ (.tail _ (.head _))))
          have N13 := fun p hp => N12 p (std1 p hp)
          have q1 := hA7.inst
          have q2 := GE.1 _ hA2.inst
          clear F9 N9 N12
          k_steps
          show wpAny _ _ _ _ _ _
          k_dflt (refine st_split (by k_asm) (fun news => ∃ r1' T', news = (I, oI) :: (s₁.heap.objs.size + 1 + 1 + 1, og) :: (s₁.heap.objs.size + 1 + 1, oc) :: (s₁.heap.objs.size + 1, bo1) :: (d1, copyO w.params t1 r1' bk') :: (d2, copyO w.params t2 b2 kk2) :: T' ∧ Grow T5 (Al I (s₁.heap.objs.size + 1 + 1 + 1) (s₁.heap.objs.size + 1 + 1) (s₁.heap.objs.size + 1) d1 d2 oI bo3 bo2 bo1 (copyO w.params t1 b1 bk) (copyO w.params t2 b2 kk2) T5) T' ∧ CopyIs w T' a1 d1 r1' bk' (without gs rs) ∧ (D9, LCg.lst ys) ∈ T') ?_ ?_)
          · k_steps
            · rename decide _ = true => hg0
              have hg : gs = [] := List.map_eq_nil_iff.mp (of_decide_eq_true hg0)
              rename News _ _ _ _ => N14
              rename Fr _ _ _ _ => F14
              exact ⟨rfl, _, _, _, rfl, F14, fun p hp => N14 p (.tail _ hp), b1, T7, rfl, GE, (by rw [hg, without_nil]; exact hA7), hD9⟩
            · rename decide _ = false => hg0
              have hg : gs ≠ [] := fun e => of_decide_eq_false hg0 (by rw [e]; rfl)
              have hgl : gs.length ≤ rs.length := by
                have := hsub.length_le
                rw [List.length_map] at this
                exact this
              have hgp : gs.Pairwise (· < ·) := List.Pairwise.sublist hsub (List.pairwise_map.mpr hRw.pw)
              show wpAny _ _ _ _ _ _
              k_dflt (refine' Con.use (cRanges w T7 (.ref D9) gs (.list hD9 (ints_any hgs)) hgp ?pos (by omega)) [(I, oI), (s₁.heap.objs.size + 1 + 1 + 1, og), (s₁.heap.objs.size + 1 + 1, oc), (s₁.heap.objs.size + 1, bo1), (d1, copyO w.params t1 b1 bk'), (d2, copyO w.params t2 b2 kk2)] ?k1 ?k2 ?k3 ?k4 ?k5 ?k6 ?k7 ?k8 ?k9 ?k10 ?_; (case k1 => k_asm); (case k2 => k_asm); (case k3 => k_asm); (case k4 => k_asm); (case k5 => k_asm); (case k6 => exact rfl); (case k7 => ktr_room); (case k8 => ktr_units); (case k10 => first | assumption | exact fun _ _ _ hq => (List.not_mem_nil hq).elim); (case k9 => exact fun p h => .tail _ h))
              case pos => exact fun n hn => by obtain ⟨r, hr, rfl⟩ := List.mem_map.mp (hsub.subset hn); exact (hRw.pos r hr).1
              rintro r mt' T8 h13 tk13 F13 N15 G8 - ⟨rfl, ps, hps, hS, hN, hpl⟩
              simp only [List.cons_append, List.nil_append] at N15
              have hxr := hps
              obtain ⟨xr2, vr2, nxr2, rfl, -, -⟩ := dat_tup hxr
              have GF := al_step GE G8 ⟨_, .head _⟩ ⟨_, .tail _ (.head _)⟩ ⟨_, .tail _ (.tail _ (.head _))⟩ ⟨_, .tail _ (.tail _ (.tail _ (.head _)))⟩ ⟨_, .tail _ (.tail _ (.tail _ (.tail _ (.head _))))⟩ ⟨_, .tail _ (.tail _ (.tail _ (.tail _ (.tail _ (.head _)))))⟩ (sub_skip (sub_skip (sub_skip (sub_skip (sub_skip (sub_skip sub_id))))))
              have hA8 := hA7.mono G8.1
              have q1 := hA8.inst
              clear N13
              k_steps
              show wpAny _ _ _ _ _ _
              rename News _ _ _ _ => N9
              rename Fr _ _ _ _ => F9
              rename_i an2 _ ltA2
              obtain ⟨ta2, N9⟩ : ∃ ta, News _ _ _ ((an2, tupO [Value.str "vanished" ta, Value.ref xr2, Value.bool false] 0) :: (I, oI) :: (s₁.heap.objs.size + 1 + 1 + 1, og) :: (s₁.heap.objs.size + 1 + 1, oc) :: (s₁.heap.objs.size + 1, bo1) :: (d1, copyO w.params t1 b1 bk') :: (d2, copyO w.params t2 b2 kk2) :: T8) := ⟨_, N9⟩
              have hlA2 : ∀ q ∈ (I, oI) :: (s₁.heap.objs.size + 1 + 1 + 1, og) :: (s₁.heap.objs.size + 1 + 1, oc) :: (s₁.heap.objs.size + 1, bo1) :: (d1, copyO w.params t1 b1 bk') :: (d2, copyO w.params t2 b2 kk2) :: T8, @LT.lt Nat _ q.1 an2 := kst_ltOf ltA2
              have GH := al_new (D := an2) (o := tupO [Value.str "vanished" ta2, Value.ref xr2, Value.bool false] 0) GF (Nat.ne_of_lt (hlA2 (I, oI) (.head _))) (Nat.ne_of_lt (hlA2 (s₁.heap.objs.size + 1 + 1 + 1, og) (.tail _ (.head _)))) (Nat.ne_of_lt (hlA2 (s₁.heap.objs.size + 1 + 1, oc) (.tail _ (.tail _ (.head _))))) (Nat.ne_of_lt (hlA2 (s₁.heap.objs.size + 1, bo1) (.tail _ (.tail _ (.tail _ (.head _)))))) (Nat.ne_of_lt (hlA2 (d1, _) (.tail _ (.tail _ (.tail _ (.tail _ (.head _))))))) (Nat.ne_of_lt (hlA2 (d2, _) (.tail _ (.tail _ (.tail _ (.tail _ (.tail _ (.head _)))))))) (fun p hp => Nat.ne_of_lt (hlA2 p (.tail _ (.tail _ (.tail _ (.tail _ (.tail _ (.tail _ hp))))))))
              have hko : ∀ p ∈ [(I, oI), (s₁.heap.objs.size + 1 + 1 + 1, og), (s₁.heap.objs.size + 1 + 1, oc), (s₁.heap.objs.size + 1, bo1), (d2, copyO w.params t2 b2 kk2)] ++ ((an2, tupO [Value.str "vanished" ta2, Value.ref xr2, Value.bool false] 0) :: T8), ∀ q ∈ [(d1, copyO w.params t1 b1 bk')], p.1 ≠ q.1 := off7 i4 (Ne.symm x13) (Ne.symm x12) (Ne.symm x11) x21 (Nat.ne_of_gt (hlA2 (d1, _) (.tail _ (.tail _ (.tail _ (.tail _ (.head _))))))) (GF.ne (o := copyO w.params t1 b1 bk) (.tail _ (.tail _ (.tail _ (.tail _ (.head _))))) y4)
              k_dflt (refine' Con.use (cTakeV w ((an2, tupO [Value.str "vanished" ta2, Value.ref xr2, Value.bool false] 0) :: T8) a1 d1 b1 bk' t1 rs (.ref xr2) ps gs an2 ta2 0 (hA8.mono fun p hp => .tail _ hp) (by omega) hRw.pw (fun r hr => by have := hRw.pos r hr; omega) (hps.mono fun p hp => .tail _ hp) hS (fun e => hg (by rw [← hN, e]; rfl)) (by omega) hN hgp hsub (.head _)) [(I, oI), (s₁.heap.objs.size + 1 + 1 + 1, og), (s₁.heap.objs.size + 1 + 1, oc), (s₁.heap.objs.size + 1, bo1), (d2, copyO w.params t2 b2 kk2)] ?k1 ?k2 ?k3 ?k4 ?k5 ?k6 ?k7 ?k8 ?k9 ?k10 ?_; (case k1 => k_asm); (case k2 => k_asm); (case k3 => k_asm); (case k4 => k_asm); (case k5 => k_asm); (case k6 => exact rfl); (case k7 => ktr_room); (case k8 => ktr_units); (case k10 => first | assumption | exact fun _ _ _ hq => (List.not_mem_nil hq).elim); (case k9 => exact k9f))
              rintro r mt' T9 h14 tk14 F14 N16 G9 - ⟨r1', rfl, rfl, hA9⟩
              simp only [List.cons_append, List.nil_append] at N16
              have GI := al_step GH G9 ⟨_, .tail _ (.head _)⟩ ⟨_, .tail _ (.tail _ (.head _))⟩ ⟨_, .tail _ (.tail _ (.tail _ (.head _)))⟩ ⟨_, .tail _ (.tail _ (.tail _ (.tail _ (.head _))))⟩ ⟨_, .head _⟩ ⟨_, .tail _ (.tail _ (.tail _ (.tail _ (.tail _ (.head _)))))⟩ (sub_skip (sub_skip (sub_skip (sub_skip (sub_skip (sub_skip sub_id))))))
              clear N9 F9
              k_steps
              rename News _ _ _ _ => N17
              rename Fr _ _ _ _ => F17
              exact ⟨rfl, _, _, _, rfl, F17, fun p hp => N17 p (std1 p hp), r1', T9, rfl, GI, hA9, G9.1 _ (.tail _ (G8.1 _ hD9))⟩
          · rintro h13 tk13 news ⟨r1', T8, rfl, GF, hA8, hD8⟩ F15 N15
            clear N13
            have hlr8 := GF.1 _ hlr
            have hDD8 := hDD.mono GF.1
            have hA2' := hA2.mono GF.1
            have q1 := hA8.inst
            have q2 := hA2'.inst
            have y2' := GF.ne (o := bo2) (.tail _ (.tail _ (.head _))) y2
            (try dsimp only)
            k_steps
            rename IsRange _ _ _ _ _ _ _ _ => rg
            rename News _ _ _ _ => N9
            rename Fr _ _ _ _ => F9
            refine unstop ?_
            k_dflt (refine LCt.CompSrcT.range (n := rs.length) rfl F9 N9 rg (small_one (by omega) (by omega) (by omega) (by omega)) ?_ (by rw [sizeLine_eq]; omega) ?_)
            · rw [rangeSize_nat, Int.sub_zero, Int.toNat_natCast]
            intro g11
            refine comp_invT (n := rs.length) (fun j ys3 T => T = (I, oI) :: (s₁.heap.objs.size + 1 + 1 + 1, og) :: (s₁.heap.objs.size + 1 + 1, oc) :: (s₁.heap.objs.size + 1, bo1) :: (d1, copyO w.params t1 r1' bk') :: (d2, copyO w.params t2 b2 kk2) :: T8 ∧ DatAll [] ys3 (((poss gs rs j).map fun k => ((k : Nat) : Int) + 1).map Dat.int)) ?_ ?_ _ 0 [] _ (Nat.zero_add _) ⟨rfl, .nil⟩
            · rintro j ys3 _ hj ⟨rfl, hy3⟩ v I2 oI2 C2 oC2 D2 m2 h10 tk10 E' ⟨t3, rfl⟩ hC2 hx F3 N3 off3 ne2
              obtain ⟨x, tx, nx, f, tz9, tf9, nf9, e1, w1, w2⟩ := row_get hDD8 hj
              obtain ⟨z9, hz9⟩ : ∃ z, z = rs[j].1 := ⟨_, rfl⟩
              rw [← hz9] at w1
              have e2 : ws[(0 + (j : Int)).toNat]? = some (Value.ref x) := by rw [Int.zero_add, Int.toNat_natCast]; exact e1
              have hgo : isGone gs rs j = decide (z9 ∈ gs) := by rw [gone_iff hj, hz9]
              clear F9 N9 rg
              (try k_fold)
              k_steps
              · rename _ ∈ gs => hin
                rename News _ _ _ _ => N10
                rename Fr _ _ _ _ => F10
                refine cend_same F10 N10 off3 trivial ⟨rfl, ?_⟩
                rw [poss_succ, hgo, decide_eq_true hin, if_pos rfl, List.map_append, List.map_append, show (0 : Int) + (j : Int) + 1 = (j : Int) + 1 by omega]
                exact hy3.append (DatAll.one (.int _ _))
              · rename ¬ _ ∈ gs => hin
                rename News _ _ _ _ => N10
                rename Fr _ _ _ _ => F10
                refine cend_same F10 N10 off3 trivial ⟨rfl, ?_⟩
                rw [poss_succ, hgo, decide_eq_false hin, if_neg (by decide), List.append_nil]
                exact hy3
            · rintro ys3 _ ⟨rfl, hy3⟩ D11 h14 tk14 F3 N3 off3
              have hcn := cnt (gs := gs) (Nat.le_refl rs.length)
              obtain ⟨m, hm⟩ : ∃ m, m = (poss gs rs rs.length).length := ⟨_, rfl⟩
              rw [← hm] at hcn
              have hnl : ys3.length = m := by rw [hy3.length, List.length_map, List.length_map, hm]
              have hDn := off1_all off3
              have GK := al_new (D := D11) (o := LCg.lst ys3) GF (hDn (I, oI) (.head _)) (hDn (s₁.heap.objs.size + 1 + 1 + 1, og) (.tail _ (.head _))) (hDn (s₁.heap.objs.size + 1 + 1, oc) (.tail _ (.tail _ (.head _)))) (hDn (s₁.heap.objs.size + 1, bo1) (.tail _ (.tail _ (.tail _ (.head _))))) (hDn (d1, _) (.tail _ (.tail _ (.tail _ (.tail _ (.head _)))))) (hDn (d2, _) (.tail _ (.tail _ (.tail _ (.tail _ (.tail _ (.head _))))))) (fun p hp => hDn p (.tail _ (.tail _ (.tail _ (.tail _ (.tail _ (.tail _ hp)))))))
              have hDd2 : @Ne Nat D11 d2 := Ne.symm (hDn (d2, _) (.tail _ (.tail _ (.tail _ (.tail _ (.tail _ (.head _)))))))
              clear F9 N9 rg
              (try k_fold)
              k_steps
              rename IsRange _ _ _ _ _ _ _ _ => rg
              rename News _ _ _ _ => N7
              rename Fr _ _ _ _ => F7
              show wpAny _ _ _ _ _ _
              refine lp_range (σ := Addr) (n := m) (fun a => [(d2, copyO w.params t2 a kk2)]) [(I, oI), (s₁.heap.objs.size + 1 + 1 + 1, og), (s₁.heap.objs.size + 1 + 1, oc), (s₁.heap.objs.size + 1, bo1), (d1, copyO w.params t1 r1' bk')] ((D11, LCg.lst ys3) :: T8) (fun _ => [("first", .ref a1), ("second", .ref a2), ("uid", .int bz btz), ("numbers", .ref D11)])
                (fun j a T => ∃ qs, (if (cz.fdiv 512).fmod 2 = 0 then InvA gs rs j qs else InvB gs rs j qs) ∧ qs.length ≤ 40 ∧ CopyIs w T a2 d2 a kk2 qs) [d2] b2
                rfl rg (small_one (by omega) (by omega) (by omega) (by omega)) (by rw [rangeSize_nat, Int.sub_zero, Int.toNat_natCast]) F7 N7 sub9 (fun _ => rfl) (off_la (ms := [(d2, copyO w.params t2 b2 kk2)]) (off7 i5 (Ne.symm x24) (Ne.symm x23) (Ne.symm x22) (Ne.symm x21) hDd2 (GF.ne (o := copyO w.params t2 b2 kk2) (.tail _ (.tail _ (.tail _ (.tail _ (.tail _ (.head _)))))) y5)) rfl) (by kst_all) ⟨rs, (by split <;> first | exact invA_zero | exact invB_zero), (by omega), hA2'.mono fun p hp => .tail _ hp⟩ (fun I v s Q E hQ => go_name I v s Q E hQ) ?_ ?_
              · rintro j v a T10 u10 h15 tk15 I3 oI3 ⟨hj, t9, rfl⟩ ⟨qs, hinv, hql, hA10⟩ sub3 off4 hne3 F8 N8
                dsimp only at F8 N8
                simp only [List.cons_append, List.nil_append] at N8
                rw [Int.zero_add]
                obtain ⟨pA, hpA⟩ : ∃ p, (poss gs rs rs.length)[j]? = some p := ⟨_, List.getElem?_eq_getElem (by omega)⟩
                obtain ⟨pB, hpB⟩ : ∃ p, (poss gs rs rs.length)[(poss gs rs rs.length).length - 1 - j]? = some p := ⟨_, List.getElem?_eq_getElem (by omega)⟩
                obtain ⟨tA, hyA⟩ := nums_get hy3 (i := j) (z := (pA : Int) + 1) (by rw [List.getElem?_map, hpA]; rfl)
                obtain ⟨tB, hyB⟩ := nums_get hy3 (i := m - 1 - j) (z := (pB : Int) + 1) (by rw [List.getElem?_map, hm, hpB]; rfl)
                have e3 : ys3[((j : Int)).toNat]? = some (Value.int ((pA : Int) + 1) tA) := by rw [Int.toNat_natCast]; exact hyA
                have e4 : ys3[((m : Int) - 1 - (j : Int)).toNat]? = some (Value.int ((pB : Int) + 1) tB) := by rw [show ((m : Int) - 1 - (j : Int)).toNat = m - 1 - j by omega]; exact hyB
                have q1 := hA10.inst
                have q3 : (D11, LCg.lst ys3) ∈ T10 := sub3 _ (.head _)
                clear F7 N7 rg
                (try k_fold)
                k_steps
                show wpAny _ _ _ _ _ _
                k_dflt (refine if_split (P := fun z => ∃ k : Nat, z = (k : Int) + 1 ∧ k < qs.length ∧ (if (cz.fdiv 512).fmod 2 = 0 then InvA gs rs (j + 1) (qs.take k ++ qs.drop (k + 1)) else InvB gs rs (j + 1) (qs.take k ++ qs.drop (k + 1)))) (by k_asm) (by k_asm) ?_ ?_)
                · k_steps
                  · rename _ = (0 : Int) => hc0
                    rename News _ _ _ _ => N10
                    rw [if_pos hc0] at hinv
                    obtain ⟨s1, s2, s3⟩ := invA_step hinv hpA
                    exact ⟨_, _, _, _, rfl, ⟨pA - j, by omega, s2, by rw [if_pos hc0]; exact s3⟩, rfl, by k_asm, N10⟩
                  · rename ¬ _ = (0 : Int) => hc0
                    rename News _ _ _ _ => N10
                    rw [if_neg hc0] at hinv
                    obtain ⟨s2, s3⟩ := invB_step hinv (by omega) hpB
                    exact ⟨_, _, _, _, rfl, ⟨pB, rfl, s2, by rw [if_neg hc0]; exact s3⟩, rfl, by k_asm, N10⟩
                · rintro z9 t9' h16 tk16 ⟨k, hz, hk, hinv'⟩ F9 N9
                  k_steps
                  show wpAny _ _ _ _ _ _
                  rename News _ _ _ _ => N9
                  rename Fr _ _ _ _ => F9
                  rename_i an3 _ ltA3
                  obtain ⟨ta3, N9⟩ : ∃ ta, News _ _ _ ((an3, tupO [Value.str "expunge" ta, Value.int z9 t9'] 0) :: (I3, oI3) :: (d2, copyO w.params t2 a kk2) :: (I, oI) :: (s₁.heap.objs.size + 1 + 1 + 1, og) :: (s₁.heap.objs.size + 1 + 1, oc) :: (s₁.heap.objs.size + 1, bo1) :: (d1, copyO w.params t1 r1' bk') :: T10) := ⟨_, N9⟩
                  have hlA3 : ∀ q ∈ (I3, oI3) :: (d2, copyO w.params t2 a kk2) :: (I, oI) :: (s₁.heap.objs.size + 1 + 1 + 1, og) :: (s₁.heap.objs.size + 1 + 1, oc) :: (s₁.heap.objs.size + 1, bo1) :: (d1, copyO w.params t1 r1' bk') :: T10, @LT.lt Nat _ q.1 an3 := kst_ltOf ltA3
                  have i6 : @Ne Nat I3 d2 := fun e => hne3 (d2, _) (.head _) e.symm
                  have hko : ∀ p ∈ [(I3, oI3), (I, oI), (s₁.heap.objs.size + 1 + 1 + 1, og), (s₁.heap.objs.size + 1 + 1, oc), (s₁.heap.objs.size + 1, bo1), (d1, copyO w.params t1 r1' bk')] ++ ((an3, tupO [Value.str "expunge" ta3, Value.int z9 t9'] 0) :: T10), ∀ q ∈ [(d2, copyO w.params t2 a kk2)], p.1 ≠ q.1 := off8 i6 i5 (Ne.symm x24) (Ne.symm x23) (Ne.symm x22) (Ne.symm x21) (Nat.ne_of_gt (hlA3 (d2, _) (.tail _ (.head _)))) (fun p hp => off4 p (List.mem_append_right _ hp) _ (.head _))
                  k_dflt (refine' Con.use (cTakeX w ((an3, tupO [Value.str "expunge" ta3, Value.int z9 t9'] 0) :: T10) a2 d2 a kk2 t2 qs z9 k t9' an3 ta3 0 (hA10.mono fun p hp => .tail _ hp) (by omega) hz hk (.head _)) [(I3, oI3), (I, oI), (s₁.heap.objs.size + 1 + 1 + 1, og), (s₁.heap.objs.size + 1 + 1, oc), (s₁.heap.objs.size + 1, bo1), (d1, copyO w.params t1 r1' bk')] ?k1 ?k2 ?k3 ?k4 ?k5 ?k6 ?k7 ?k8 ?k9 ?k10 ?_; (case k1 => k_asm); (case k2 => k_asm); (case k3 => k_asm); (case k4 => k_asm); (case k5 => k_asm); (case k6 => exact rfl); (case k7 => ktr_room); (case k8 => ktr_units); (case k10 => first | assumption | exact fun _ _ _ hq => (List.not_mem_nil hq).elim); (case k9 => exact k9g))
                  rintro r mt' T11 h17 tk17 F17 N17 G11 - ⟨r2', rfl, rfl, hA11⟩
                  simp only [List.cons_append, List.nil_append] at N17
                  clear N9 F9
                  k_steps
                  rename Fr _ _ _ _ => F18
                  rename News _ _ _ _ => N18
                  refine lend (c := a) r2' T11 F18 N18 lend3 (grow3 (p := (an3, _)) hlA3 G11) (by kst_all) ⟨_, hinv', ?_, hA11⟩
                  rw [List.length_append, List.length_take, List.length_drop]
                  omega
              · rintro a T10 u10 h15 tk15 ⟨qs, hinv, hql, hA10⟩ G10 off4 F8 N8
                have hqs : qs = without gs rs := by
                  split at hinv
                  · exact invA_end (hm ▸ hinv)
                  · exact invB_end (hm ▸ hinv)
                subst hqs
                dsimp only at F8 N8
                simp only [List.cons_append, List.nil_append] at N8
                clear F7 N7 rg
                have GM := al_step GK G10 ⟨_, .tail _ (.head _)⟩ ⟨_, .tail _ (.tail _ (.head _))⟩ ⟨_, .tail _ (.tail _ (.tail _ (.head _)))⟩ ⟨_, .tail _ (.tail _ (.tail _ (.tail _ (.head _))))⟩ ⟨_, .tail _ (.tail _ (.tail _ (.tail _ (.tail _ (.head _)))))⟩ ⟨_, .head _⟩ (sub_skip (sub_skip (sub_skip (sub_skip (sub_skip (sub_skip sub_id))))))
                have hlrT := GM.1 _ hlr
                have hDDT := hDD.mono GM.1
                have hD9T : (D9, LCg.lst ys) ∈ T10 := G10.1 _ (.tail _ hD8)
                have hA1T := hA8.mono fun p hp => G10.1 p (.tail _ hp)
                have q1 := hA1T.inst
                have q2 := hA10.inst
                have y1T := GM.ne (o := bo1) (.tail _ (.tail _ (.tail _ (.head _)))) y1
                (try k_fold)
                k_steps
                rename News _ _ _ _ => N9
                rename Fr _ _ _ _ => F9
                refine unstop ?_
                k_dflt (refine LCt.CompSrcT.ledger rfl F9 N9 (.tail _ (.tail _ (.tail _ (.tail _ (.tail _ (.tail _ hlrT)))))) (by rw [List.size_toArray, sizeLine_eq]; omega) ?_)
                intro g12
                refine comp_invT (n := ws.toArray.size) (fun j ys4 T => T = (d2, copyO w.params t2 a kk2) :: (I, oI) :: (s₁.heap.objs.size + 1 + 1 + 1, og) :: (s₁.heap.objs.size + 1 + 1, oc) :: (s₁.heap.objs.size + 1, bo1) :: (d1, copyO w.params t1 r1' bk') :: T10 ∧ DatAll T10 ys4 (rowsD (without gs (rs.take j)))) ?_ ?_ _ 0 [] _ (Nat.zero_add _) ⟨rfl, .nil⟩
                · rintro j ys4 _ hj ⟨rfl, hy4⟩ v I2 oI2 C2 oC2 D2 m2 h10 tk10 E' hv2 hC2 hx F3 N3 off3 ne2
                  have hv2 := arr_get hv2
                  have hj2 : j < rs.length := by rw [List.size_toArray, hwl] at hj; exact hj
                  obtain ⟨x, tx, nx, f, tz9, tf9, nf9, e1, w1, w2⟩ := row_get hDDT hj2
                  rw [hv2] at e1
                  cases e1
                  have hdat : DatAll T10 [Value.ref x] (rowsD [rs[j]]) := DatAll.one (.tuple w1 (.cons (.int _ _) (.cons (.tuple w2 (.cons (.str _ _) .nil)) (.cons (.int _ _) .nil))))
                  have hwt := without_take (gs := gs) hj2
                  obtain ⟨z9, hz9⟩ : ∃ z, z = rs[j].1 := ⟨_, rfl⟩
                  rw [← hz9] at w1 hwt
                  clear F9 N9
                  (try k_fold)
                  k_steps
                  · rename _ ∈ gs => hin
                    rename News _ _ _ _ => N10
                    rename Fr _ _ _ _ => F10
                    refine cend_same F10 N10 off3 ?_ ⟨rfl, ?_⟩
                    · exact Or.inr ⟨_, .tail _ (.tail _ (.tail _ (.tail _ (.tail _ (.tail _ hlrT))))), rfl, _, rfl⟩
                    · rw [hwt, if_pos hin, List.append_nil]
                      exact hy4
                  · rename ¬ _ ∈ gs => hin
                    rename News _ _ _ _ => N10
                    rename Fr _ _ _ _ => F10
                    refine cend_same F10 N10 off3 ?_ ⟨rfl, ?_⟩
                    · exact Or.inr ⟨_, .tail _ (.tail _ (.tail _ (.tail _ (.tail _ (.tail _ hlrT))))), rfl, _, rfl⟩
                    · rw [hwt, if_neg hin, rowsD, List.map_append]
                      exact hy4.append hdat
                · rintro ys4 _ ⟨rfl, hy4⟩ D12 h18 tk18 F3 N3 off3
                  rw [List.size_toArray, hwl, List.take_length] at hy4
                  have hyl4 : ys4.length ≤ 40 := by
                    rw [hy4.length, List.length_map]
                    exact Nat.le_trans (without_le _ _) (by omega)
                  have hwo : (without gs rs).length ≤ rs.length := without_le _ _
                  have hDn := off1_all off3
                  have x31 : @Ne Nat D12 (s₁.heap.objs.size + 1) := Ne.symm (hDn (s₁.heap.objs.size + 1, bo1) (.tail _ (.tail _ (.tail _ (.tail _ (.head _))))))
                  have w1 : @Ne Nat D12 d1 := Ne.symm (hDn (d1, _) (.tail _ (.tail _ (.tail _ (.tail _ (.tail _ (.head _)))))))
                  have w2 : @Ne Nat D12 d2 := Ne.symm (hDn (d2, _) (.head _))
                  have wT : ∀ p ∈ T10, p.1 ≠ D12 := fun p hp => hDn p (.tail _ (.tail _ (.tail _ (.tail _ (.tail _ (.tail _ hp))))))
                  have wI : @Ne Nat I D12 := hDn (I, oI) (.tail _ (.head _))
                  have w3 : @Ne Nat (s₁.heap.objs.size + 1 + 1 + 1) D12 := hDn (s₁.heap.objs.size + 1 + 1 + 1, og) (.tail _ (.tail _ (.head _)))
                  have w4 : @Ne Nat (s₁.heap.objs.size + 1 + 1) D12 := hDn (s₁.heap.objs.size + 1 + 1, oc) (.tail _ (.tail _ (.tail _ (.head _))))
                  have w5 : @Ne Nat (s₁.heap.objs.size + 1) D12 := Ne.symm x31
                  clear F9 N9
                  (try k_fold)
                  k_steps
                  show wpAny _ _ (call (Value.ref 215) [Value.ref _]) _ _ _
                  rename News _ _ _ _ => N9
                  rename Fr _ _ _ _ => F9
                  rename Obj => orr
                  rename _ = Data.cell (some (Value.ref D12)) => hrr9
                  have hko : ∀ p ∈ [(D12, LCg.lst ys4), (d2, copyO w.params t2 a kk2), (I, oI), (s₁.heap.objs.size + 1 + 1 + 1, og), (s₁.heap.objs.size + 1 + 1, oc), (s₁.heap.objs.size + 1, orr)] ++ T10, ∀ q ∈ [(d1, copyO w.params t1 r1' bk')], p.1 ≠ q.1 := off9 w1 x21 i4 (Ne.symm x13) (Ne.symm x12) (Ne.symm x11) (GM.ne (o := copyO w.params t1 b1 bk) (.tail _ (.tail _ (.tail _ (.tail _ (.head _))))) y4)
                  k_dflt (refine' Con.use (cTold w T10 a1 d1 r1' bk' t1 (without gs rs) hA1T (by omega)) [(D12, LCg.lst ys4), (d2, copyO w.params t2 a kk2), (I, oI), (s₁.heap.objs.size + 1 + 1 + 1, og), (s₁.heap.objs.size + 1 + 1, oc), (s₁.heap.objs.size + 1, orr)] ?k1 ?k2 ?k3 ?k4 ?k5 ?k6 ?k7 ?k8 ?k9 ?k10 ?_; (case k1 => k_asm); (case k2 => k_asm); (case k3 => k_asm); (case k4 => k_asm); (case k5 => k_asm); (case k6 => exact rfl); (case k7 => ktr_room); (case k8 => ktr_units); (case k10 => first | assumption | exact fun _ _ _ hq => (List.not_mem_nil hq).elim); (case k9 => exact t9a))
                  rintro r mt' T11 h19 tk19 F19 N19 G11 - ⟨rfl, hrA⟩
                  simp only [List.cons_append, List.nil_append] at N19
                  obtain ⟨xA, vA, nA, rfl, -, -⟩ := dat_tup hrA
                  have GN := al_step GM G11 ⟨_, .tail _ (.tail _ (.tail _ (.head _)))⟩ ⟨_, .tail _ (.tail _ (.tail _ (.tail _ (.head _))))⟩ ⟨_, .tail _ (.tail _ (.tail _ (.tail _ (.tail _ (.head _)))))⟩ ⟨_, .tail _ (.tail _ (.tail _ (.tail _ (.tail _ (.tail _ (.head _))))))⟩ ⟨_, .head _⟩ ⟨_, .tail _ (.tail _ (.head _))⟩ (sub_skip (sub_skip (sub_skip (sub_skip (sub_skip (sub_skip (sub_skip sub_id)))))))
                  have wT11 := G11.ne (o := LCg.lst ys4) (.tail _ (.head _)) wT
                  have hM9 : Mark9 := trivial
                  have hA1U := hA1T.mono G11.1
                  have hA2U := hA10.mono G11.1
                  have hy4U := hy4.mono G11.1
                  have hokR := (hRw.filter gs).ok
                  have q1 := hA1U.inst
                  have q2 := hA2U.inst
                  clear F9 N9
                  k_steps
                  show wpAny _ _ _ _ _ _
                  rename News _ _ _ _ => N9
                  k_dflt (refine ne_same (d := .tuple [.str "", .int 0, .tuple (rowsD (without gs rs))]) N9 (hrA.mono (sub_skip (sub_skip (sub_skip (sub_skip (sub_skip (sub_skip (sub_skip (sub_skip (sub_skip sub_id)))))))))) (.tuple (.head _) (.cons (.str _ _) (.cons (.int _ _) (.cons (.tuple (.tail _ (.head _)) (hy4U.mono (sub_skip (sub_skip (sub_skip (sub_skip (sub_skip (sub_skip (sub_skip (sub_skip (sub_skip sub_id))))))))))) .nil)))) (told_ok hokR) (by ke_room) ?_)
                  k_steps
                  show wpAny _ _ (call (Value.ref 215) [Value.ref _]) _ _ _
                  rename News _ _ _ _ => N9
                  rename Fr _ _ _ _ => F9
                  have hko2 : ∀ p ∈ [(d1, copyO w.params t1 r1' bk'), (D12, LCg.lst ys4), (I, oI), (s₁.heap.objs.size + 1 + 1 + 1, og), (s₁.heap.objs.size + 1 + 1, oc), (s₁.heap.objs.size + 1, orr)] ++ T11, ∀ q ∈ [(d2, copyO w.params t2 a kk2)], p.1 ≠ q.1 := off9 (Ne.symm x21) w2 i5 (Ne.symm x24) (Ne.symm x23) (Ne.symm x22) (GN.ne (o := copyO w.params t2 b2 kk2) (.tail _ (.tail _ (.tail _ (.tail _ (.tail _ (.head _)))))) y5)
                  k_dflt (refine' Con.use (cTold w T11 a2 d2 a kk2 t2 (without gs rs) hA2U (by omega)) [(d1, copyO w.params t1 r1' bk'), (D12, LCg.lst ys4), (I, oI), (s₁.heap.objs.size + 1 + 1 + 1, og), (s₁.heap.objs.size + 1 + 1, oc), (s₁.heap.objs.size + 1, orr)] ?k1 ?k2 ?k3 ?k4 ?k5 ?k6 ?k7 ?k8 ?k9 ?k10 ?_; (case k1 => k_asm); (case k2 => k_asm); (case k3 => k_asm); (case k4 => k_asm); (case k5 => k_asm); (case k6 => exact rfl); (case k7 => ktr_room); (case k8 => ktr_units); (case k10 => first | assumption | exact fun _ _ _ hq => (List.not_mem_nil hq).elim); (case k9 => exact t9b))
                  rintro r mt' T12 h20 tk20 F20 N20 G12 - ⟨rfl, hrB⟩
                  simp only [List.cons_append, List.nil_append] at N20
                  obtain ⟨xB, vB, nB, rfl, -, -⟩ := dat_tup hrB
                  have GO := al_step GN G12 ⟨_, .tail _ (.tail _ (.tail _ (.head _)))⟩ ⟨_, .tail _ (.tail _ (.tail _ (.tail _ (.head _))))⟩ ⟨_, .tail _ (.tail _ (.tail _ (.tail _ (.tail _ (.head _)))))⟩ ⟨_, .tail _ (.tail _ (.tail _ (.tail _ (.tail _ (.tail _ (.head _))))))⟩ ⟨_, .tail _ (.head _)⟩ ⟨_, .head _⟩ (sub_skip (sub_skip (sub_skip (sub_skip (sub_skip (sub_skip (sub_skip sub_id)))))))
                  have wT12 := G12.ne (o := LCg.lst ys4) (.tail _ (.tail _ (.head _))) wT11
                  have hA1V := hA1U.mono G12.1
                  have hA2V := hA2U.mono G12.1
                  have hy4V := hy4U.mono G12.1
                  have q1 := hA1V.inst
                  have q2 := hA2V.inst
                  clear F9 N9
                  k_steps
                  show wpAny _ _ (call (Value.ref 215) [Value.ref _]) _ _ _
                  rename News _ _ _ _ => N9
                  rename Fr _ _ _ _ => F9
                  have hko3 : ∀ p ∈ [(d2, copyO w.params t2 a kk2), (D12, LCg.lst ys4), (I, oI), (s₁.heap.objs.size + 1 + 1 + 1, og), (s₁.heap.objs.size + 1 + 1, oc), (s₁.heap.objs.size + 1, orr)] ++ T12, ∀ q ∈ [(d1, copyO w.params t1 r1' bk')], p.1 ≠ q.1 := off9 x21 w1 i4 (Ne.symm x13) (Ne.symm x12) (Ne.symm x11) (GO.ne (o := copyO w.params t1 b1 bk) (.tail _ (.tail _ (.tail _ (.tail _ (.head _))))) y4)
                  k_dflt (refine' Con.use (cTold w T12 a1 d1 r1' bk' t1 (without gs rs) hA1V (by omega)) [(d2, copyO w.params t2 a kk2), (D12, LCg.lst ys4), (I, oI), (s₁.heap.objs.size + 1 + 1 + 1, og), (s₁.heap.objs.size + 1 + 1, oc), (s₁.heap.objs.size + 1, orr)] ?k1 ?k2 ?k3 ?k4 ?k5 ?k6 ?k7 ?k8 ?k9 ?k10 ?_; (case k1 => k_asm); (case k2 => k_asm); (case k3 => k_asm); (case k4 => k_asm); (case k5 => k_asm); (case k6 => exact rfl); (case k7 => ktr_room); (case k8 => ktr_units); (case k10 => first | assumption | exact fun _ _ _ hq => (List.not_mem_nil hq).elim); (case k9 => exact t9c))
                  rintro r mt' T13 h21 tk21 F21 N21 G13 - ⟨rfl, hrC⟩
                  simp only [List.cons_append, List.nil_append] at N21
                  obtain ⟨xC, vC, nC, rfl, -, -⟩ := dat_tup hrC
                  have GP := al_step GO G13 ⟨_, .tail _ (.tail _ (.tail _ (.head _)))⟩ ⟨_, .tail _ (.tail _ (.tail _ (.tail _ (.head _))))⟩ ⟨_, .tail _ (.tail _ (.tail _ (.tail _ (.tail _ (.head _)))))⟩ ⟨_, .tail _ (.tail _ (.tail _ (.tail _ (.tail _ (.tail _ (.head _))))))⟩ ⟨_, .head _⟩ ⟨_, .tail _ (.head _)⟩ (sub_skip (sub_skip (sub_skip (sub_skip (sub_skip (sub_skip (sub_skip sub_id)))))))
                  have wT13 := G13.ne (o := LCg.lst ys4) (.tail _ (.tail _ (.head _))) wT12
                  have hA1W := hA1V.mono G13.1
                  have hA2W := hA2V.mono G13.1
                  have hy4W := hy4V.mono G13.1
                  have q1 := hA1W.inst
                  have q2 := hA2W.inst
                  clear F9 N9
                  k_steps
                  show wpAny _ _ _ _ _ _
                  rename News _ _ _ _ => N9
                  k_dflt (refine ne_same (d := .tuple [.str "", .int 0, .tuple (rowsD (without gs rs))]) N9 (hrB.mono fun p hp => .tail _ (.tail _ (.tail _ (.tail _ (.tail _ (.tail _ (.tail _ (G13.1 p hp)))))))) (hrC.mono (sub_skip (sub_skip (sub_skip (sub_skip (sub_skip (sub_skip (sub_skip sub_id)))))))) (told_ok hokR) (by ke_room) ?_)
                  clear hM9
                  k_steps
                  · show wpAny _ _ _ _ _ _
                    rename News _ _ _ _ => N9
                    rename Fr _ _ _ _ => F9
                    rename_i l9 _ lt9
                    have hb9 : 0 ≤ (cz.fdiv 1024).fmod 3 ∧ (cz.fdiv 1024).fmod 3 < 3 := ⟨Int.fmod_nonneg_of_pos _ (by decide), Int.fmod_lt_of_pos _ (by decide)⟩
                    generalize (cz.fdiv 1024).fmod 3 = b9 at hb9 F9 ⊢
                    obtain ⟨u9, hu9⟩ : ∃ x, x = bz + 1 + b9 := ⟨_, rfl⟩
                    rw [← hu9] at F9 ⊢
                    have hRn := hRw.nn
                    have hal9 : ∀ q ∈ (d1, copyO w.params t1 r1' bk') :: (d2, copyO w.params t2 a kk2) :: (D12, LCg.lst ys4) :: (I, oI) :: (s₁.heap.objs.size + 1 + 1 + 1, og) :: (s₁.heap.objs.size + 1 + 1, oc) :: (s₁.heap.objs.size + 1, orr) :: T13, @LT.lt Nat _ q.1 l9 := kst_ltOf lt9
                    have z4T := GP.ne (o := copyO w.params t1 b1 bk) (.tail _ (.tail _ (.tail _ (.tail _ (.head _))))) y4
                    have z5T := GP.ne (o := copyO w.params t2 b2 kk2) (.tail _ (.tail _ (.tail _ (.tail _ (.tail _ (.head _)))))) y5
                    have hko4 : ∀ p ∈ [(I, oI), (s₁.heap.objs.size + 1 + 1 + 1, og), (s₁.heap.objs.size + 1 + 1, oc), (s₁.heap.objs.size + 1, orr)] ++ ((l9, listOf #[Value.ref a1, Value.ref a2] 0) :: T13), ∀ q ∈ [(D12, LCg.lst ys4), (d1, copyO w.params t1 r1' bk'), (d2, copyO w.params t2 a kk2)], p.1 ≠ q.1 :=
                      off_in (three_ne wI i4 i5) (off_in (three_ne w3 (Ne.symm x13) (Ne.symm x24)) (off_in (three_ne w4 (Ne.symm x12) (Ne.symm x23)) (off_in (three_ne w5 (Ne.symm x11) (Ne.symm x22)) (off_in (three_ne (Nat.ne_of_gt (hal9 (D12, _) (.tail _ (.tail _ (.head _))))) (Nat.ne_of_gt (hal9 (d1, _) (.head _))) (Nat.ne_of_gt (hal9 (d2, _) (.tail _ (.head _))))) fun p hp => three_ne (wT13 p hp) (z4T p hp) (z5T p hp)))))
                    k_dflt (refine' Con.use (cCome w ((l9, listOf #[Value.ref a1, Value.ref a2] 0) :: T13) a1 d1 r1' bk' a2 d2 a kk2 l9 D12 t1 t2 (without gs rs) ys4 ys4.length 0 u9 _ (Str.ofString "c") _ (hA1W.mono fun p hp => .tail _ hp) (hA2W.mono fun p hp => .tail _ hp) (by omega) (hy4W.mono fun p hp => .tail _ hp) (.head _) ((hRw.filter gs).low (u := u9) (by omega)) (by omega) w1 w2 (Ne.symm x21)) [(I, oI), (s₁.heap.objs.size + 1 + 1 + 1, og), (s₁.heap.objs.size + 1 + 1, oc), (s₁.heap.objs.size + 1, orr)] ?k1 ?k2 ?k3 ?k4 ?k5 ?k6 ?k7 ?k8 ?k9 ?k10 ?_; (case k1 => k_asm); (case k2 => k_asm); (case k3 => k_asm); (case k4 => k_asm); (case k5 => k_asm); (case k6 => exact rfl); (case k7 => ktr_room); (case k8 => ktr_units); (case k10 => first | assumption | exact fun _ _ _ hq => (List.not_mem_nil hq).elim); (case k9 => exact t9d))
                    rintro r mt' T14 h22 tk22 F22 N22 G14 - ⟨r1'', r2'', vs', nr', rfl, rfl, hV, hP1, hP2⟩
                    simp only [List.cons_append, List.nil_append] at N22
                    have GQ0 := al_new (D := l9) (o := listOf #[Value.ref a1, Value.ref a2] 0) GP (Nat.ne_of_lt (hal9 (I, _) (.tail _ (.tail _ (.tail _ (.head _)))))) (Nat.ne_of_lt (hal9 (s₁.heap.objs.size + 1 + 1 + 1, _) (.tail _ (.tail _ (.tail _ (.tail _ (.head _))))))) (Nat.ne_of_lt (hal9 (s₁.heap.objs.size + 1 + 1, _) (.tail _ (.tail _ (.tail _ (.tail _ (.tail _ (.head _)))))))) (Nat.ne_of_lt (hal9 (s₁.heap.objs.size + 1, _) (.tail _ (.tail _ (.tail _ (.tail _ (.tail _ (.tail _ (.head _))))))))) (Nat.ne_of_lt (hal9 (d1, _) (.head _))) (Nat.ne_of_lt (hal9 (d2, _) (.tail _ (.head _)))) (fun p hp => Nat.ne_of_lt (hal9 p (.tail _ (.tail _ (.tail _ (.tail _ (.tail _ (.tail _ (.tail _ hp)))))))))
                    have GQ := al_step GQ0 G14 ⟨_, .tail _ (.tail _ (.tail _ (.head _)))⟩ ⟨_, .tail _ (.tail _ (.tail _ (.tail _ (.head _))))⟩ ⟨_, .tail _ (.tail _ (.tail _ (.tail _ (.tail _ (.head _)))))⟩ ⟨_, .tail _ (.tail _ (.tail _ (.tail _ (.tail _ (.tail _ (.head _))))))⟩ ⟨_, .tail _ (.head _)⟩ ⟨_, .tail _ (.tail _ (.head _))⟩ (sub_skip (sub_skip (sub_skip (sub_skip (sub_skip (sub_skip (sub_skip sub_id)))))))
                    have wT14 := G14.ne (o := LCg.lst ys4) (.head _) (all_in (Nat.ne_of_gt (hal9 (D12, _) (.tail _ (.tail _ (.head _))))) wT13)
                    clear N9 F9
                    k_steps
                    rename Fr _ _ _ _ => F23
                    rename News _ _ _ _ => N23
                    refine lend (σ := S2) (c := S2.mk b1 b2 bk bz btz blr bo1 bo2 bo3) (S2.mk r1'' r2'' bk' u9 _ D12 orr oc og) ((D12, listOf vs'.toArray nr') :: T14) F23 N23 t9f (al_new GQ wI w3 w4 w5 (Ne.symm w1) (Ne.symm w2) wT14) (by kst_all) ⟨without gs rs ++ [(u9, Str.ofString "c")], vs', nr', hrr9, ⟨_, hoc⟩, ⟨_, hog⟩, .head _, hV.mono fun p hp => .tail _ hp, (hRw.filter gs).snoc (u := u9) (by omega) c_ok, ?_, ?_, hP1.mono fun p hp => .tail _ hp, hP2.mono fun p hp => .tail _ hp⟩
                    · rw [List.length_append, List.length_singleton]; omega
                    · show u9 ≤ 100 + 10 * ((i + 1 : Nat) : Int); omega
                  · rename News _ _ _ _ => N9
                    rename Fr _ _ _ _ => F9
                    refine lend (σ := S2) (c := S2.mk b1 b2 bk bz btz blr bo1 bo2 bo3) (S2.mk r1' a bk' bz btz D12 orr oc og) ((D12, LCg.lst ys4) :: T13) F9 N9 t9e (al_new GP wI w3 w4 w5 (Ne.symm w1) (Ne.symm w2) wT13) (by kst_all) ⟨without gs rs, ys4, ys4.length, hrr9, ⟨_, hoc⟩, ⟨_, hog⟩, .head _, hy4W.mono fun p hp => .tail _ hp, hRw.filter gs, ?_, ?_, hA1W.mono fun p hp => .tail _ hp, hA2W.mono fun p hp => .tail _ hp⟩
                    · omega
                    · show bz ≤ 100 + 10 * ((i + 1 : Nat) : Int); omega
    · rintro ⟨b1, b2, bk, bz, btz, blr, bo1, bo2, bo3⟩ T5 u5 h5 tk5 ⟨rs, ws, nr, ho1, -, -, hlr, hDD, hRw, hrl, hzb, hA1, hA2⟩ G5' off5 F8 N8
      dsimp only at F8 N8 ho1 hlr hRw hA1 hA2
      simp only [List.cons_append, List.nil_append] at N8
      clear F7 N7
      have hwl : ws.length = rs.length := by rw [hDD.length, List.length_map]
      have hr12 : rs.length ≤ 20 := by omega
      have y4 : ∀ p ∈ T5, p.1 ≠ d1 := fun p hp => off5 p hp _ (.tail _ (.tail _ (.tail _ (.head _))))
      have q1 := hA1.inst
      have q2 := hA2.inst
      have hM9 : Mark9 := trivial
      (try k_fold)
      k_steps
      show wpAny _ _ (call (Value.ref 198) [Value.ref _]) _ _ _
      rename News _ _ _ _ => N9
      rename Fr _ _ _ _ => F9
      have hko : ∀ p ∈ [(s₁.heap.objs.size + 1 + 1 + 1, bo3), (s₁.heap.objs.size + 1 + 1, bo2), (s₁.heap.objs.size + 1, bo1), (d2, copyO w.params t2 b2 kk2)] ++ T5, ∀ q ∈ [(d1, copyO w.params t1 b1 bk)], p.1 ≠ q.1 := off_in (one_ne (Ne.symm x13)) (off_in (one_ne (Ne.symm x12)) (off_in (one_ne (Ne.symm x11)) (off_in (one_ne x21) fun p hp => one_ne (y4 p hp))))
      k_dflt (refine' Con.use (cUidsL w T5 a1 d1 b1 bk t1 rs hA1 (by omega)) [(s₁.heap.objs.size + 1 + 1 + 1, bo3), (s₁.heap.objs.size + 1 + 1, bo2), (s₁.heap.objs.size + 1, bo1), (d2, copyO w.params t2 b2 kk2)] ?k1 ?k2 ?k3 ?k4 ?k5 ?k6 ?k7 ?k8 ?k9 ?k10 ?_; (case k1 => k_asm); (case k2 => k_asm); (case k3 => k_asm); (case k4 => k_asm); (case k5 => k_asm); (case k6 => exact rfl); (case k7 => ktr_room); (case k8 => ktr_units); (case k10 => first | assumption | exact fun _ _ _ hq => (List.not_mem_nil hq).elim); (case k9 => exact t9h))
      rintro r mt' T6 h11 tk11 F11 N11 G6 - ⟨rfl, hrA⟩
      simp only [List.cons_append, List.nil_append] at N11
      obtain ⟨xA, vA, nA, rfl, -, -⟩ := dat_lst hrA
      have hlr6 := G6.1 _ hlr
      have hDD6 := hDD.mono G6.1
      have hA6 := hA1.mono G6.1
      have q1 := hA6.inst
      have y46 := G6.ne (o := copyO w.params t1 b1 bk) (.head _) y4
      clear F9 N9
      k_steps
      rename News _ _ _ _ => N9
      rename Fr _ _ _ _ => F9
      refine unstop ?_
      k_dflt (refine LCg.CompSrc.ledger rfl F9 N9 (.tail _ (.tail _ (.tail _ (.tail _ (.tail _ hlr6))))) (by rw [List.size_toArray, sizeLine_eq]; omega) ?_)
      intro g10
      refine comp_inv (n := ws.toArray.size) (fun j ys2 T => T = (d1, copyO w.params t1 b1 bk) :: (s₁.heap.objs.size + 1 + 1 + 1, bo3) :: (s₁.heap.objs.size + 1 + 1, bo2) :: (s₁.heap.objs.size + 1, bo1) :: (d2, copyO w.params t2 b2 kk2) :: T6 ∧ DatAll [] ys2 (((rs.take j).map (·.1)).map Dat.int)) ?_ ?_ _ 0 [] _ (Nat.zero_add _) ⟨rfl, .nil⟩
      · rintro j ys2 _ hj ⟨rfl, hy2⟩ v I2 oI2 C2 oC2 D2 m2 h10 tk10 E' hv2 hC2 hx F3 N3 off3 ne2
        have hv2 := arr_get hv2
        have hj2 : j < rs.length := by rw [List.size_toArray, hwl] at hj; exact hj
        obtain ⟨x, tx, nx, f, tz9, tf9, nf9, e1, w1, w2⟩ := row_get hDD6 hj2
        rw [hv2] at e1
        cases e1
        have hri : rs.take (j + 1) = rs.take j ++ [rs[j]] := by rw [List.take_add_one, List.getElem?_eq_getElem hj2, Option.toList_some]
        obtain ⟨z9, hz9⟩ : ∃ z, z = rs[j].1 := ⟨_, rfl⟩
        rw [← hz9] at w1
        clear F9 N9
        (try k_fold)
        k_steps
        rename News _ _ _ _ => N10
        rename Fr _ _ _ _ => F10
        refine cend_same F10 N10 off3 ?_ ⟨rfl, ?_⟩
        · exact Or.inr ⟨_, .tail _ (.tail _ (.tail _ (.tail _ (.tail _ hlr6)))), rfl, _, rfl⟩
        · rw [hri, List.map_append, List.map_append, List.map_singleton, List.map_singleton, ← hz9]
          exact hy2.append (DatAll.one (.int _ _))
      · rintro ys2 _ ⟨rfl, hy2⟩ D10 h10 tk10 F3 N3 off3
        rw [List.size_toArray, hwl, List.take_length] at hy2
        clear F9 N9
        (try k_fold)
        k_steps
        show wpAny _ _ _ _ _ _
        rename News _ _ _ _ => N9
        k_dflt (refine eq_same (d := .list ((rs.map (·.1)).map Dat.int)) N9 (hrA.mono (sub_skip (sub_skip (sub_skip (sub_skip (sub_skip (sub_skip sub_id))))))) (.list (.head _) (ints_any hy2)) (list_ok _) (by exact Nat.le_of_ble_eq_true rfl) ?_)
        k_steps
        show wpAny _ _ (call (Value.ref 210) [Value.ref _]) _ _ _
        rename News _ _ _ _ => N9
        rename Fr _ _ _ _ => F9
        have hko : ∀ p ∈ [(s₁.heap.objs.size + 1 + 1 + 1, bo3), (s₁.heap.objs.size + 1 + 1, bo2), (s₁.heap.objs.size + 1, bo1), (d2, copyO w.params t2 b2 kk2)] ++ T6, ∀ q ∈ [(d1, copyO w.params t1 b1 bk)], p.1 ≠ q.1 := off_in (one_ne (Ne.symm x13)) (off_in (one_ne (Ne.symm x12)) (off_in (one_ne (Ne.symm x11)) (off_in (one_ne x21) fun p hp => one_ne (y46 p hp))))
        k_dflt (refine' Con.use (cMissing w T6 a1 d1 b1 bk t1 rs hA6 (by omega) fun r hr => (hRw.pos r hr).1) [(s₁.heap.objs.size + 1 + 1 + 1, bo3), (s₁.heap.objs.size + 1 + 1, bo2), (s₁.heap.objs.size + 1, bo1), (d2, copyO w.params t2 b2 kk2)] ?k1 ?k2 ?k3 ?k4 ?k5 ?k6 ?k7 ?k8 ?k9 ?k10 ?_; (case k1 => k_asm); (case k2 => k_asm); (case k3 => k_asm); (case k4 => k_asm); (case k5 => k_asm); (case k6 => exact rfl); (case k7 => ktr_room); (case k8 => ktr_units); (case k10 => first | assumption | exact fun _ _ _ hq => (List.not_mem_nil hq).elim); (case k9 => exact t9i))
        rintro r mt' T7 h12 tk12 F12 N12 G7 - ⟨rfl, hrB⟩
        simp only [List.cons_append, List.nil_append] at N12
        obtain ⟨xB, vB, nB, rfl, -, -⟩ := dat_lst hrB
        clear F9 N9
        k_steps
        show wpAny _ _ _ _ _ _
        rename News _ _ _ _ => N9
        k_dflt (refine eq_same (d := .list []) N9 (hrB.mono (sub_skip (sub_skip (sub_skip (sub_skip (sub_skip (sub_skip sub_id))))))) (.list (.head _) .nil) rfl (by exact Nat.le_of_ble_eq_true rfl) ?_)
        clear hM9
        k_steps
end Mine
theorem PySem.Challenge.cw_nz0301_01_holds : PySem.Challenge.rw_nz0301_01.Holds := by
  exact Mine.top
