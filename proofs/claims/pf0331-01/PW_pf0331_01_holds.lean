import PyProof.Rows.All
import Wide.All
import OpenK.AllK
import Wide.FinOn
import PySem.Challenge.RW_pf0331_01
set_option Elab.async false

namespace Mine
open PySem PySem.W PyProof.Rows
set_option maxRecDepth 100000 in
set_option maxHeartbeats 8000000 in
open_top hd for PySem.Challenge.rw_pf0331_01
end Mine

namespace Mine
open PySem PySem.W PyProof.Rows

theorem letGo_rangeiter {prog : Program} {w : World} {A : Around} {E : Value → Shared → Prop} {target : Expr} {I : Addr} {x y z : Int} {v : Value} {Q' : Unit → Shared → Prop} {s' : Shared} (hit : IsRangeIter s'.heap I x y z) (h : Q' () s') :
    wpAny (model prog w) A (letOwnedTupleGo target (.ref I) v) Q' E s' := by
  unfold letOwnedTupleGo
  cases target <;> first
    | exact wpAny_pure h
    | (cases v <;> first
        | exact wpAny_pure h
        | (refine wpAny_bind (wpAny_load hit ?_)
           exact wpAny_pure h))

section
variable {prog : Program} {w : World} {A : Around} {E : Value → Shared → Prop} {s : Shared} {env : Env} {h₀ : Heap} {target : Expr} {body : List Stmt} {Q : Flow → Shared → Prop}

/-- the loop that is still to run -/
def IterG (prog : Program) (w : World) (A : Around) (target : Expr) (body : List Stmt) (env : Env) (Q : Flow → Shared → Prop) (E : Value → Shared → Prop) (xv : Value) (s : Shared) : Prop :=
  wpAny (model prog w) A (pyIter xv) (fun it s₂ => codeAny (model prog w) A (.forLoop target it body [] env) (fun r s' => match r with | .ok f => Q f s' | .error e => cameBackBy (model prog w) A env E e s') s₂) E s

theorem For_G {iter : Expr} {pos : Pos} {L : Addr} {m : Str → Option Value} (_F : Fr h₀ L s.heap m)
    (h : wpAny (model prog w) A (eval iter env) (fun xv s₁ => IterG prog w A target body env Q E xv s₁) E s)
    (hs : ∀ x, foldedSetIterable iter env x = pure x := by intro _; rfl) :
    wpAny (model prog w) A (exec (.For target iter body [] pos) env) Q E s := wpAny_For h hs

/-- what a turn must leave behind -/
def EndG (h₀ : Heap) (L : Addr) (fx : List (Addr × Obj)) (J : (Str → Option Value) → List (Addr × Obj) → Prop) (I : Addr) (oI : Obj) (s₁ s₂ : Shared) : Prop :=
  ∃ h' tk m' nx, s₂ = { s₁ with heap := h', toks := tk } ∧ Fr h₀ L h' m' ∧ News h₀ L h' ((I, oI) :: nx) ∧ (∀ p ∈ nx, p.1 ≠ I) ∧ (∀ p ∈ fx, p ∈ nx) ∧ J m' nx

def TurnG (h₀ : Heap) (L : Addr) (fx : List (Addr × Obj)) (J : (Str → Option Value) → List (Addr × Obj) → Prop) (I : Addr) (oI : Obj) (s₁ : Shared) (Q : Flow → Shared → Prop) (f : Flow) (s₂ : Shared) : Prop :=
  match f with
  | .ret v => Q (.ret v) s₂
  | .brk => Q .next s₂
  | _ => EndG h₀ L fx J I oI s₁ s₂

theorem loopG_walk {I : Addr} {n : Nat} {P : Nat → Value → Prop} {St : Nat → Heap → Prop} {fx : List (Addr × Obj)} {m₀ : Str → Option Value} {news : List (Addr × Obj)} (J : Nat → (Str → Option Value) → List (Addr × Obj) → Prop)
    (W : Walks prog w A I (I :: fx.map (·.1)) [I] n P St) (hst : St 0 s.heap) (hob : ∀ i h, St i h → ∃ o, h.get? I = some o)
    (hgo : ∀ i v (s' : Shared) (Q' : Unit → Shared → Prop) (E' : Value → Shared → Prop), St i s'.heap → Q' () s' → wpAny (model prog w) A (letOwnedTupleGo target (.ref I) v) Q' E' s')
    (hI0 : h₀.get? I = none) (hIL : env.locals ≠ I)
    (F : Fr h₀ env.locals s.heap m₀) (N : News h₀ env.locals s.heap news) (hnI : ∀ p ∈ news, p.1 ≠ I) (hfx : ∀ p ∈ fx, p ∈ news) (hj : J 0 m₀ news)
    (turn : ∀ i v m₁ nx h tk oI, i < n → P i v → (∀ p ∈ nx, p.1 ≠ I) → (∀ p ∈ fx, p ∈ nx) → J i m₁ nx → Fr h₀ env.locals h m₁ → News h₀ env.locals h ((I, oI) :: nx) →
      wpAny (model prog w) A (assign target env v) (fun _ s₁ => wpAny (model prog w) A (execs body env) (TurnG h₀ env.locals fx (J (i + 1)) I oI { s with heap := h, toks := tk } Q) (fun _ _ => False) s₁) (fun _ _ => False) { s with heap := h, toks := tk })
    (done : ∀ m₁ nx h tk, (∀ p ∈ fx, p ∈ nx) → J n m₁ nx → Fr h₀ env.locals h m₁ → News h₀ env.locals h nx → Q .next { s with heap := h, toks := tk }) :
    codeAny (model prog w) A (.forLoop target (.ref I) body [] env) (fun r s' => match r with | .ok f => Q f s' | .error e => cameBackBy (model prog w) A env E e s') s := by
  refine codeAny_forLoop_any
    (fun k s' => ∃ h' tk m' nx i, s' = { s with heap := h', toks := tk } ∧ St i h' ∧ Fr h₀ env.locals h' m' ∧ News h₀ env.locals h' nx ∧ (∀ p ∈ nx, p.1 ≠ I) ∧ (∀ p ∈ fx, p ∈ nx) ∧ J i m' nx ∧ i ≤ n ∧ k = n + 1 - i) ?_ (n + 1)
    ⟨s.heap, s.toks, m₀, news, 0, rfl, hst, F, N, hnI, hfx, hj, Nat.zero_le _, rfl⟩
  rintro k s' ⟨h', tk, m', nx, i, rfl, hst', F', N', hn', hf', hJ, hi, rfl⟩
  have next : ∀ h₁ : Heap, (∀ b o, b ∉ [I] → h'.get? b = some o → h₁.get? b = some o) → Fr h₀ env.locals h₁ m' ∧ News h₀ env.locals h₁ nx := fun h₁ hk₁ =>
    ⟨⟨F'.ns.at' fun o e => hk₁ _ o (by simpa using hIL) e, fun b o e => hk₁ b o (by
        intro hb; rw [List.mem_singleton.mp hb, hI0] at e; cases e) (F'.keep b o e), F'.above⟩,
      fun p hp => ⟨hk₁ _ _ (by simpa using hn' p hp) (N' p hp).1, (N' p hp).2⟩⟩
  by_cases hlt : i < n
  · refine W.item i _ _ _ hlt hst' fun v h₁ tk₁ hP hst₁ hk₁ => ?_
    obtain ⟨F₁, N₁⟩ := next h₁ hk₁
    obtain ⟨oI, hoI⟩ := hob _ _ hst₁
    refine hgo (i + 1) v _ _ _ hst₁ ?_
    have N₂ : News h₀ env.locals h₁ ((I, oI) :: nx) := fun p hp => by
      rcases List.mem_cons.mp hp with rfl | hp
      · exact ⟨hoI, hIL.symm, hI0⟩
      · exact N₁ p hp
    refine wpAny_mono (turn i v m' nx h₁ tk₁ oI hlt hP hn' hf' hJ F₁ N₂) (fun _ s₂ h₂ => wpAny_mono h₂ (fun f s₃ h₃ => ?_) fun _ _ e => e.elim) fun _ _ e => e.elim
    have fin : EndG h₀ env.locals fx (J (i + 1)) I oI { s with heap := h₁, toks := tk₁ } s₃ → ∃ m, m < n + 1 - i ∧ ∃ h' tk m' nx i, s₃ = { s with heap := h', toks := tk } ∧ St i h' ∧ Fr h₀ env.locals h' m' ∧ News h₀ env.locals h' nx ∧ (∀ p ∈ nx, p.1 ≠ I) ∧ (∀ p ∈ fx, p ∈ nx) ∧ J i m' nx ∧ i ≤ n ∧ m = n + 1 - i := by
      rintro ⟨hq, tk₃, m₃, nx₃, e₃, F₃, N₃, hn₃, hf₃, hJ₃⟩
      refine ⟨n + 1 - (i + 1), by omega, hq, tk₃, m₃, nx₃, i + 1, e₃, W.frame _ _ _ hst₁ fun b hb o e => ?_, F₃, fun p hp => N₃ p (.tail _ hp), hn₃, hf₃, hJ₃, hlt, rfl⟩
      rcases List.mem_cons.mp hb with rfl | hb
      · rw [hoI] at e; cases e
        exact (N₃ _ (.head _)).1
      · obtain ⟨p, hp, rfl⟩ := List.mem_map.mp hb
        have e₁ := (N₁ p (hf' p hp)).1
        rw [e] at e₁; cases e₁
        exact (N₃ _ (.tail _ (hf₃ p hp))).1
    cases f with
    | ret v => exact h₃
    | brk => exact h₃
    | next => exact fin h₃
    | cont => exact fin h₃
  · have hin : i = n := by omega
    subst hin
    refine W.done _ _ _ hst' fun h₁ tk₁ hk₁ => wpAny_execs_nil ?_
    obtain ⟨F₁, N₁⟩ := next h₁ hk₁
    exact done m' nx h₁ tk₁ hf' hJ F₁ N₁

theorem loopG_list {l : Addr} {vs : List Value} {nn : Nat} {m₀ : Str → Option Value} {news : List (Addr × Obj)} (J : Nat → (Str → Option Value) → List (Addr × Obj) → Prop)
    (hh : A.handled = none) (hl : (l, listOf vs.toArray nn) ∈ news) (F : Fr h₀ env.locals s.heap m₀) (N : News h₀ env.locals s.heap news) (hj : J 0 m₀ news)
    (turn : ∀ i v m₁ nx h tk oI I, i < vs.length → vs[i]? = some v → (∀ p ∈ nx, p.1 ≠ I) → (l, listOf vs.toArray nn) ∈ nx → J i m₁ nx → Fr h₀ env.locals h m₁ → News h₀ env.locals h ((I, oI) :: nx) →
      wpAny (model prog w) A (assign target env v) (fun _ s₁ => wpAny (model prog w) A (execs body env) (TurnG h₀ env.locals [(l, listOf vs.toArray nn)] (J (i + 1)) I oI { s with heap := h, toks := tk } Q) (fun _ _ => False) s₁) (fun _ _ => False) { s with heap := h, toks := tk })
    (done : ∀ m₁ nx h tk, (l, listOf vs.toArray nn) ∈ nx → J vs.length m₁ nx → Fr h₀ env.locals h m₁ → News h₀ env.locals h nx → Q .next { s with heap := h, toks := tk }) :
    IterG prog w A target body env Q E (.ref l) s := by
  unfold IterG
  have hol : s.heap.get? l = some (listOf vs.toArray nn) := (N _ hl).1
  have hls : s.heap.IsList l vs.toArray := ⟨_, hol, rfl, nn, rfl⟩
  have hne : l ≠ s.heap.objs.size := Nat.ne_of_lt (Heap.lt_size hol)
  refine wpAny_pyIter_list hls ?_
  have W := Walks.list (prog := prog) (w := w) hh s.heap.objs.size l hne vs.toArray
  have hlen : vs.toArray.size = vs.length := by simp
  rw [hlen] at W
  have F₁ : Fr h₀ env.locals (s.heap.push { cls := .type "list_iterator", data := .fields #[.ref l, .int 0 0] }) m₀ := F.push _
  refine loopG_walk (fx := [(l, listOf vs.toArray nn)]) J W ⟨⟨_, Heap.get?_push_size _ rfl, rfl, rfl⟩, hls.at fun o e => Heap.get?_push_of_some _ e⟩ (fun i h st => ?_) (fun i v s' Q' E' st hq => letGo_listiter st.1 hq) (next_is_new F) (Nat.ne_of_lt F.ns.lt) F₁
    (fun p hp => ⟨Heap.get?_push_of_some _ (N p hp).1, (N p hp).2⟩) (fun p hp => Nat.ne_of_lt (Heap.lt_size (N p hp).1)) (fun p hp => by rw [List.mem_singleton.mp hp]; exact hl) hj ?_ ?_
  · obtain ⟨⟨o, ho, _⟩, _⟩ := st
    exact ⟨o, ho⟩
  · intro i v m₁ nx h tk oI hi hP hn hf hJ F₁ N₁
    exact turn i v m₁ nx h tk oI _ hi (by simpa using hP) hn (hf _ (.head _)) hJ F₁ N₁
  · intro m₁ nx h tk hf hJ F₁ N₁
    exact done m₁ nx h tk (hf _ (.head _)) hJ F₁ N₁

theorem loopG_range {r : Addr} {a₀ b₀ : Int} {t₀ u₀ v₀ : Tok} {n : Nat} {m₀ : Str → Option Value} {news : List (Addr × Obj)} (J : Nat → (Str → Option Value) → List (Addr × Obj) → Prop)
    (hh : A.handled = none) (hr : IsRange s.heap r a₀ b₀ 1 t₀ u₀ v₀) (hsmall : Builtin.Range.small a₀ b₀ 1 = true) (hn : Builtin.Range.rangeSize a₀ b₀ 1 = (n : Int)) (F : Fr h₀ env.locals s.heap m₀) (N : News h₀ env.locals s.heap news) (hj : J 0 m₀ news)
    (turn : ∀ i t m₁ nx h tk oI I, i < n → (∀ p ∈ nx, p.1 ≠ I) → J i m₁ nx → Fr h₀ env.locals h m₁ → News h₀ env.locals h ((I, oI) :: nx) →
      wpAny (model prog w) A (assign target env (.int (a₀ + (i : Int)) t)) (fun _ s₁ => wpAny (model prog w) A (execs body env) (TurnG h₀ env.locals [] (J (i + 1)) I oI { s with heap := h, toks := tk } Q) (fun _ _ => False) s₁) (fun _ _ => False) { s with heap := h, toks := tk })
    (done : ∀ m₁ nx h tk, J n m₁ nx → Fr h₀ env.locals h m₁ → News h₀ env.locals h nx → Q .next { s with heap := h, toks := tk }) :
    IterG prog w A target body env Q E (.ref r) s := by
  unfold IterG
  refine wpAny_pyIter_range hr hsmall ?_
  have W : Walks prog w A s.heap.objs.size [s.heap.objs.size] [s.heap.objs.size] n (fun i v => ∃ t, v = .int (a₀ + i * 1) t)
      (fun i h => IsRangeIter h s.heap.objs.size (a₀ + (i : Nat) * 1) ((n : Int) - (i : Nat)) 1) := Walks.range hh _ a₀ 1 n
  refine loopG_walk (fx := []) J W (by show IsRangeIter _ _ _ _ _; rw [hn]; simpa using Heap.get?_push_size _ rfl) (fun i h st => ⟨_, st⟩) (fun i v s' Q' E' st hq => letGo_rangeiter st hq) (next_is_new F) (Nat.ne_of_lt F.ns.lt) (F.push _)
    (fun p hp => ⟨Heap.get?_push_of_some _ (N p hp).1, (N p hp).2⟩) (fun p hp => Nat.ne_of_lt (Heap.lt_size (N p hp).1)) (fun p hp => nomatch hp) hj ?_ ?_
  · rintro i v m₁ nx h tk oI hi ⟨t, rfl⟩ hn hf hJ F₁ N₁
    have e : a₀ + (i : Int) * 1 = a₀ + (i : Int) := by omega
    rw [e]
    exact turn i t m₁ nx h tk oI _ hi hn hJ F₁ N₁
  · intro m₁ nx h tk hf hJ F₁ N₁
    exact done m₁ nx h tk hJ F₁ N₁
end
end Mine

namespace Mine
open PySem PySem.W PyProof.Rows

/-- a branch as a value -/
def chv : Option Addr → Value
  | none => .none
  | some a => .ref a

/-- the trie that the ledger bears: which paths have a node, and the goals -/
structure Trie (news : List (Addr × Obj)) (P : List Bool → Option Addr) (G : List Bool → Value) : Prop where
  node : ∀ q a, P q = some a → ∃ n, (a, listOf [chv (P (q ++ [false])), chv (P (q ++ [true])), G q].toArray n) ∈ news
  inj : ∀ q q' a, P q = some a → P q' = some a → q = q'
  closed : ∀ q b, P q = none → P (q ++ [b]) = none
  gnone : ∀ q, P q = none → G q = .none

def updP (P : List Bool → Option Addr) (q : List Bool) (a : Addr) : List Bool → Option Addr := fun r => if r = q then some a else P r
def updG (G : List Bool → Value) (q : List Bool) (v : Value) : List Bool → Value := fun r => if r = q then v else G r

theorem snoc_inj {q r : List Bool} {b c : Bool} (h : q ++ [b] = r ++ [c]) : q = r ∧ b = c := by
  have := List.append_inj' h rfl
  exact ⟨this.1, by simpa using this.2⟩
theorem snoc_ne (q : List Bool) (b : Bool) : q ++ [b] ≠ q := fun h => by
  have := congrArg List.length h
  simp at this

theorem Trie.mono {news news' : List (Addr × Obj)} {P G} (T : Trie news P G) (h : ∀ p ∈ news, p ∈ news') : Trie news' P G :=
  ⟨fun q a e => let ⟨n, hm⟩ := T.node q a e; ⟨n, h _ hm⟩, T.inj, T.closed, T.gnone⟩

/-- only the nodes' own entries count -/
theorem Trie.keep {news news' : List (Addr × Obj)} {P G} (T : Trie news P G) (h : ∀ p ∈ news, (∃ q, P q = some p.1) → p ∈ news') : Trie news' P G :=
  ⟨fun q a e => let ⟨n, hm⟩ := T.node q a e; ⟨n, h _ hm ⟨q, e⟩⟩, T.inj, T.closed, T.gnone⟩

theorem Trie.empty {news : List (Addr × Obj)} {root : Addr} {n : Nat} (h : (root, listOf [.none, .none, .none].toArray n) ∈ news) : Trie news (fun q => if q = [] then some root else none) (fun _ => .none) := by
  refine ⟨fun q a e => ?_, fun q q' a e e' => ?_, fun q b e => ?_, fun q e => rfl⟩
  · by_cases hq : q = []
    · subst hq
      simp only [if_true, Option.some.injEq] at e
      subst e
      exact ⟨n, by simpa [chv] using h⟩
    · simp [hq] at e
  · by_cases hq : q = [] <;> by_cases hq' : q' = [] <;> simp_all
  · simp

/-- a new leaf -/
theorem Trie.grow {news news' : List (Addr × Obj)} {P G} (T : Trie news P G) {q : List Bool} {b : Bool} {a d : Addr} {n n' : Nat} (ha : P q = some a) (hb : P (q ++ [b]) = none) (hd : ∀ r, P r ≠ some d)
    (hnode : (a, listOf [if b then chv (P (q ++ [false])) else .ref d, if b then .ref d else chv (P (q ++ [true])), G q].toArray n) ∈ news')
    (hleaf : (d, listOf [.none, .none, .none].toArray n') ∈ news') (hk : ∀ p ∈ news, p.1 ≠ a → p ∈ news') : Trie news' (updP P (q ++ [b]) d) G := by
  have hda : d ≠ a := fun e => hd q (by rw [ha, e])
  refine ⟨fun r c e => ?_, fun r r' c e e' => ?_, fun r c e => ?_, fun r e => ?_⟩
  · unfold updP at e
    by_cases hr : r = q ++ [b]
    · subst hr
      simp only [if_true, Option.some.injEq] at e
      subst e
      have h1 : ∀ c, updP P (q ++ [b]) d (q ++ [b] ++ [c]) = none := fun c => by
        unfold updP
        rw [if_neg (snoc_ne _ _)]
        exact T.closed _ _ hb
      rw [h1, h1, T.gnone _ hb]
      exact ⟨n', hleaf⟩
    · rw [if_neg hr] at e
      by_cases hrq : r = q
      · subst hrq
        rw [ha] at e
        cases e
        refine ⟨n, ?_⟩
        have h1 : ∀ c, updP P (r ++ [b]) d (r ++ [c]) = if c = b then some d else P (r ++ [c]) := fun c => by
          unfold updP
          by_cases hc : c = b
          · subst hc; simp
          · rw [if_neg hc, if_neg (fun e => hc (snoc_inj e).2)]
        rw [h1, h1]
        cases b <;> simpa [chv] using hnode
      · have h1 : ∀ c, updP P (q ++ [b]) d (r ++ [c]) = P (r ++ [c]) := fun c => by
          unfold updP
          rw [if_neg (fun e => hrq (snoc_inj e).1)]
        obtain ⟨k, hm⟩ := T.node r c e
        rw [h1, h1]
        refine ⟨k, hk _ hm fun ec => hrq (T.inj r q a ?_ ha)⟩
        rw [e]; exact congrArg some ec
  · unfold updP at e e'
    by_cases hr : r = q ++ [b] <;> by_cases hr' : r' = q ++ [b]
    · rw [hr, hr']
    · rw [if_pos hr] at e; rw [if_neg hr'] at e'; cases e; exact absurd e' (hd _)
    · rw [if_neg hr] at e; rw [if_pos hr'] at e'; cases e'; exact absurd e (hd _)
    · rw [if_neg hr] at e; rw [if_neg hr'] at e'; exact T.inj _ _ _ e e'
  · unfold updP at e ⊢
    by_cases hr : r = q ++ [b]
    · rw [if_pos hr] at e; cases e
    · rw [if_neg hr] at e
      by_cases hrc : r ++ [c] = q ++ [b]
      · rw [(snoc_inj hrc).1, ha] at e; cases e
      · rw [if_neg hrc]; exact T.closed _ _ e
  · unfold updP at e
    by_cases hr : r = q ++ [b]
    · rw [if_pos hr] at e; cases e
    · rw [if_neg hr] at e; exact T.gnone _ e

/-- a goal is hung -/
theorem Trie.hang {news news' : List (Addr × Obj)} {P G} (T : Trie news P G) {q : List Bool} {a : Addr} {n : Nat} {v : Value} (ha : P q = some a)
    (hnode : (a, listOf [chv (P (q ++ [false])), chv (P (q ++ [true])), v].toArray n) ∈ news') (hk : ∀ p ∈ news, p.1 ≠ a → p ∈ news') : Trie news' P (updG G q v) := by
  refine ⟨fun r c e => ?_, T.inj, T.closed, fun r e => ?_⟩
  · unfold updG
    by_cases hr : r = q
    · subst hr
      rw [ha] at e; cases e
      rw [if_pos rfl]; exact ⟨n, hnode⟩
    · obtain ⟨k, hm⟩ := T.node r c e
      rw [if_neg hr]
      refine ⟨k, hk _ hm fun ec => hr (T.inj r q a ?_ ha)⟩
      rw [e]; exact congrArg some ec
  · unfold updG
    by_cases hr : r = q
    · subst hr; rw [ha] at e; cases e
    · rw [if_neg hr]; exact T.gnone _ e

theorem chv_none : chv none = .none := rfl
theorem chv_some (a : Addr) : chv (some a) = .ref a := rfl
theorem allLt_mem {d : Addr} : ∀ (l : List (Addr × Obj)), AllLt d l → ∀ p ∈ l, @LT.lt Nat _ p.1 d := by
  intro l
  induction l with
  | nil => intro _ p hp; cases hp
  | cons q r ih =>
    intro x p hp
    unfold AllLt at x
    rcases List.mem_cons.mp hp with h | h
    · rw [h]; exact x.1
    · exact ih x.2 p h

/-- names that are known, told to the frame -/
theorem fr_knows {h₀ h : Heap} {L : Addr} {m : Str → Option Value} (F : Fr h₀ L h m) (l : List (Str × Value)) (hl : ∀ p ∈ l, m p.1 = some p.2) :
    Fr h₀ L h (fun z => match l.lookup z with | some v => some v | none => m z) := by
  have e : (fun z => match l.lookup z with | some v => some v | none => m z) = m := by
    funext z
    induction l with
    | nil => rfl
    | cons p r ih =>
      rw [List.lookup_cons]
      by_cases hz : (z == p.1) = true
      · rw [hz]
        have : z = p.1 := by simpa using hz
        rw [this]
        exact (hl p (.head _)).symm
      · have hz' : (z == p.1) = false := by simpa using hz
        rw [hz']
        exact ih fun q hq => hl q (.tail _ hq)
  rw [e]; exact F

theorem news_sub {h₀ h : Heap} {L : Addr} {news news' : List (Addr × Obj)} (N : News h₀ L h news) (hs : ∀ p ∈ news', p ∈ news) : News h₀ L h news' := fun p hp => N p (hs p hp)

theorem news_dup {h₀ h : Heap} {L : Addr} {p : Addr × Obj} {nx : List (Addr × Obj)} (N : News h₀ L h nx) (hm : p ∈ nx) : News h₀ L h (p :: nx) := fun q hq => by
  rcases List.mem_cons.mp hq with rfl | hq
  · exact N _ hm
  · exact N _ hq

/-- the ledger with one entry drawn to the front -/
def offA (a : Addr) (news : List (Addr × Obj)) : List (Addr × Obj) := news.filter fun p => decide (p.1 ≠ a)
theorem offA_ne {a : Addr} {news : List (Addr × Obj)} : ∀ p ∈ offA a news, p.1 ≠ a := fun p hp => by simpa using (List.mem_filter.mp hp).2
theorem offA_mem {a : Addr} {news : List (Addr × Obj)} {p : Addr × Obj} (hp : p ∈ news) (h : p.1 ≠ a) : p ∈ offA a news := List.mem_filter.mpr ⟨hp, by simpa using h⟩
theorem offA_sub {a : Addr} {news : List (Addr × Obj)} : ∀ p ∈ offA a news, p ∈ news := fun p hp => (List.mem_filter.mp hp).1

theorem put_new {nx rest : List (Addr × Obj)} {P : List Bool → Option Addr} {G : List Bool → Value} {q : List Bool} {a l : Addr} {bb : Bool} {nn n' : Nat} {v1 v2 : Value} (T : Trie nx P G) (hP : P q = some a) (hch : P (q ++ [bb]) = none)
    (hlt : AllLt l (offA a nx)) (hal : @LT.lt Nat _ a l) (hrs : ∀ p ∈ rest, p ∈ nx ∧ ∀ q, P q ≠ some p.1) (hv1 : v1 = if bb then chv (P (q ++ [false])) else .ref l) (hv2 : v2 = if bb then .ref l else chv (P (q ++ [true]))) :
    Trie ((l, listOf [.none, .none, .none].toArray n') :: (a, listOf [v1, v2, G q].toArray nn) :: offA a nx) (updP P (q ++ [bb]) l) G ∧
      (∀ p ∈ rest, p ∈ ((l, listOf [.none, .none, .none].toArray n') :: (a, listOf [v1, v2, G q].toArray nn) :: offA a nx) ∧ ∀ r, updP P (q ++ [bb]) l r ≠ some p.1) := by
  have hlt' := allLt_mem _ hlt
  have hd : ∀ r, P r ≠ some l := fun r e => by
    obtain ⟨_, hm⟩ := T.node r l e
    by_cases h : l = a
    · exact Nat.lt_irrefl _ (h ▸ hal)
    · exact Nat.lt_irrefl _ (hlt' _ (offA_mem hm h))
  refine ⟨T.grow hP hch hd (n := nn) (n' := n') ?_ (.head _) (fun p hp h => .tail _ (.tail _ (offA_mem hp h))), fun p hp => ?_⟩
  · rw [← hv1, ← hv2]; exact .tail _ (.head _)
  · have hpa : p.1 ≠ a := fun e => (hrs p hp).2 q (by rw [hP, e])
    have hm := offA_mem (hrs p hp).1 hpa
    refine ⟨.tail _ (.tail _ hm), fun r e => ?_⟩
    unfold updP at e
    by_cases hr : r = q ++ [bb]
    · rw [if_pos hr] at e
      cases e
      exact Nat.lt_irrefl _ (hlt' _ hm)
    · rw [if_neg hr] at e
      exact (hrs p hp).2 _ e

theorem offA_keep {nx rest : List (Addr × Obj)} {P : List Bool → Option Addr} {q : List Bool} {a : Addr} {o : Obj} (hP : P q = some a) (hrs : ∀ p ∈ rest, p ∈ nx ∧ ∀ q, P q ≠ some p.1) :
    ∀ p ∈ rest, p ∈ (a, o) :: offA a nx ∧ ∀ q, P q ≠ some p.1 := fun p hp =>
  ⟨.tail _ (offA_mem (hrs p hp).1 fun e => (hrs p hp).2 q (by rw [hP, e])), (hrs p hp).2⟩
theorem trie_off {nx : List (Addr × Obj)} {P : List Bool → Option Addr} {G : List Bool → Value} {q : List Bool} {a : Addr} {nn : Nat} (T : Trie nx P G) (hP : P q = some a) :
    Trie ((a, listOf [chv (P (q ++ [false])), chv (P (q ++ [true])), G q].toArray nn) :: offA a nx) P G := by
  have := T.hang (v := G q) (news' := (a, listOf [chv (P (q ++ [false])), chv (P (q ++ [true])), G q].toArray nn) :: offA a nx) hP (.head _) (fun p hp h => .tail _ (offA_mem hp h))
  have e : updG G q (G q) = G := by
    funext r
    unfold updG
    by_cases h : r = q
    · rw [if_pos h, h]
    · rw [if_neg h]
  rw [e] at this
  exact this
theorem News_cons3 {h₀ h : Heap} {L a I : Addr} {o oI : Obj} {nx : List (Addr × Obj)} (N : News h₀ L h ((I, oI) :: nx)) (hm : (a, o) ∈ nx) : News h₀ L h ((a, o) :: (I, oI) :: offA a nx) := fun p hp => by
  rcases List.mem_cons.mp hp with rfl | hp
  · exact N _ (.tail _ hm)
  · rcases List.mem_cons.mp hp with rfl | hp
    · exact N _ (.head _)
    · exact N _ (.tail _ (offA_sub p hp))
theorem News_cons2 {h₀ h : Heap} {L a : Addr} {o : Obj} {nx : List (Addr × Obj)} (N : News h₀ L h nx) (hm : (a, o) ∈ nx) : News h₀ L h ((a, o) :: offA a nx) := fun p hp => by
  rcases List.mem_cons.mp hp with rfl | hp
  · exact N _ hm
  · exact N _ (offA_sub p hp)
theorem news_blocks {h₀ h : Heap} {L bl r I : Addr} {o o' oI : Obj} {nx : List (Addr × Obj)} (N : News h₀ L h ((I, oI) :: nx)) (h1 : (bl, o) ∈ nx) (h2 : (r, o') ∈ nx) : News h₀ L h ((bl, o) :: (r, o') :: (I, oI) :: offA bl nx) := fun p hp => by
  rcases List.mem_cons.mp hp with rfl | hp
  · exact N _ (.tail _ h1)
  · rcases List.mem_cons.mp hp with rfl | hp
    · exact N _ (.tail _ h2)
    · rcases List.mem_cons.mp hp with rfl | hp
      · exact N _ (.head _)
      · exact N _ (.tail _ (offA_sub p hp))
end Mine

namespace Mine
open PySem PySem.W PyProof.Rows

/-- the bit that a step at the place k of an address of n bits takes -/
def bitAt (n x k : Nat) : Bool := x / 2 ^ (n - 1 - k) % 2 == 1
def bitsOf (n x l : Nat) : List Bool := (List.range l).map (bitAt n x)
def bitI (b : Bool) : Int := if b then 1 else 0

theorem bitsOf_length (n x l : Nat) : (bitsOf n x l).length = l := by simp [bitsOf]
theorem bitsOf_succ (n x l : Nat) : bitsOf n x (l + 1) = bitsOf n x l ++ [bitAt n x l] := by simp [bitsOf, List.range_succ]
theorem bitsOf_take (n x l i : Nat) (h : i ≤ l) : (bitsOf n x l).take i = bitsOf n x i := by
  simp only [bitsOf, ← List.map_take, List.take_range, Nat.min_eq_left h]
theorem bitsOf_get (n x l i : Nat) (h : i < l) : (bitsOf n x l)[i]? = some (bitAt n x i) := by
  simp [bitsOf, h]

theorem bit_and (n x k : Nat) (e : Int) (he : e = (n : Int) - 1 - (k : Int)) (hk : k < n) : Builtin.bitAnd ((x : Int).fdiv (2 ^ e.toNat)) 1 = bitI (bitAt n x k) := by
  have h1 : e.toNat = n - 1 - k := by omega
  rw [h1, bitAnd_m1, Int.fdiv_eq_ediv_of_nonneg _ (Int.le_of_lt (Int.pow_pos (by omega)))]
  have h2 : ((2 : Int) ^ (n - 1 - k)) = ((2 ^ (n - 1 - k) : Nat) : Int) := by simp
  rw [h2]
  unfold bitI bitAt
  have h3 : ((x : Int) / ((2 ^ (n - 1 - k) : Nat) : Int)) % 2 = ((x / 2 ^ (n - 1 - k) % 2 : Nat) : Int) := by
    push_cast
    rfl
  rw [h3]
  rcases Nat.mod_two_eq_zero_or_one (x / 2 ^ (n - 1 - k)) with h | h <;> simp [h]

theorem steps_bits (n x l : Nat) (hl : l ≤ n) : List.map (fun k' => Builtin.bitAnd ((x : Int).fdiv (2 ^ ((n : Int) - 1 - k').toNat)) 1) (rangeKs 0 ((l : Int) - 0).toNat) = (bitsOf n x l).map bitI := by
  have h0 : ((l : Int) - 0).toNat = l := by omega
  rw [h0]
  unfold rangeKs bitsOf
  rw [List.map_map, List.map_map]
  apply List.map_congr_left
  intro k hk
  have := List.mem_range.mp hk
  show Builtin.bitAnd ((x : Int).fdiv (2 ^ ((n : Int) - 1 - (0 + (k : Int))).toNat)) 1 = bitI (bitAt n x k)
  exact bit_and n x k _ (by omega) (by omega)

theorem ints_get {vs : List Value} {ns : List Int} (h : IntsAre vs ns) {i : Nat} {v : Value} (hv : vs[i]? = some v) : ∃ k t, ns[i]? = some k ∧ v = .int k t := by
  induction h generalizing i with
  | nil => simp at hv
  | cons n t _ ih =>
    cases i with
    | zero => simp at hv; exact ⟨n, t, by simp, hv.symm⟩
    | succ i =>
      rw [List.getElem?_cons_succ] at hv
      rw [List.getElem?_cons_succ]
      exact ih hv
theorem pow2_pos (n : Nat) : (0 : Int) < 2 ^ n := Int.pow_pos (by omega)
theorem fdiv_zero {b : Int} {n : Nat} (h0 : 0 ≤ b) (h1 : b < 2 ^ n) : b.fdiv (2 ^ n) = 0 := by
  rw [Int.fdiv_eq_ediv_of_nonneg _ (Int.le_of_lt (pow2_pos n))]
  exact Int.ediv_eq_zero_of_lt h0 h1
end Mine

namespace Mine
open PySem PySem.W PyProof.Rows
/-- the last goal met on an address's path, as far as k steps down -/
def bestG (G : List Bool → Value) (n x : Nat) : Nat → Value
  | 0 => G []
  | k + 1 => match G (bitsOf n x (k + 1)) with
    | .none => bestG G n x k
    | v => v
theorem bestG_none {G : List Bool → Value} {n x k : Nat} (h : G (bitsOf n x (k + 1)) = .none) : bestG G n x (k + 1) = bestG G n x k := by
  show (match G (bitsOf n x (k + 1)) with | .none => bestG G n x k | v => v) = _
  rw [h]
theorem bestG_ref {G : List Bool → Value} {n x k : Nat} {g : Addr} (h : G (bitsOf n x (k + 1)) = .ref g) : bestG G n x (k + 1) = .ref g := by
  show (match G (bitsOf n x (k + 1)) with | .none => bestG G n x k | v => v) = _
  rw [h]
theorem best_stop {G : List Bool → Value} {n x i : Nat} (h : ∀ j, i < j → G (bitsOf n x j) = .none) : ∀ k, i ≤ k → bestG G n x k = bestG G n x i := by
  intro k hk
  induction k with
  | zero => have : i = 0 := by omega
            rw [this]
  | succ k ih =>
    by_cases hik : i = k + 1
    · rw [hik]
    · rw [bestG_none (h (k + 1) (by omega))]
      exact ih (by omega)
theorem path_none {news : List (Addr × Obj)} {P : List Bool → Option Addr} {G : List Bool → Value} (T : Trie news P G) {n x i : Nat} (h : P (bitsOf n x (i + 1)) = none) : ∀ j, i < j → P (bitsOf n x j) = none := by
  intro j hj
  induction j with
  | zero => omega
  | succ j ih =>
    by_cases hij : i = j
    · rw [← hij]; exact h
    · rw [bitsOf_succ]; exact T.closed _ _ (ih (by omega))
theorem path_stop {news : List (Addr × Obj)} {P : List Bool → Option Addr} {G : List Bool → Value} (T : Trie news P G) {n x i : Nat} (h : P (bitsOf n x (i + 1)) = none) (hi : i ≤ n) : bestG G n x n = bestG G n x i :=
  best_stop (fun j hj => T.gnone _ (path_none T h j hj)) n hi
/-- a mark at which the walk stands still -/
def SubStop (P : Prop) : Prop := P
theorem sub_stop {P : Prop} (h : SubStop P) : P := h
theorem bitI_f : bitI false = 0 := rfl
theorem bitI_t : bitI true = 1 := rfl
end Mine

namespace Mine
open PySem PySem.W PyProof.Rows
abbrev tup (l : List Value) : Obj := { cls := .type "tuple", data := .seq l.toArray }
/-- a prefix and its goal -/
abbrev Ent := Nat × Nat × Addr
structure RowsAre (news : List (Addr × Obj)) (n : Nat) (vs : List Value) (es : List Ent) : Prop where
  len : vs.length = es.length
  row : ∀ (i : Nat) (v : Value), vs[i]? = some v → ∃ (b l : Nat) (g r : Addr) (t1 t2 : Tok), es[i]? = some (b, l, g) ∧ v = .ref r ∧ (r, tup [.int (b : Nat) t1, .int (l : Nat) t2, .ref g]) ∈ news ∧ b < 2 ^ n ∧ l ≤ n
theorem RowsAre.mono {news news' : List (Addr × Obj)} {n : Nat} {vs : List Value} {es : List Ent} (R : RowsAre news n vs es) (h : ∀ p ∈ news, p ∈ news') : RowsAre news' n vs es :=
  ⟨R.len, fun i v e => let ⟨b, l, g, r, t1, t2, a1, a2, a3, a4⟩ := R.row i v e; ⟨b, l, g, r, t1, t2, a1, a2, h _ a3, a4⟩⟩
theorem RowsAre.nil {news : List (Addr × Obj)} {n : Nat} : RowsAre news n [] [] := ⟨rfl, fun i v e => by simp at e⟩
theorem RowsAre.snoc {news : List (Addr × Obj)} {n : Nat} {vs : List Value} {es : List Ent} (R : RowsAre news n vs es) {b l : Nat} {g r : Addr} {t1 t2 : Tok} (hm : (r, tup [.int (b : Nat) t1, .int (l : Nat) t2, .ref g]) ∈ news) (hb : b < 2 ^ n) (hl : l ≤ n) :
    RowsAre news n (vs ++ [.ref r]) (es ++ [(b, l, g)]) := by
  refine ⟨by simp [R.len], fun i v e => ?_⟩
  rcases Nat.lt_trichotomy i vs.length with h | h | h
  · rw [List.getElem?_append_left h] at e
    obtain ⟨b', l', g', r', t1', t2', a1, a2⟩ := R.row i v e
    exact ⟨b', l', g', r', t1', t2', by rw [List.getElem?_append_left (by rw [← R.len]; exact h)]; exact a1, a2⟩
  · subst h
    rw [List.getElem?_append_right (Nat.le_refl _), Nat.sub_self] at e
    obtain rfl : Value.ref r = v := by simpa using e
    exact ⟨b, l, g, r, t1, t2, by rw [R.len, List.getElem?_append_right (Nat.le_refl _), Nat.sub_self]; rfl, rfl, hm, hb, hl⟩
  · rw [List.getElem?_eq_none (by simp; omega)] at e; cases e

def lowOf (n b l : Nat) : Int := (b : Int) - (b : Int).fmod (2 ^ ((n : Int) - (l : Int)).toNat)
def highOf (n b l : Nat) : Int := lowOf n b l + 2 ^ ((n : Int) - (l : Int)).toNat - 1
structure BlksAre (news : List (Addr × Obj)) (n : Nat) (vs : List Value) (es : List Ent) : Prop where
  len : vs.length = es.length
  row : ∀ (i : Nat) (v : Value), vs[i]? = some v → ∃ (b l : Nat) (g r : Addr) (t1 t2 t3 : Tok), es[i]? = some (b, l, g) ∧ v = .ref r ∧ (r, tup [.int (lowOf n b l) t1, .int (highOf n b l) t2, .int (l : Nat) t3, .ref g]) ∈ news
theorem BlksAre.mono {news news' : List (Addr × Obj)} {n : Nat} {vs : List Value} {es : List Ent} (R : BlksAre news n vs es) (h : ∀ p ∈ news, p ∈ news') : BlksAre news' n vs es :=
  ⟨R.len, fun i v e => let ⟨b, l, g, r, t1, t2, t3, a1, a2, a3⟩ := R.row i v e; ⟨b, l, g, r, t1, t2, t3, a1, a2, h _ a3⟩⟩
theorem BlksAre.nil {news : List (Addr × Obj)} {n : Nat} : BlksAre news n [] [] := ⟨rfl, fun i v e => by simp at e⟩
theorem BlksAre.snoc {news : List (Addr × Obj)} {n : Nat} {vs : List Value} {es : List Ent} (R : BlksAre news n vs es) {b l : Nat} {g r : Addr} {t1 t2 t3 : Tok} (hm : (r, tup [.int (lowOf n b l) t1, .int (highOf n b l) t2, .int (l : Nat) t3, .ref g]) ∈ news) :
    BlksAre news n (vs ++ [.ref r]) (es ++ [(b, l, g)]) := by
  refine ⟨by simp [R.len], fun i v e => ?_⟩
  rcases Nat.lt_trichotomy i vs.length with h | h | h
  · rw [List.getElem?_append_left h] at e
    obtain ⟨b', l', g', r', t1', t2', t3', a1, a2⟩ := R.row i v e
    exact ⟨b', l', g', r', t1', t2', t3', by rw [List.getElem?_append_left (by rw [← R.len]; exact h)]; exact a1, a2⟩
  · subst h
    rw [List.getElem?_append_right (Nat.le_refl _), Nat.sub_self] at e
    obtain rfl : Value.ref r = v := by simpa using e
    exact ⟨b, l, g, r, t1, t2, t3, by rw [R.len, List.getElem?_append_right (Nat.le_refl _), Nat.sub_self]; rfl, rfl, hm⟩
  · rw [List.getElem?_eq_none (by simp; omega)] at e; cases e
def dueStep (n x : Nat) (p : Int × Value) (e : Ent) : Int × Value := if lowOf n e.1 e.2.1 ≤ x ∧ (x : Int) ≤ highOf n e.1 e.2.1 ∧ p.1 ≤ (e.2.1 : Int) then ((e.2.1 : Int), .ref e.2.2) else p
def dueOf (n x : Nat) (es : List Ent) : Int × Value := es.foldl (dueStep n x) (-1, .none)
theorem dueOf_snoc (n x : Nat) (es : List Ent) (e : Ent) : dueOf n x (es ++ [e]) = dueStep n x (dueOf n x es) e := by simp [dueOf, List.foldl_append]
theorem dueStep_hit {n x : Nat} {p : Int × Value} {b l : Nat} {g : Addr} (h1 : lowOf n b l ≤ x) (h2 : (x : Int) ≤ highOf n b l) (h3 : p.1 ≤ (l : Int)) : dueStep n x p (b, l, g) = ((l : Int), .ref g) := if_pos ⟨h1, h2, h3⟩
theorem dueStep_miss {n x : Nat} {p : Int × Value} {b l : Nat} {g : Addr} (h : ¬ (lowOf n b l ≤ x ∧ (x : Int) ≤ highOf n b l ∧ p.1 ≤ (l : Int))) : dueStep n x p (b, l, g) = p := if_neg h
theorem offA_cons2 {a d : Addr} {o o' : Obj} {nx : List (Addr × Obj)} : ∀ p ∈ offA a nx, p ∈ offA a ((d, o) :: (a, o') :: offA a nx) := fun p hp => offA_mem (.tail _ (.tail _ hp)) (offA_ne p hp)

/-- the goals that a table hangs into an empty trie -/
def goalsOf (n : Nat) (es : List Ent) : List Bool → Value := es.foldl (fun G e => updG G (bitsOf n e.1 e.2.1) (.ref e.2.2)) (fun _ => .none)
theorem goalsOf_snoc (n : Nat) (es : List Ent) (e : Ent) : goalsOf n (es ++ [e]) = updG (goalsOf n es) (bitsOf n e.1 e.2.1) (.ref e.2.2) := by
  simp [goalsOf, List.foldl_append]
theorem take_snoc {α : Type} {es : List α} {i : Nat} {e : α} (h : es[i]? = some e) : es.take (i + 1) = es.take i ++ [e] := by
  rw [List.take_add_one, h]; rfl
theorem goalsOf_kind (n : Nat) (es : List Ent) : ∀ q, goalsOf n es q = .none ∨ ∃ g, goalsOf n es q = .ref g := by
  have : ∀ (es : List Ent) (G : List Bool → Value), (∀ q, G q = .none ∨ ∃ g, G q = .ref g) → ∀ q, es.foldl (fun G e => updG G (bitsOf n e.1 e.2.1) (.ref e.2.2)) G q = .none ∨ ∃ g, es.foldl (fun G e => updG G (bitsOf n e.1 e.2.1) (.ref e.2.2)) G q = .ref g := by
    intro es
    induction es with
    | nil => intro G h; exact h
    | cons e r ih =>
      intro G h
      refine ih _ fun q => ?_
      show updG G (bitsOf n e.1 e.2.1) (.ref e.2.2) q = .none ∨ ∃ g, updG G (bitsOf n e.1 e.2.1) (.ref e.2.2) q = .ref g
      by_cases hq : q = bitsOf n e.1 e.2.1
      · exact .inr ⟨e.2.2, if_pos hq⟩
      · have e1 : updG G (bitsOf n e.1 e.2.1) (.ref e.2.2) q = G q := if_neg hq
        rw [e1]; exact h q
  exact this es _ fun _ => .inl rfl
end Mine

namespace Mine
open PySem PySem.W PyProof.Rows
theorem fresh_Ck : True := by
  w_top off
  trivial
local macro_rules | `(tactic| k_room) => `(tactic| ktr_room)
local macro_rules | `(tactic| k_mem) => `(tactic| first | exact List.Mem.head _ | (refine' List.mem_cons_of_mem _ ?_; k_mem))
local macro_rules | `(tactic| ktr_enter) => `(tactic| first
  | (refine' code_def ?k1 ?k2 ?k3 ?k4 ?k5 ?kA ?kF ?kK ?k6 ?k7 ?k8 ?k9 ?kB ?_ ?c2 ?c3 ?c4 ?c5; (case kA => exact rfl); (case kF => exact rfl); (case kK => first | exact rfl | assumption); (case k1 => k_asm); (case k2 => k_asm); (case k3 => k_asm); (case k4 => k_asm); (case k5 => k_asm); (case k6 => k_is); (case k7 => k_is); (case k8 => ktr_room); (case k9 => exact BindsTo.of_eq rfl); (case c5 => decide); (case kB => exact locs rfl); (case c2 => exact rfl); (case c3 => exact rfl); (case c4 => exact rfl); k_whole; intro g' L' h' FG' F' N' B' X' T'; (try dsimp only); (try k_lift B'); (try k_fold))
  | (refine' code_defC ?k1 ?k2 ?k3 ?k4 ?k5 ?kA ?kF ?kK ?k6 ?k7 ?k8 ?k9 ?kB ?kD ?_ ?c2 ?c3 ?c4; (case kA => exact rfl); (case kF => exact rfl); (case kK => first | exact rfl | assumption); (case k1 => k_asm); (case k2 => k_asm); (case k3 => k_asm); (case k4 => k_asm); (case k5 => k_asm); (case k6 => k_is); (case k7 => k_is); (case k8 => ktr_room); (case k9 => exact BindsTo.of_eq rfl); (case kB => exact rfl); (case kD => decide +kernel); (case c2 => exact rfl); (case c3 => exact rfl); (case c4 => exact rfl); k_whole; intro g' L' h' tk' cells' FG' F' N' Y' B' X' T' l1; (try k_lt l1); k_cells Y'; (try simp only [List.cons_append, List.nil_append] at N'); (try dsimp only); (try k_lift B'); (try k_fold)))
section
variable {w : World} {mean : ExcName → Option Value} {mg mb : Str → Option Value} {dp un : Nat} {gd : Option (List Code)} {cn : Str} {cs : Scope} {a : Addr} {ccd : Value} {cl : List (Str × Addr)} {outer : List Env} {A₀ : Around} {base h₀ : Heap} {L : Addr} {m : Str → Option Value} {news : List (Addr × Obj)} {s : Shared} {Q E : Value → Shared → Prop}
set_option maxRecDepth 100000 in
set_option maxHeartbeats 8000000 in
theorem check_ok {b l n : Int} {t1 t2 t3 : Tok} (B : Below A₀ base outer h₀) (F : Fr h₀ L s.heap m) (X : (hd.heap_39 w.params).In h₀) (N : News h₀ L s.heap news) (T : Top hd.view_39 (looseW hd.view_39 []) mean mg mb h₀) (hk : cs.kind = .function)
   (hb : 0 ≤ b) (hbn : b < 2 ^ n.toNat) (hl : 0 ≤ l) (hln : l ≤ n) (hn : n ≤ 128) (hd' : dp + 4 < recursionLimit) (hu : un + 16 < cLine)
   (ret : ∀ h' tk', Fr h₀ L h' m → News h₀ L h' news → Q .none { s with heap := h', toks := tk' }) :
   wpAny (model PySem.Challenge.rw_pf0331_01.row.prog w) (ktrTop dp un gd cn cs L a ccd cl outer) (call (.ref 60) [.int b t1, .int l t2, .int n t3]) Q E s := by
  revert X; k_fill; intro X
  have hfd := fdiv_zero hb hbn
  refine wpAny_call ?_
  k_dflt ktr_enter
  k_steps
  all_goals first | exact absurd hfd (by assumption) | exact ret _ _ (by assumption) (by assumption)

theorem off1_mem {D : Addr} (l : List (Addr × Obj)) : LCg.Off1 D l → ∀ p ∈ l, p.1 ≠ D := by
  induction l with
  | nil => intro _ p hp; cases hp
  | cons q r ih =>
    intro x p hp
    unfold LCg.Off1 at x
    rcases List.mem_cons.mp hp with h | h
    · rw [h]; exact x.1
    · exact ih x.2 p h
theorem ints_len {vs : List Value} {ns : List Int} (h : IntsAre vs ns) : vs.length = ns.length := h.length
set_option maxRecDepth 100000 in
set_option maxHeartbeats 8000000 in
theorem steps_tells {x l n : Nat} {t1 t2 t3 : Tok} (B : Below A₀ base outer h₀) (F : Fr h₀ L s.heap m) (X : (hd.heap_39 w.params).In h₀) (N : News h₀ L s.heap news) (T : Top hd.view_39 (looseW hd.view_39 []) mean mg mb h₀) (hk : cs.kind = .function)
   (hln : l ≤ n) (hn : n ≤ 128) (hd' : dp + 4 < recursionLimit) (hu : un + 16 < cLine)
   (ret : ∀ r h' tk' (vs : List Value), Fr h₀ L h' m → News h₀ L h' ((r, listOf vs.toArray vs.length) :: news) → (∀ p ∈ news, p.1 ≠ r) → IntsAre vs ((bitsOf n x l).map bitI) → Q (.ref r) { s with heap := h', toks := tk' }) :
   wpAny (model PySem.Challenge.rw_pf0331_01.row.prog w) (ktrTop dp un gd cn cs L a ccd cl outer) (call (.ref 65) [.int x t1, .int l t2, .int n t3]) Q E s := by
  revert X; k_fill; intro X
  refine wpAny_call ?_
  k_dflt ktr_enter
  k_steps
  rename_i hI _ D hD tk _ N9 o9 F8 N8 _ _
  rw [steps_bits n x l hln] at hI
  exact ret D hD tk _ F8 (news_sub N8 (fun p hp => by
    rcases List.mem_cons.mp hp with rfl | hp
    · exact .head _
    · exact .tail _ (.tail _ (.tail _ hp)))) (off1_mem _ o9.2.2) hI

end
end Mine

namespace Mine
open PySem PySem.W PyProof.Rows
theorem fresh_Pt : True := by
  w_top off
  trivial
local macro_rules | `(tactic| k_room) => `(tactic| ktr_room)
local macro_rules | `(tactic| k_mem) => `(tactic| first | exact List.Mem.head _ | (refine' List.mem_cons_of_mem _ ?_; k_mem))
local macro_rules | `(tactic| ktr_enter) => `(tactic| first
  | (refine' code_def ?k1 ?k2 ?k3 ?k4 ?k5 ?kA ?kF ?kK ?k6 ?k7 ?k8 ?k9 ?kB ?_ ?c2 ?c3 ?c4 ?c5; (case kA => exact rfl); (case kF => exact rfl); (case kK => first | exact rfl | assumption); (case k1 => k_asm); (case k2 => k_asm); (case k3 => k_asm); (case k4 => k_asm); (case k5 => k_asm); (case k6 => k_is); (case k7 => k_is); (case k8 => ktr_room); (case k9 => exact BindsTo.of_eq rfl); (case c5 => decide); (case kB => exact locs rfl); (case c2 => exact rfl); (case c3 => exact rfl); (case c4 => exact rfl); k_whole; intro g' L' h' FG' F' N' B' X' T'; (try dsimp only); (try k_lift B'); (try k_fold))
  | (refine' code_defC ?k1 ?k2 ?k3 ?k4 ?k5 ?kA ?kF ?kK ?k6 ?k7 ?k8 ?k9 ?kB ?kD ?_ ?c2 ?c3 ?c4; (case kA => exact rfl); (case kF => exact rfl); (case kK => first | exact rfl | assumption); (case k1 => k_asm); (case k2 => k_asm); (case k3 => k_asm); (case k4 => k_asm); (case k5 => k_asm); (case k6 => k_is); (case k7 => k_is); (case k8 => ktr_room); (case k9 => exact BindsTo.of_eq rfl); (case kB => exact rfl); (case kD => decide +kernel); (case c2 => exact rfl); (case c3 => exact rfl); (case c4 => exact rfl); k_whole; intro g' L' h' tk' cells' FG' F' N' Y' B' X' T' l1; (try k_lt l1); k_cells Y'; (try simp only [List.cons_append, List.nil_append] at N'); (try dsimp only); (try k_lift B'); (try k_fold)))
section
variable {w : World} {mean : ExcName → Option Value} {mg mb : Str → Option Value} {dp un : Nat} {gd : Option (List Code)} {cn : Str} {cs : Scope} {a : Addr} {ccd : Value} {cl : List (Str × Addr)} {outer : List Env} {A₀ : Around} {base h₀ : Heap} {L : Addr} {m : Str → Option Value} {news : List (Addr × Obj)} {s : Shared} {Q E : Value → Shared → Prop}
local macro_rules | `(tactic| walk_at "exec For Name Call cons nil") => `(tactic| (k_here; (rename Fr _ _ _ _ => lF'); (with_unfolding_all refine' For_G lF' ?_ ?k1; (case k1 => (intro _; rfl)); k_whole)))
local macro_rules | `(tactic| walk_at "call ref") => `(tactic| (k_here; k_dflt (refine check_ok (by k_asm) (by k_asm) (by k_asm) (by k_asm) (by k_asm) (by first | exact rfl | assumption) (by omega) (by assumption) (by omega) (by omega) (by omega) (by ktr_room) (by ktr_units) ?_); intro h' tk' F' N'; (try dsimp only); (try k_fold)))
local macro_rules | `(tactic| walk_at "call ref") => `(tactic| (k_here; k_dflt (refine steps_tells (by k_asm) (by k_asm) (by k_asm) (by k_asm) (by k_asm) (by first | exact rfl | assumption) (by omega) (by omega) (by ktr_room) (by ktr_units) ?_); intro r' h' tk' vs' F' N' o' i'; (try dsimp only); (try k_fold)))
/-- the end of a turn of put's loop -/
theorem put_end {h₀ h' : Heap} {L : Addr} {m' : Str → Option Value} {r9 I g root a' d : Addr} {oI o9 oa od : Obj} {nx rest : List (Addr × Obj)} {P' : List Bool → Option Addr} {G : List Bool → Value} {qq : List Bool} {s₁ : Shared} {tk : Nat} {Q : Flow → Shared → Prop}
    (F : Fr h₀ L h' m') (N : News h₀ L h' ((d, od) :: (a', oa) :: (I, oI) :: offA a' nx)) (hnI : ∀ p ∈ nx, p.1 ≠ I) (hIa : @Ne Nat I a') (hId : @LT.lt Nat _ I d) (h9 : (r9, o9) ∈ (d, od) :: (a', oa) :: offA a' nx)
    (hm1 : m' (Str.ofString "node") = some (.ref d)) (hm2 : m' (Str.ofString "goal") = some (.ref g)) (hP : P' qq = some d) (T : Trie ((d, od) :: (a', oa) :: offA a' nx) P' G) (hr : P' [] = some root)
    (hrs : ∀ p ∈ rest, p ∈ (d, od) :: (a', oa) :: offA a' nx ∧ ∀ q, P' q ≠ some p.1) (hnr : ∀ q, P' q ≠ some r9) :
    TurnG h₀ L [(r9, o9)] (fun m₁ nx => ∃ P' a', m₁ (Str.ofString "node") = some (.ref a') ∧ m₁ (Str.ofString "goal") = some (.ref g) ∧ P' qq = some a' ∧ Trie nx P' G ∧ P' [] = some root ∧ (∀ p ∈ rest, p ∈ nx ∧ ∀ q, P' q ≠ some p.1) ∧ ∀ q, P' q ≠ some r9) I oI s₁ Q .next { s₁ with heap := h', toks := tk } := by
  refine ⟨h', tk, m', (d, od) :: (a', oa) :: offA a' nx, rfl, F, fun p hp => ?_, fun p hp => ?_, fun p hp => by rw [List.mem_singleton.mp hp]; exact h9, P', d, hm1, hm2, hP, T, hr, hrs, hnr⟩
  · rcases List.mem_cons.mp hp with rfl | hp
    · exact N _ (.tail _ (.tail _ (.head _)))
    · rcases List.mem_cons.mp hp with rfl | hp
      · exact N _ (.head _)
      · rcases List.mem_cons.mp hp with rfl | hp
        · exact N _ (.tail _ (.head _))
        · exact N _ (.tail _ (.tail _ (.tail _ hp)))
  · rcases List.mem_cons.mp hp with rfl | hp
    · exact Nat.ne_of_gt hId
    · rcases List.mem_cons.mp hp with rfl | hp
      · exact fun e => hIa e.symm
      · exact hnI p (offA_sub p hp)
theorem put_end2 {h₀ h' : Heap} {L : Addr} {m' : Str → Option Value} {r9 I g root a' c : Addr} {oI o9 oa : Obj} {nx rest : List (Addr × Obj)} {P' : List Bool → Option Addr} {G : List Bool → Value} {q qq : List Bool} {s₁ : Shared} {tk : Nat} {Q : Flow → Shared → Prop}
    (F : Fr h₀ L h' m') (N : News h₀ L h' ((a', oa) :: (I, oI) :: offA a' nx)) (hnI : ∀ p ∈ nx, p.1 ≠ I) (hIa : @Ne Nat I a') (h9 : (r9, o9) ∈ nx) (h9a : ∀ q, P' q ≠ some r9) (hPq : P' q = some a')
    (hm1 : m' (Str.ofString "node") = some (.ref c)) (hm2 : m' (Str.ofString "goal") = some (.ref g)) (hP : P' qq = some c) (T : Trie ((a', oa) :: offA a' nx) P' G) (hr : P' [] = some root)
    (hrs : ∀ p ∈ rest, p ∈ nx ∧ ∀ q, P' q ≠ some p.1) (hnr : ∀ q, P' q ≠ some r9) :
    TurnG h₀ L [(r9, o9)] (fun m₁ nx => ∃ P' a', m₁ (Str.ofString "node") = some (.ref a') ∧ m₁ (Str.ofString "goal") = some (.ref g) ∧ P' qq = some a' ∧ Trie nx P' G ∧ P' [] = some root ∧ (∀ p ∈ rest, p ∈ nx ∧ ∀ q, P' q ≠ some p.1) ∧ ∀ q, P' q ≠ some r9) I oI s₁ Q .next { s₁ with heap := h', toks := tk } := by
  refine ⟨h', tk, m', (a', oa) :: offA a' nx, rfl, F, fun p hp => ?_, fun p hp => ?_, fun p hp => by
    rw [List.mem_singleton.mp hp]; exact .tail _ (offA_mem h9 fun e => h9a q (by rw [hPq]; exact congrArg some e.symm)), P', c, hm1, hm2, hP, T, hr, offA_keep hPq hrs, hnr⟩
  · rcases List.mem_cons.mp hp with rfl | hp
    · exact N _ (.tail _ (.head _))
    · rcases List.mem_cons.mp hp with rfl | hp
      · exact N _ (.head _)
      · exact N _ (.tail _ (.tail _ hp))
  · rcases List.mem_cons.mp hp with rfl | hp
    · exact fun e => hIa e.symm
    · exact hnI p (offA_sub p hp)
local macro_rules | `(tactic| k_all) => `(tactic| assumption)
set_option maxRecDepth 100000 in
set_option maxHeartbeats 8000000 in
theorem put_tells {x dx root g : Addr} {b l n : Nat} {t1 t2 t3 : Tok} {hb1 hb2 : Int} {tb1 tb2 : Tok} {nd : Nat} {rest : List (Addr × Obj)} {P : List Bool → Option Addr} {G : List Bool → Value} (B : Below A₀ base outer h₀) (F : Fr h₀ L s.heap m) (X : (hd.heap_39 w.params).In h₀) (N : News h₀ L s.heap news) (T : Top hd.view_39 (looseW hd.view_39 []) mean mg mb h₀) (hk : cs.kind = .function)
   (hx : (x, instObj 117 dx) ∈ rest) (hdx : (dx, dictOf [⟨hb1, .str (Str.ofString "bits") tb1, .int n t3⟩, ⟨hb2, .str (Str.ofString "root") tb2, .ref root⟩] nd) ∈ rest)
   (hrest : ∀ p ∈ rest, p ∈ news ∧ ∀ q, P q ≠ some p.1) (hroot : P [] = some root) (Tr : Trie news P G)
   (hbn : b < 2 ^ n) (hln : l ≤ n) (hn : n ≤ 128) (hd' : dp + 8 < recursionLimit) (hu : un + 32 < cLine)
   (ret : ∀ h' tk' news' P' r, Fr h₀ L h' m → News h₀ L h' news' → Trie news' P' (updG G (bitsOf n b l) (.ref g)) → (∀ p ∈ rest, p ∈ news' ∧ ∀ q, P' q ≠ some p.1) → P' [] = some root → Q r { s with heap := h', toks := tk' }) :
   wpAny (model PySem.Challenge.rw_pf0331_01.row.prog w) (ktrTop dp un gd cn cs L a ccd cl outer) (call (.ref 93) [.ref x, .int b t1, .int l t2, .ref g]) Q E s := by
  revert X; k_fill; intro X
  have hx1 := (hrest _ hx).1
  have hdx1 := (hrest _ hdx).1
  have hbn1 : (b : Int) < 2 ^ (n : Int).toNat := by
    have : ((2 : Int) ^ (n : Int).toNat) = ((2 ^ n : Nat) : Int) := by simp
    rw [this]; exact_mod_cast hbn
  refine wpAny_call ?_
  k_dflt ktr_enter
  k_steps
  rename_i r9 h9 tk9 vs9 F9 N9 o9 i9
  have hnr0 : ∀ q, P q ≠ some r9 := fun q e => by
    obtain ⟨_, hm⟩ := Tr.node q _ e
    exact o9 _ hm rfl
  refine loopG_list (fun i m₁ nx => ∃ P' a', m₁ (Str.ofString "node") = some (.ref a') ∧ m₁ (Str.ofString "goal") = some (.ref g) ∧ P' ((bitsOf n b l).take i) = some a' ∧ Trie nx P' G ∧ P' [] = some root ∧ (∀ p ∈ rest, p ∈ nx ∧ ∀ q, P' q ≠ some p.1) ∧ ∀ q, P' q ≠ some r9)
    rfl (.head _) F9 N9 ⟨P, root, rfl, rfl, by simpa using hroot, Tr.mono (fun p hp => .tail _ hp), hroot, fun p hp => ⟨.tail _ (hrest p hp).1, (hrest p hp).2⟩, hnr0⟩ ?_ ?_
  · rintro i v m₁ nx h tk oI I hi hv hnI hlm ⟨P', a', hm1, hm2, hP, T', hr', hrs', hnr'⟩ F₁ N₁
    obtain ⟨k, t, hk', rfl⟩ := ints_get i9 hv
    have hil : i < l := by rw [ints_len i9, List.length_map, bitsOf_length] at hi; exact hi
    rw [List.getElem?_map, bitsOf_get n b l i hil] at hk'
    obtain rfl : bitI (bitAt n b i) = k := by simpa using hk'
    rw [bitsOf_take n b l i (Nat.le_of_lt hil)] at hP
    obtain ⟨nn, hnode⟩ := T'.node _ _ hP
    have hIa : @Ne Nat I a' := fun e => hnI _ hnode e.symm
    have F₂ := fr_knows F₁ [(Str.ofString "node", .ref a'), (Str.ofString "goal", .ref g)] (by simp [hm1, hm2])
    have hof := @offA_ne a' nx
    cases hbb : bitAt n b i <;> cases hch : P' (bitsOf n b i ++ [bitAt n b i]) <;> rw [hbb] at hch <;> rw [hch] at hnode <;> simp only [chv_none, chv_some] at hnode
    all_goals
      have N₂ := News_cons3 N₁ hnode
      clear N₁ N9 N F₁ F9
      simp only [bitI]
      k_steps
    all_goals
      have hrest5 : ∀ p ∈ (r9, listOf vs9.toArray vs9.length) :: rest, p ∈ nx ∧ ∀ q, P' q ≠ some p.1 := fun p hp => by
        rcases List.mem_cons.mp hp with rfl | hp
        · exact ⟨hlm, hnr'⟩
        · exact hrs' p hp
      have htake : (bitsOf n b l).take (i + 1) = bitsOf n b i ++ [bitAt n b i] := by rw [bitsOf_take n b l (i + 1) hil, bitsOf_succ]
      rw [hbb] at htake
    · rename_i l5 _ l1 _ _ F5 N5
      obtain ⟨T5, r5⟩ := put_new (n' := 0) (nn := nn) T' hP hch l1.2.2 l1.1 hrest5 rfl rfl
      exact put_end F5 N5 hnI hIa l1.2.1 (r5 _ (.head _)).1 (by with_unfolding_all rfl) (by with_unfolding_all rfl) (by rw [htake]; exact if_pos rfl) T5 (by simpa [updP] using hr') (fun p hp => r5 p (.tail _ hp)) (r5 _ (.head _)).2
    · rename_i F5 N5
      exact put_end2 F5 N5 hnI hIa hlm hnr' hP (by with_unfolding_all rfl) (by with_unfolding_all rfl) (by rw [htake]; exact hch) (by have := trie_off (nn := nn) T' hP; rw [hch] at this; exact this) hr' hrs' hnr'
    · rename_i l5 _ l1 _ _ F5 N5
      obtain ⟨T5, r5⟩ := put_new (n' := 0) (nn := nn) T' hP hch l1.2.2 l1.1 hrest5 rfl rfl
      exact put_end F5 N5 hnI hIa l1.2.1 (r5 _ (.head _)).1 (by with_unfolding_all rfl) (by with_unfolding_all rfl) (by rw [htake]; exact if_pos rfl) T5 (by simpa [updP] using hr') (fun p hp => r5 p (.tail _ hp)) (r5 _ (.head _)).2
    · rename_i F5 N5
      exact put_end2 F5 N5 hnI hIa hlm hnr' hP (by with_unfolding_all rfl) (by with_unfolding_all rfl) (by rw [htake]; exact hch) (by have := trie_off (nn := nn) T' hP; rw [hch] at this; exact this) hr' hrs' hnr'
  · rintro m₁ nx h tk hlm ⟨P', a', hm1, hm2, hP, T', hr', hrs', hnr'⟩ F₁ N₁
    have hl9 : vs9.length = l := by rw [ints_len i9, List.length_map, bitsOf_length]
    rw [hl9, bitsOf_take n b l l (Nat.le_refl _)] at hP
    obtain ⟨nn, hnode⟩ := T'.node _ _ hP
    have F₂ := fr_knows F₁ [(Str.ofString "node", .ref a'), (Str.ofString "goal", .ref g)] (by simp [hm1, hm2])
    have hof := @offA_ne a' nx
    have N₂ := News_cons2 N₁ hnode
    clear N₁ N9 N F₁ F9
    k_steps
    rename_i F5 N5 _ _
    exact ret _ _ _ P' _ F5 N5 (T'.hang hP (.head _) fun p hp h => .tail _ (offA_mem hp h)) (offA_keep hP hrs') hr'

end
end Mine

namespace Mine
open PySem PySem.W PyProof.Rows
local macro_rules | `(tactic| walk_at "pad Fd 0") => `(tactic| skip)
theorem fresh_Fd : True := by
  w_top off
  trivial
local macro_rules | `(tactic| k_room) => `(tactic| ktr_room)
local macro_rules | `(tactic| k_mem) => `(tactic| first | exact List.Mem.head _ | (refine' List.mem_cons_of_mem _ ?_; k_mem))
local macro_rules | `(tactic| ktr_enter) => `(tactic| first
  | (refine' code_def ?k1 ?k2 ?k3 ?k4 ?k5 ?kA ?kF ?kK ?k6 ?k7 ?k8 ?k9 ?kB ?_ ?c2 ?c3 ?c4 ?c5; (case kA => exact rfl); (case kF => exact rfl); (case kK => first | exact rfl | assumption); (case k1 => k_asm); (case k2 => k_asm); (case k3 => k_asm); (case k4 => k_asm); (case k5 => k_asm); (case k6 => k_is); (case k7 => k_is); (case k8 => ktr_room); (case k9 => exact BindsTo.of_eq rfl); (case c5 => decide); (case kB => exact locs rfl); (case c2 => exact rfl); (case c3 => exact rfl); (case c4 => exact rfl); k_whole; intro g' L' h' FG' F' N' B' X' T'; (try dsimp only); (try k_lift B'); (try k_fold))
  | (refine' code_defC ?k1 ?k2 ?k3 ?k4 ?k5 ?kA ?kF ?kK ?k6 ?k7 ?k8 ?k9 ?kB ?kD ?_ ?c2 ?c3 ?c4; (case kA => exact rfl); (case kF => exact rfl); (case kK => first | exact rfl | assumption); (case k1 => k_asm); (case k2 => k_asm); (case k3 => k_asm); (case k4 => k_asm); (case k5 => k_asm); (case k6 => k_is); (case k7 => k_is); (case k8 => ktr_room); (case k9 => exact BindsTo.of_eq rfl); (case kB => exact rfl); (case kD => decide +kernel); (case c2 => exact rfl); (case c3 => exact rfl); (case c4 => exact rfl); k_whole; intro g' L' h' tk' cells' FG' F' N' Y' B' X' T' l1; (try k_lt l1); k_cells Y'; (try simp only [List.cons_append, List.nil_append] at N'); (try dsimp only); (try k_lift B'); (try k_fold)))
section
variable {w : World} {mean : ExcName → Option Value} {mg mb : Str → Option Value} {dp un : Nat} {gd : Option (List Code)} {cn : Str} {cs : Scope} {a : Addr} {ccd : Value} {cl : List (Str × Addr)} {outer : List Env} {A₀ : Around} {base h₀ : Heap} {L : Addr} {m : Str → Option Value} {news : List (Addr × Obj)} {s : Shared} {Q E : Value → Shared → Prop}
local macro_rules | `(tactic| walk_at "exec For Name Call cons nil") => `(tactic| (k_here; (rename Fr _ _ _ _ => lF'); (with_unfolding_all refine' For_G lF' ?_ ?k1; (case k1 => (intro _; rfl)); k_whole)))
local macro_rules | `(tactic| walk_at "call ref") => `(tactic| (k_here; k_dflt (refine check_ok (by k_asm) (by k_asm) (by k_asm) (by k_asm) (by k_asm) (by first | exact rfl | assumption) (by omega) (by assumption) (by omega) (by omega) (by omega) (by ktr_room) (by ktr_units) ?_); intro h' tk' F' N'; (try dsimp only); (try k_fold)))
local macro_rules | `(tactic| walk_at "subscriptTail") => `(tactic| ((with_reducible show wpAny _ _ (subscriptTail _ _ (Value.ref _) (Value.int (Builtin.bitAnd _ _) _)) _ _ _); refine sub_stop ?_))
theorem find_end {h₀ h' : Heap} {L : Addr} {m' : Str → Option Value} {x I c : Addr} {oI : Obj} {nx news : List (Addr × Obj)} {P : List Bool → Option Addr} {G : List Bool → Value} {n b i : Nat} {t1 : Tok} {s₁ : Shared} {tk : Nat} {Q : Flow → Shared → Prop}
    (F : Fr h₀ L h' m') (N : News h₀ L h' ((I, oI) :: nx)) (hnI : ∀ p ∈ nx, p.1 ≠ I) (hm1 : m' (Str.ofString "node") = some (.ref c)) (hm2 : m' (Str.ofString "goal") = some (bestG G n b (i + 1))) (hm3 : m' (Str.ofString "self") = some (.ref x))
    (hm4 : m' (Str.ofString "address") = some (.int b t1)) (hP : P (bitsOf n b (i + 1)) = some c) (hsub : ∀ p ∈ news, p ∈ nx) :
    TurnG h₀ L [] (fun m₁ nx => ∃ a', m₁ (Str.ofString "node") = some (.ref a') ∧ m₁ (Str.ofString "goal") = some (bestG G n b (i + 1)) ∧ m₁ (Str.ofString "self") = some (.ref x) ∧ m₁ (Str.ofString "address") = some (.int b t1) ∧ P (bitsOf n b (i + 1)) = some a' ∧ ∀ p ∈ news, p ∈ nx) I oI s₁ Q .next { s₁ with heap := h', toks := tk } :=
  ⟨h', tk, m', nx, rfl, F, N, hnI, (fun p hp => (nomatch hp)), c, hm1, hm2, hm3, hm4, hP, hsub⟩
set_option maxRecDepth 100000 in
set_option maxHeartbeats 8000000 in
theorem find_ok {x dx root : Addr} {b n : Nat} {t1 t3 : Tok} {hb1 hb2 : Int} {tb1 tb2 : Tok} {nd : Nat} {P : List Bool → Option Addr} {G : List Bool → Value} (B : Below A₀ base outer h₀) (F : Fr h₀ L s.heap m) (X : (hd.heap_39 w.params).In h₀) (N : News h₀ L s.heap news) (T : Top hd.view_39 (looseW hd.view_39 []) mean mg mb h₀) (hk : cs.kind = .function)
   (hx : (x, instObj 117 dx) ∈ news) (hdx : (dx, dictOf [⟨hb1, .str (Str.ofString "bits") tb1, .int n t3⟩, ⟨hb2, .str (Str.ofString "root") tb2, .ref root⟩] nd) ∈ news)
   (hroot : P [] = some root) (Tr : Trie news P G) (hG : ∀ q, G q = .none ∨ ∃ g, G q = .ref g)
   (hbn : b < 2 ^ n) (hn : n ≤ 128) (hd' : dp + 8 < recursionLimit) (hu : un + 32 < cLine)
   (ret : ∀ h' tk', Fr h₀ L h' m → News h₀ L h' news → Q (bestG G n b n) { s with heap := h', toks := tk' }) :
   wpAny (model PySem.Challenge.rw_pf0331_01.row.prog w) (ktrTop dp un gd cn cs L a ccd cl outer) (call (.ref 107) [.ref x, .int b t1]) Q E s := by
  revert X; k_fill; intro X
  have hbn1 : (b : Int) < 2 ^ (n : Int).toNat := by
    have : ((2 : Int) ^ (n : Int).toNat) = ((2 ^ n : Nat) : Int) := by simp
    rw [this]; exact_mod_cast hbn
  obtain ⟨nr, hrt⟩ := Tr.node _ _ hroot
  replace N := news_dup N hrt
  refine wpAny_call ?_
  k_dflt ktr_enter
  k_steps
  rename_i r9 h9 t9 u9 v9 hr9 F9 N9 _
  refine loopG_range (n := n) (fun i m₁ nx => ∃ a', m₁ (Str.ofString "node") = some (.ref a') ∧ m₁ (Str.ofString "goal") = some (bestG G n b i) ∧ m₁ (Str.ofString "self") = some (.ref x) ∧ m₁ (Str.ofString "address") = some (.int b t1) ∧ P (bitsOf n b i) = some a' ∧ ∀ p ∈ news, p ∈ nx)
    rfl hr9 ?_ ?_ F9 N9 ⟨root, rfl, rfl, rfl, rfl, hroot, fun p hp => .tail _ hp⟩ ?_ ?_
  · exact small_one (by omega) (by omega) (by omega) (by omega)
  · have := rangeSize_nat 0 (n : Int)
    simpa using this
  · rintro i t m₁ nx h tk oI I hi hnI ⟨a', hm1, hm2, hm3, hm4, hP, hsub⟩ F₁ N₁
    obtain ⟨nn, hnode0⟩ := Tr.node _ _ hP
    have hnode := hsub _ hnode0
    have hx2 := hsub _ hx
    have hdx2 := hsub _ hdx
    have F₂ := fr_knows F₁ [(Str.ofString "node", .ref a'), (Str.ofString "goal", bestG G n b i), (Str.ofString "self", .ref x), (Str.ofString "address", .int b t1)] (by simp [hm1, hm2, hm3, hm4])
    cases hbb : bitAt n b i <;> cases hch : P (bitsOf n b i ++ [bitAt n b i]) <;> rw [hbb] at hch <;> rw [hch] at hnode <;> simp only [chv_none, chv_some] at hnode
    · have N₂ := news_dup N₁ (.tail _ hnode)
      have hsuc : bitsOf n b (i + 1) = bitsOf n b i ++ [false] := by rw [bitsOf_succ, hbb]
      clear N₁ N9 N F₁ F9
      k_steps
      rw [bit_and n b i _ (by omega) hi, hbb, bitI_f]
      unfold SubStop
      k_steps
      unfold TurnG
      dsimp only
      k_steps
      rename Fr _ _ _ _ => F5
      rename News _ _ _ _ => N5
      rw [← path_stop Tr (i := i) (by rw [hsuc]; exact hch) (Nat.le_of_lt hi)]
      exact ret _ _ F5 (news_sub N5 fun p hp => .tail _ (.tail _ (hsub p hp)))
    · rename_i c
      obtain ⟨nc, hc0⟩ := Tr.node _ _ hch
      have hc := hsub _ hc0
      have hsuc : bitsOf n b (i + 1) = bitsOf n b i ++ [false] := by rw [bitsOf_succ, hbb]
      have N₂ := news_dup (news_dup N₁ (.tail _ hc)) (.tail _ (.tail _ hnode))
      rcases hG (bitsOf n b i ++ [false]) with hg | ⟨g, hg⟩ <;> rw [hg] at hc N₂
      · clear N₁ N9 N F₁ F9
        k_steps
        rw [bit_and n b i _ (by omega) hi, hbb, bitI_f]
        unfold SubStop
        k_steps
        rename Fr _ _ _ _ => F5
        rename News _ _ _ _ => N5
        exact find_end F5 (news_sub N5 fun p hp => .tail _ (.tail _ hp)) hnI (by with_unfolding_all rfl) (by rw [bestG_none (by rw [hsuc]; exact hg)]; with_unfolding_all rfl) (by with_unfolding_all rfl) (by with_unfolding_all rfl) (by rw [hsuc]; exact hch) hsub
      · clear N₁ N9 N F₁ F9
        k_steps
        rw [bit_and n b i _ (by omega) hi, hbb, bitI_f]
        unfold SubStop
        k_steps
        rename Fr _ _ _ _ => F5
        rename News _ _ _ _ => N5
        exact find_end F5 (news_sub N5 fun p hp => .tail _ (.tail _ hp)) hnI (by with_unfolding_all rfl) (by rw [bestG_ref (by rw [hsuc]; exact hg)]; with_unfolding_all rfl) (by with_unfolding_all rfl) (by with_unfolding_all rfl) (by rw [hsuc]; exact hch) hsub
    · have N₂ := news_dup N₁ (.tail _ hnode)
      have hsuc : bitsOf n b (i + 1) = bitsOf n b i ++ [true] := by rw [bitsOf_succ, hbb]
      clear N₁ N9 N F₁ F9
      k_steps
      rw [bit_and n b i _ (by omega) hi, hbb, bitI_t]
      unfold SubStop
      k_steps
      unfold TurnG
      dsimp only
      k_steps
      rename Fr _ _ _ _ => F5
      rename News _ _ _ _ => N5
      rw [← path_stop Tr (i := i) (by rw [hsuc]; exact hch) (Nat.le_of_lt hi)]
      exact ret _ _ F5 (news_sub N5 fun p hp => .tail _ (.tail _ (hsub p hp)))
    · rename_i c
      obtain ⟨nc, hc0⟩ := Tr.node _ _ hch
      have hc := hsub _ hc0
      have hsuc : bitsOf n b (i + 1) = bitsOf n b i ++ [true] := by rw [bitsOf_succ, hbb]
      have N₂ := news_dup (news_dup N₁ (.tail _ hc)) (.tail _ (.tail _ hnode))
      rcases hG (bitsOf n b i ++ [true]) with hg | ⟨g, hg⟩ <;> rw [hg] at hc N₂
      · clear N₁ N9 N F₁ F9
        k_steps
        rw [bit_and n b i _ (by omega) hi, hbb, bitI_t]
        unfold SubStop
        k_steps
        rename Fr _ _ _ _ => F5
        rename News _ _ _ _ => N5
        exact find_end F5 (news_sub N5 fun p hp => .tail _ (.tail _ hp)) hnI (by with_unfolding_all rfl) (by rw [bestG_none (by rw [hsuc]; exact hg)]; with_unfolding_all rfl) (by with_unfolding_all rfl) (by with_unfolding_all rfl) (by rw [hsuc]; exact hch) hsub
      · clear N₁ N9 N F₁ F9
        k_steps
        rw [bit_and n b i _ (by omega) hi, hbb, bitI_t]
        unfold SubStop
        k_steps
        rename Fr _ _ _ _ => F5
        rename News _ _ _ _ => N5
        exact find_end F5 (news_sub N5 fun p hp => .tail _ (.tail _ hp)) hnI (by with_unfolding_all rfl) (by rw [bestG_ref (by rw [hsuc]; exact hg)]; with_unfolding_all rfl) (by with_unfolding_all rfl) (by with_unfolding_all rfl) (by rw [hsuc]; exact hch) hsub
  · rintro m₁ nx h tk ⟨a', hm1, hm2, hm3, hm4, hP, hsub⟩ F₁ N₁
    have F₂ := fr_knows F₁ [(Str.ofString "goal", bestG G n b n)] (by simp [hm2])
    clear F₁ F9 N9 N
    dsimp only
    k_steps
    rename Fr _ _ _ _ => F5
    rename News _ _ _ _ => N5
    exact ret _ _ F5 (news_sub N5 hsub)

end
end Mine

namespace Mine
open PySem PySem.W PyProof.Rows
theorem fresh_Ro : True := by
  w_top off
  trivial
local macro_rules | `(tactic| k_room) => `(tactic| ktr_room)
local macro_rules | `(tactic| k_mem) => `(tactic| first | exact List.Mem.head _ | (refine' List.mem_cons_of_mem _ ?_; k_mem))
local macro_rules | `(tactic| ktr_enter) => `(tactic| first
  | (refine' code_def ?k1 ?k2 ?k3 ?k4 ?k5 ?kA ?kF ?kK ?k6 ?k7 ?k8 ?k9 ?kB ?_ ?c2 ?c3 ?c4 ?c5; (case kA => exact rfl); (case kF => exact rfl); (case kK => first | exact rfl | assumption); (case k1 => k_asm); (case k2 => k_asm); (case k3 => k_asm); (case k4 => k_asm); (case k5 => k_asm); (case k6 => k_is); (case k7 => k_is); (case k8 => ktr_room); (case k9 => exact BindsTo.of_eq rfl); (case c5 => decide); (case kB => exact locs rfl); (case c2 => exact rfl); (case c3 => exact rfl); (case c4 => exact rfl); k_whole; intro g' L' h' FG' F' N' B' X' T'; (try dsimp only); (try k_lift B'); (try k_fold))
  | (refine' code_defC ?k1 ?k2 ?k3 ?k4 ?k5 ?kA ?kF ?kK ?k6 ?k7 ?k8 ?k9 ?kB ?kD ?_ ?c2 ?c3 ?c4; (case kA => exact rfl); (case kF => exact rfl); (case kK => first | exact rfl | assumption); (case k1 => k_asm); (case k2 => k_asm); (case k3 => k_asm); (case k4 => k_asm); (case k5 => k_asm); (case k6 => k_is); (case k7 => k_is); (case k8 => ktr_room); (case k9 => exact BindsTo.of_eq rfl); (case kB => exact rfl); (case kD => decide +kernel); (case c2 => exact rfl); (case c3 => exact rfl); (case c4 => exact rfl); k_whole; intro g' L' h' tk' cells' FG' F' N' Y' B' X' T' l1; (try k_lt l1); k_cells Y'; (try simp only [List.cons_append, List.nil_append] at N'); (try dsimp only); (try k_lift B'); (try k_fold)))
section
variable {w : World} {mean : ExcName → Option Value} {mg mb : Str → Option Value} {dp un : Nat} {gd : Option (List Code)} {cn : Str} {cs : Scope} {a : Addr} {ccd : Value} {cl : List (Str × Addr)} {outer : List Env} {A₀ : Around} {base h₀ : Heap} {L : Addr} {m : Str → Option Value} {news : List (Addr × Obj)} {s : Shared} {Q E : Value → Shared → Prop}
local macro_rules | `(tactic| walk_at "exec For Tuple Name cons nil") => `(tactic| (k_here; (rename Fr _ _ _ _ => lF'); (with_unfolding_all refine' For_G lF' ?_ ?k1; (case k1 => (intro _; rfl)); k_whole)))
local macro_rules | `(tactic| walk_at "call ref") => `(tactic| ((with_reducible show wpAny _ _ (call (Value.ref 93) _) _ _ _); refine sub_stop ?_))
set_option maxRecDepth 100000 in
set_option maxHeartbeats 8000000 in
theorem routes_tells {rows : Addr} {n : Nat} {t1 : Tok} {vs : List Value} {nn : Nat} {es : List Ent} (B : Below A₀ base outer h₀) (F : Fr h₀ L s.heap m) (X : (hd.heap_39 w.params).In h₀) (N : News h₀ L s.heap news) (T : Top hd.view_39 (looseW hd.view_39 []) mean mg mb h₀) (hk : cs.kind = .function)
   (hrows : (rows, listOf vs.toArray nn) ∈ news) (hR : RowsAre news n vs es)
   (hn : n ≤ 128) (hd' : dp + 16 < recursionLimit) (hu : un + 64 < cLine)
   (ret : ∀ h' tk' x dx root hb1 hb2 tb1 tb2 nd t3 P' news', Fr h₀ L h' m → News h₀ L h' news' → Trie news' P' (goalsOf n es) → P' [] = some root → (x, instObj 117 dx) ∈ news' →
     (dx, dictOf [⟨hb1, .str (Str.ofString "bits") tb1, .int n t3⟩, ⟨hb2, .str (Str.ofString "root") tb2, .ref root⟩] nd) ∈ news' → (∀ p ∈ news, p ∈ news') → Q (.ref x) { s with heap := h', toks := tk' }) :
   wpAny (model PySem.Challenge.rw_pf0331_01.row.prog w) (ktrTop dp un gd cn cs L a ccd cl outer) (call (.ref 128) [.int n t1, .ref rows]) Q E s := by
  revert X; k_fill; intro X
  refine wpAny_call ?_
  k_dflt ktr_enter
  k_steps
  rename Fr _ _ _ _ => F9
  rename News _ _ _ _ => N9
  rename_i x9 d9 _ l1a l2a _ _ _ _ _ _ _ _ l9 _ l1 _ _ _ _ _ _ _
  obtain ⟨tb1, tb2, N8⟩ : ∃ tb1 tb2, News _ _ _ ((l9, listOf [.none, .none, .none].toArray 0) :: (x9, instObj 117 d9) :: (d9, dictOf [⟨PyData.keyHash w.params (Str.ofString "bits"), .str (Str.ofString "bits") tb1, .int n t1⟩, ⟨PyData.keyHash w.params (Str.ofString "root"), .str (Str.ofString "root") tb2, .ref l9⟩] 2) :: news) := ⟨_, _, N9⟩
  clear N9
  obtain ⟨D9, hD9⟩ : ∃ D, D = dictOf [⟨PyData.keyHash w.params (Str.ofString "bits"), .str (Str.ofString "bits") tb1, .int n t1⟩, ⟨PyData.keyHash w.params (Str.ofString "root"), .str (Str.ofString "root") tb2, .ref l9⟩] 2 := ⟨_, rfl⟩
  rw [← hD9] at N8
  obtain ⟨rest9, hrest9⟩ : ∃ r, r = (x9, instObj 117 d9) :: (d9, D9) :: news := ⟨_, rfl⟩
  have hoffs : ∀ p ∈ rest9, p.1 ≠ l9 := by
    rw [hrest9]
    intro p hp
    rcases List.mem_cons.mp hp with rfl | hp
    · exact Nat.ne_of_lt l1.1
    · rcases List.mem_cons.mp hp with rfl | hp
      · exact Nat.ne_of_lt l1.2.1
      · exact Nat.ne_of_lt (allLt_mem _ l1.2.2 p hp)
  have hnr9 : ∀ p ∈ news, p ∈ rest9 := fun p hp => by rw [hrest9]; exact .tail _ (.tail _ hp)
  have hxr : (x9, instObj 117 d9) ∈ rest9 := by rw [hrest9]; exact .head _
  have hdr : (d9, D9) ∈ rest9 := by rw [hrest9]; exact .tail _ (.head _)
  refine loopG_list (fun i m₁ nx => ∃ P', m₁ (Str.ofString "out") = some (.ref x9) ∧ Trie nx P' (goalsOf n (es.take i)) ∧ P' [] = some l9 ∧ ∀ p ∈ rest9, p ∈ nx ∧ ∀ q, P' q ≠ some p.1)
    rfl (.tail _ (.tail _ (.tail _ hrows))) F9 N8 ⟨_, rfl, Trie.empty (.head _), rfl, fun p hp => ⟨?_, fun q e => ?_⟩⟩ ?_ ?_
  · rw [hrest9] at hp; exact .tail _ hp
  · by_cases hq : q = []
    · rw [if_pos hq] at e; exact hoffs p hp (Option.some.inj e).symm
    · rw [if_neg hq] at e; cases e
  · rintro i v m₁ nx h tk oI I hi hv hnI hlm ⟨P', hm1, T', hr', hrs'⟩ F₁ N₁
    obtain ⟨b, l, g, r, ta, tb, he, rfl, hrow, hb, hl⟩ := hR.row i v hv
    have hrow' := (hrs' _ (hnr9 _ hrow)).1
    have F₂ := fr_knows F₁ [(Str.ofString "out", .ref x9)] (by simp [hm1])
    have N₂ := news_dup N₁ (.tail _ hrow')
    have hx2 := (hrs' _ hxr).1
    have hd2 := (hrs' _ hdr).1
    rw [hD9] at hd2
    clear N₁ N8 N F₁ F9
    k_steps
    unfold SubStop
    have hI5 : ∀ q, P' q ≠ some I := fun q e => by
      obtain ⟨_, hm⟩ := T'.node q _ e
      exact hnI _ hm rfl
    refine put_tells (rest := (I, oI) :: rest9) (P := P') (G := goalsOf n (es.take i)) (by k_asm) (by k_asm) (by k_asm) (by k_asm) (by k_asm) (by first | exact rfl | assumption) (.tail _ hxr) (.tail _ (hD9 ▸ hdr)) (fun p hp => ?_) hr' (T'.mono fun p hp => .tail _ (.tail _ hp)) hb hl hn (by ktr_room) (by ktr_units) ?_
    · rcases List.mem_cons.mp hp with rfl | hp
      · exact ⟨.tail _ (.head _), hI5⟩
      · exact ⟨.tail _ (.tail _ (hrs' p hp).1), (hrs' p hp).2⟩
    intro h5 tk5 news5 P5 r5 F5 N5 T5 hr5 hroot5
    dsimp only
    k_steps
    have hI6 := hr5 _ (.head _)
    refine ⟨_, _, _, offA I news5, rfl, F5, fun p hp => ?_, offA_ne, fun p hp => ?_, P5, by with_unfolding_all rfl, ?_, hroot5, fun p hp => ⟨offA_mem (hr5 p (.tail _ hp)).1 ?_, (hr5 p (.tail _ hp)).2⟩⟩
    · rcases List.mem_cons.mp hp with rfl | hp
      · exact N5 _ hI6.1
      · exact N5 _ (offA_sub p hp)
    · rw [List.mem_singleton.mp hp]
      exact offA_mem (hr5 _ (.tail _ (hnr9 _ hrows))).1 (hnI _ (hrs' _ (hnr9 _ hrows)).1)
    · rw [take_snoc he, goalsOf_snoc]
      exact T5.keep fun p hp ⟨q, hq⟩ => offA_mem hp fun e => hI6.2 q (by rw [hq]; exact congrArg some e)
    · exact hnI p (hrs' p hp).1
  · rintro m₁ nx h tk hlm ⟨P', hm1, T', hr', hrs'⟩ F₁ N₁
    have hle : es.take vs.length = es := by rw [hR.len, List.take_length]
    rw [hle] at T'
    have F₂ := fr_knows F₁ [(Str.ofString "out", .ref x9)] (by simp [hm1])
    clear F₁ F9 N8 N
    dsimp only
    k_steps
    rename Fr _ _ _ _ => F5
    rename News _ _ _ _ => N5
    exact ret _ _ _ _ _ _ _ _ _ _ _ _ _ F5 N5 T' hr' (hrs' _ hxr).1 (hD9 ▸ (hrs' _ hdr).1) fun p hp => (hrs' p (hnr9 p hp)).1

end
end Mine

namespace Mine
open PySem PySem.W PyProof.Rows
theorem fresh_Bl : True := by
  w_top off
  trivial
local macro_rules | `(tactic| k_room) => `(tactic| ktr_room)
local macro_rules | `(tactic| k_mem) => `(tactic| first | exact List.Mem.head _ | (refine' List.mem_cons_of_mem _ ?_; k_mem))
local macro_rules | `(tactic| ktr_enter) => `(tactic| first
  | (refine' code_def ?k1 ?k2 ?k3 ?k4 ?k5 ?kA ?kF ?kK ?k6 ?k7 ?k8 ?k9 ?kB ?_ ?c2 ?c3 ?c4 ?c5; (case kA => exact rfl); (case kF => exact rfl); (case kK => first | exact rfl | assumption); (case k1 => k_asm); (case k2 => k_asm); (case k3 => k_asm); (case k4 => k_asm); (case k5 => k_asm); (case k6 => k_is); (case k7 => k_is); (case k8 => ktr_room); (case k9 => exact BindsTo.of_eq rfl); (case c5 => decide); (case kB => exact locs rfl); (case c2 => exact rfl); (case c3 => exact rfl); (case c4 => exact rfl); k_whole; intro g' L' h' FG' F' N' B' X' T'; (try dsimp only); (try k_lift B'); (try k_fold))
  | (refine' code_defC ?k1 ?k2 ?k3 ?k4 ?k5 ?kA ?kF ?kK ?k6 ?k7 ?k8 ?k9 ?kB ?kD ?_ ?c2 ?c3 ?c4; (case kA => exact rfl); (case kF => exact rfl); (case kK => first | exact rfl | assumption); (case k1 => k_asm); (case k2 => k_asm); (case k3 => k_asm); (case k4 => k_asm); (case k5 => k_asm); (case k6 => k_is); (case k7 => k_is); (case k8 => ktr_room); (case k9 => exact BindsTo.of_eq rfl); (case kB => exact rfl); (case kD => decide +kernel); (case c2 => exact rfl); (case c3 => exact rfl); (case c4 => exact rfl); k_whole; intro g' L' h' tk' cells' FG' F' N' Y' B' X' T' l1; (try k_lt l1); k_cells Y'; (try simp only [List.cons_append, List.nil_append] at N'); (try dsimp only); (try k_lift B'); (try k_fold)))
section
variable {w : World} {mean : ExcName → Option Value} {mg mb : Str → Option Value} {dp un : Nat} {gd : Option (List Code)} {cn : Str} {cs : Scope} {a : Addr} {ccd : Value} {cl : List (Str × Addr)} {outer : List Env} {A₀ : Around} {base h₀ : Heap} {L : Addr} {m : Str → Option Value} {news : List (Addr × Obj)} {s : Shared} {Q E : Value → Shared → Prop}
local macro_rules | `(tactic| walk_at "exec For Tuple Name cons nil") => `(tactic| (k_here; (rename Fr _ _ _ _ => lF'); (with_unfolding_all refine' For_G lF' ?_ ?k1; (case k1 => (intro _; rfl)); k_whole)))
local macro_rules | `(tactic| k_all) => `(tactic| assumption)
set_option maxRecDepth 100000 in
set_option maxHeartbeats 8000000 in
theorem blocks_tells {rows : Addr} {n : Nat} {t1 : Tok} {vs : List Value} {nn : Nat} {es : List Ent} (B : Below A₀ base outer h₀) (F : Fr h₀ L s.heap m) (X : (hd.heap_39 w.params).In h₀) (N : News h₀ L s.heap news) (T : Top hd.view_39 (looseW hd.view_39 []) mean mg mb h₀) (hk : cs.kind = .function)
   (hrows : (rows, listOf vs.toArray nn) ∈ news) (hR : RowsAre news n vs es) (hes : es.length ≤ 8)
   (hn : n ≤ 128) (hd' : dp + 16 < recursionLimit) (hu : un + 64 < cLine)
   (ret : ∀ h' tk' bl us nn' news', Fr h₀ L h' m → News h₀ L h' news' → (bl, listOf (List.toArray us) nn') ∈ news' → BlksAre news' n us es → (∀ p ∈ news, p ∈ news') → Q (.ref bl) { s with heap := h', toks := tk' }) :
   wpAny (model PySem.Challenge.rw_pf0331_01.row.prog w) (ktrTop dp un gd cn cs L a ccd cl outer) (call (.ref 149) [.int n t1, .ref rows]) Q E s := by
  revert X; k_fill; intro X
  refine wpAny_call ?_
  k_dflt ktr_enter
  k_steps
  rename Fr _ _ _ _ => F9
  rename News _ _ _ _ => N9
  rename_i b9 _ l1 _
  refine loopG_list (fun i m₁ nx => ∃ bl us nn', m₁ (Str.ofString "blocks") = some (.ref bl) ∧ m₁ (Str.ofString "bits") = some (.int n t1) ∧ (bl, listOf us.toArray nn') ∈ nx ∧ BlksAre (offA bl nx) n us (es.take i) ∧ (∀ p ∈ news, p ∈ offA bl nx)) rfl (.tail _ hrows) F9 N9 ⟨b9, [], _, rfl, rfl, .head _, BlksAre.nil, fun p hp => offA_mem (.tail _ hp) (Nat.ne_of_lt (l1 p hp))⟩ ?_ ?_
  · rintro i v m₁ nx h tk oI I hi hv hnI hlm ⟨bl, us, nn', hm1, hm2, hbl, hU, hsub⟩ F₁ N₁
    obtain ⟨b, l, g, r, ta, tb, he, rfl, hrow, hb, hl⟩ := hR.row i v hv
    have hrow' := offA_sub _ (hsub _ hrow)
    have F₂ := fr_knows F₁ [(Str.ofString "blocks", .ref bl), (Str.ofString "bits", .int n t1)] (by simp [hm1, hm2])
    have N₂ := news_blocks N₁ hbl hrow'
    have hrb : @Ne Nat r bl := offA_ne _ (hsub _ hrow)
    have hIb : @Ne Nat I bl := fun e => hnI _ hbl e.symm
    have hof := @offA_ne bl nx
    have hus : us.length ≤ 8 := by have h1 := hU.len; rw [List.length_take] at h1; omega
    clear N₁ N9 N F₁ F9
    k_steps
    rename Fr _ _ _ _ => F5
    rename News _ _ _ _ => N5
    rename_i D5 _ l5 _
    rw [List.push_toArray] at N5
    obtain ⟨ta5, tb5, N6⟩ : ∃ t t' : Tok, News _ _ _ ((D5, tup [.int (lowOf n b l) t, .int (highOf n b l) t', .int (l : Nat) tb, .ref g]) :: (bl, listOf (us ++ [Value.ref D5]).toArray (nn' + 1)) :: (r, tup [.int (b : Nat) ta, .int (l : Nat) tb, .ref g]) :: (I, oI) :: offA bl nx) := ⟨_, _, N5⟩
    clear N5
    refine ⟨_, _, _, (D5, tup [.int (lowOf n b l) ta5, .int (highOf n b l) tb5, .int (l : Nat) tb, .ref g]) :: (bl, listOf (us ++ [Value.ref D5]).toArray (nn' + 1)) :: offA bl nx, rfl, F5, fun p hp => ?_, fun p hp => ?_, fun p hp => ?_, bl, us ++ [.ref D5], nn' + 1, by with_unfolding_all rfl, by with_unfolding_all rfl, .tail _ (.head _), ?_, fun p hp => offA_cons2 p (hsub p hp)⟩
    · rcases List.mem_cons.mp hp with rfl | hp
      · exact N6 _ (.tail _ (.tail _ (.tail _ (.head _))))
      · rcases List.mem_cons.mp hp with rfl | hp
        · exact N6 _ (.head _)
        · rcases List.mem_cons.mp hp with rfl | hp
          · exact N6 _ (.tail _ (.head _))
          · exact N6 _ (.tail _ (.tail _ (.tail _ (.tail _ hp))))
    · rcases List.mem_cons.mp hp with rfl | hp
      · exact Nat.ne_of_gt l5.2.2.1
      · rcases List.mem_cons.mp hp with rfl | hp
        · exact fun e => hIb e.symm
        · exact hnI p (offA_sub p hp)
    · rw [List.mem_singleton.mp hp]
      exact .tail _ (.tail _ (hsub _ hrows))
    · rw [take_snoc he]
      exact (hU.mono offA_cons2).snoc (offA_mem (.head _) (Nat.ne_of_gt l5.1))
  · rintro m₁ nx h tk hlm ⟨bl, us, nn', hm1, hm2, hbl, hU, hsub⟩ F₁ N₁
    have hle : es.take vs.length = es := by rw [hR.len, List.take_length]
    rw [hle] at hU
    have F₂ := fr_knows F₁ [(Str.ofString "blocks", .ref bl)] (by simp [hm1])
    clear F₁ F9 N9 N
    dsimp only
    k_steps
    rename Fr _ _ _ _ => F5
    rename News _ _ _ _ => N5
    exact ret _ _ _ _ _ _ F5 N5 hbl (hU.mono offA_sub) fun p hp => offA_sub p (hsub p hp)

end
end Mine

namespace Mine
open PySem PySem.W PyProof.Rows
local macro_rules | `(tactic| walk_at "pad Du 0") => `(tactic| skip)
theorem fresh_Du : True := by
  w_top off
  trivial
local macro_rules | `(tactic| k_room) => `(tactic| ktr_room)
local macro_rules | `(tactic| k_mem) => `(tactic| first | exact List.Mem.head _ | (refine' List.mem_cons_of_mem _ ?_; k_mem))
local macro_rules | `(tactic| ktr_enter) => `(tactic| first
  | (refine' code_def ?k1 ?k2 ?k3 ?k4 ?k5 ?kA ?kF ?kK ?k6 ?k7 ?k8 ?k9 ?kB ?_ ?c2 ?c3 ?c4 ?c5; (case kA => exact rfl); (case kF => exact rfl); (case kK => first | exact rfl | assumption); (case k1 => k_asm); (case k2 => k_asm); (case k3 => k_asm); (case k4 => k_asm); (case k5 => k_asm); (case k6 => k_is); (case k7 => k_is); (case k8 => ktr_room); (case k9 => exact BindsTo.of_eq rfl); (case c5 => decide); (case kB => exact locs rfl); (case c2 => exact rfl); (case c3 => exact rfl); (case c4 => exact rfl); k_whole; intro g' L' h' FG' F' N' B' X' T'; (try dsimp only); (try k_lift B'); (try k_fold))
  | (refine' code_defC ?k1 ?k2 ?k3 ?k4 ?k5 ?kA ?kF ?kK ?k6 ?k7 ?k8 ?k9 ?kB ?kD ?_ ?c2 ?c3 ?c4; (case kA => exact rfl); (case kF => exact rfl); (case kK => first | exact rfl | assumption); (case k1 => k_asm); (case k2 => k_asm); (case k3 => k_asm); (case k4 => k_asm); (case k5 => k_asm); (case k6 => k_is); (case k7 => k_is); (case k8 => ktr_room); (case k9 => exact BindsTo.of_eq rfl); (case kB => exact rfl); (case kD => decide +kernel); (case c2 => exact rfl); (case c3 => exact rfl); (case c4 => exact rfl); k_whole; intro g' L' h' tk' cells' FG' F' N' Y' B' X' T' l1; (try k_lt l1); k_cells Y'; (try simp only [List.cons_append, List.nil_append] at N'); (try dsimp only); (try k_lift B'); (try k_fold)))
section
variable {w : World} {mean : ExcName → Option Value} {mg mb : Str → Option Value} {dp un : Nat} {gd : Option (List Code)} {cn : Str} {cs : Scope} {a : Addr} {ccd : Value} {cl : List (Str × Addr)} {outer : List Env} {A₀ : Around} {base h₀ : Heap} {L : Addr} {m : Str → Option Value} {news : List (Addr × Obj)} {s : Shared} {Q E : Value → Shared → Prop}
local macro_rules | `(tactic| walk_at "exec For Tuple Name cons nil") => `(tactic| (k_here; (rename Fr _ _ _ _ => lF'); (with_unfolding_all refine' For_G lF' ?_ ?k1; (case k1 => (intro _; rfl)); k_whole)))
theorem due_end {h₀ h' : Heap} {L : Addr} {m' : Str → Option Value} {r I rows : Addr} {oI o orows : Obj} {nx news : List (Addr × Obj)} {n x i b l : Nat} {g : Addr} {es : List Ent} {t2 tl : Tok} {z : Int} {v : Value} {s₁ : Shared} {tk : Nat} {Q : Flow → Shared → Prop}
    (F : Fr h₀ L h' m') (N : News h₀ L h' ((r, o) :: (I, oI) :: nx)) (hnI : ∀ p ∈ nx, p.1 ≠ I) (hlm : (rows, orows) ∈ nx) (hsub : ∀ p ∈ news, p ∈ nx) (he : es[i]? = some (b, l, g))
    (hm1 : m' (Str.ofString "longest") = some (.int z tl)) (hm2 : m' (Str.ofString "due") = some v) (hm3 : m' (Str.ofString "address") = some (.int x t2)) (hs : dueStep n x (dueOf n x (es.take i)) (b, l, g) = (z, v)) :
    TurnG h₀ L [(rows, orows)] (fun m₁ nx => (∃ tl, m₁ (Str.ofString "longest") = some (.int (dueOf n x (es.take (i + 1))).1 tl)) ∧ m₁ (Str.ofString "due") = some (dueOf n x (es.take (i + 1))).2 ∧ m₁ (Str.ofString "address") = some (.int x t2) ∧ ∀ p ∈ news, p ∈ nx) I oI s₁ Q .next { s₁ with heap := h', toks := tk } := by
  rw [take_snoc he, dueOf_snoc, hs]
  exact ⟨h', tk, m', nx, rfl, F, fun p hp => N p (.tail _ hp), hnI, (fun p hp => by rw [List.mem_singleton.mp hp]; exact hlm), ⟨tl, hm1⟩, hm2, hm3, hsub⟩
set_option maxRecDepth 100000 in
set_option maxHeartbeats 8000000 in
theorem due_in {rows : Addr} {n x : Nat} {t1 t2 : Tok} {vs : List Value} {nn : Nat} {es : List Ent} (B : Below A₀ base outer h₀) (F : Fr h₀ L s.heap m) (X : (hd.heap_39 w.params).In h₀) (N : News h₀ L s.heap news) (T : Top hd.view_39 (looseW hd.view_39 []) mean mg mb h₀) (hk : cs.kind = .function)
   (hrows : (rows, listOf vs.toArray nn) ∈ news) (hR : BlksAre news n vs es)
   (hx : x < 2 ^ n) (hn : n ≤ 128) (hd' : dp + 16 < recursionLimit) (hu : un + 64 < cLine)
   (ret : ∀ h' tk' r te, Fr h₀ L h' m → News h₀ L h' ((r, tup [(dueOf n x es).2, .str (Str.ofString "") te]) :: news) → (∀ p ∈ news, p.1 ≠ r) → Q (.ref r) { s with heap := h', toks := tk' }) :
   wpAny (model PySem.Challenge.rw_pf0331_01.row.prog w) (ktrTop dp un gd cn cs L a ccd cl outer) (call (.ref 156) [.int n t1, .ref rows, .int x t2]) Q E s := by
  revert X; k_fill; intro X
  have hx1 : (x : Int) < 2 ^ n := by exact_mod_cast hx
  have hx2 : (x : Int) < 2 ^ (n : Int).toNat := by
    have : ((2 : Int) ^ (n : Int).toNat) = ((2 ^ n : Nat) : Int) := by simp
    rw [this]; exact_mod_cast hx
  refine wpAny_call ?_
  k_dflt ktr_enter
  k_steps
  rename Fr _ _ _ _ => F9
  rename News _ _ _ _ => N9
  refine loopG_list (fun i m₁ nx => (∃ tl, m₁ (Str.ofString "longest") = some (.int (dueOf n x (es.take i)).1 tl)) ∧ m₁ (Str.ofString "due") = some (dueOf n x (es.take i)).2 ∧ m₁ (Str.ofString "address") = some (.int x t2) ∧ ∀ p ∈ news, p ∈ nx) rfl hrows F9 N9 ⟨⟨_, rfl⟩, rfl, rfl, fun p hp => hp⟩ ?_ ?_
  · rintro i v m₁ nx h tk oI I hi hv hnI hlm ⟨⟨tl, hm1⟩, hm2, hm3, hsub⟩ F₁ N₁
    obtain ⟨b, l, g, r, ta, tb, tc, he, rfl, hrow⟩ := hR.row i v hv
    have F₂ := fr_knows F₁ [(Str.ofString "longest", .int (dueOf n x (es.take i)).1 tl), (Str.ofString "due", (dueOf n x (es.take i)).2), (Str.ofString "address", .int x t2)] (by simp [hm1, hm2, hm3])
    have N₂ := news_dup N₁ (.tail _ (hsub _ hrow))
    obtain ⟨low, hlow⟩ : ∃ z, z = lowOf n b l := ⟨_, rfl⟩
    obtain ⟨high, hhigh⟩ : ∃ z, z = highOf n b l := ⟨_, rfl⟩
    rw [← hlow, ← hhigh] at N₂
    obtain ⟨lo, hlo⟩ : ∃ z, z = (dueOf n x (es.take i)).1 := ⟨_, rfl⟩
    rw [← hlo] at F₂
    clear N₁ N9 N F₁ F9
    k_steps
    all_goals
      rename Fr _ _ _ _ => F5
      rename News _ _ _ _ => N5
    · exact due_end F5 N5 hnI hlm hsub he (by with_unfolding_all rfl) (by with_unfolding_all rfl) (by with_unfolding_all rfl) (dueStep_hit (by omega) (by omega) (by omega))
    · exact due_end F5 N5 hnI hlm hsub he (by rw [hlo]; with_unfolding_all rfl) (by with_unfolding_all rfl) (by with_unfolding_all rfl) (dueStep_miss (by omega))
    · exact due_end F5 N5 hnI hlm hsub he (by rw [hlo]; with_unfolding_all rfl) (by with_unfolding_all rfl) (by with_unfolding_all rfl) (dueStep_miss (by omega))
    · exact due_end F5 N5 hnI hlm hsub he (by rw [hlo]; with_unfolding_all rfl) (by with_unfolding_all rfl) (by with_unfolding_all rfl) (dueStep_miss (by omega))
  · rintro m₁ nx h tk hlm ⟨⟨tl, hm1⟩, hm2, hm3, hsub⟩ F₁ N₁
    have hle : es.take vs.length = es := by rw [hR.len, List.take_length]
    rw [hle] at hm2
    have F₂ := fr_knows F₁ [(Str.ofString "due", (dueOf n x es).2)] (by simp [hm2])
    have N₂ := news_sub N₁ hsub
    clear F₁ F9 N9 N N₁
    dsimp only
    k_steps
    rename_i _ _ l1 F5 N5 _ _
    exact ret _ _ _ _ F5 N5 (fun p hp => Nat.ne_of_lt (l1 p hp))

set_option maxRecDepth 100000 in
set_option maxHeartbeats 8000000 in
theorem due_out {rows : Addr} {n : Nat} {x : Int} {t1 t2 : Tok} (B : Below A₀ base outer h₀) (F : Fr h₀ L s.heap m) (X : (hd.heap_39 w.params).In h₀) (N : News h₀ L s.heap news) (T : Top hd.view_39 (looseW hd.view_39 []) mean mg mb h₀) (hk : cs.kind = .function)
   (hx : x < 0 ∨ 2 ^ n ≤ x) (hn : n ≤ 128) (hd' : dp + 16 < recursionLimit) (hu : un + 64 < cLine)
   (ret : ∀ h' tk' r te, Fr h₀ L h' m → News h₀ L h' ((r, tup [.none, .str (Str.ofString "no such prefix") te]) :: news) → (∀ p ∈ news, p.1 ≠ r) → Q (.ref r) { s with heap := h', toks := tk' }) :
   wpAny (model PySem.Challenge.rw_pf0331_01.row.prog w) (ktrTop dp un gd cn cs L a ccd cl outer) (call (.ref 156) [.int n t1, .ref rows, .int x t2]) Q E s := by
  revert X; k_fill; intro X
  have hp : (0 : Int) < 2 ^ n := pow2_pos n
  have he : ((2 : Int) ^ (n : Int).toNat) = 2 ^ n := by simp
  refine wpAny_call ?_
  k_dflt ktr_enter
  rcases hx with hx | hx
  · k_steps
    rename_i _ _ l1 F5 N5 _ _
    exact ret _ _ _ _ F5 N5 (fun p hp => Nat.ne_of_lt (l1 p hp))
  · k_steps
    rename_i _ _ l1 F5 N5 _ _
    exact ret _ _ _ _ F5 N5 (fun p hp => Nat.ne_of_lt (l1 p hp))

end
end Mine

namespace Mine
open PySem PySem.W PyProof.Rows
theorem fresh_Ed : True := by
  w_top off
  trivial
local macro_rules | `(tactic| k_room) => `(tactic| ktr_room)
local macro_rules | `(tactic| k_mem) => `(tactic| first | exact List.Mem.head _ | (refine' List.mem_cons_of_mem _ ?_; k_mem))
local macro_rules | `(tactic| ktr_enter) => `(tactic| first
  | (refine' code_def ?k1 ?k2 ?k3 ?k4 ?k5 ?kA ?kF ?kK ?k6 ?k7 ?k8 ?k9 ?kB ?_ ?c2 ?c3 ?c4 ?c5; (case kA => exact rfl); (case kF => exact rfl); (case kK => first | exact rfl | assumption); (case k1 => k_asm); (case k2 => k_asm); (case k3 => k_asm); (case k4 => k_asm); (case k5 => k_asm); (case k6 => k_is); (case k7 => k_is); (case k8 => ktr_room); (case k9 => exact BindsTo.of_eq rfl); (case c5 => decide); (case kB => exact locs rfl); (case c2 => exact rfl); (case c3 => exact rfl); (case c4 => exact rfl); k_whole; intro g' L' h' FG' F' N' B' X' T'; (try dsimp only); (try k_lift B'); (try k_fold))
  | (refine' code_defC ?k1 ?k2 ?k3 ?k4 ?k5 ?kA ?kF ?kK ?k6 ?k7 ?k8 ?k9 ?kB ?kD ?_ ?c2 ?c3 ?c4; (case kA => exact rfl); (case kF => exact rfl); (case kK => first | exact rfl | assumption); (case k1 => k_asm); (case k2 => k_asm); (case k3 => k_asm); (case k4 => k_asm); (case k5 => k_asm); (case k6 => k_is); (case k7 => k_is); (case k8 => ktr_room); (case k9 => exact BindsTo.of_eq rfl); (case kB => exact rfl); (case kD => decide +kernel); (case c2 => exact rfl); (case c3 => exact rfl); (case c4 => exact rfl); k_whole; intro g' L' h' tk' cells' FG' F' N' Y' B' X' T' l1; (try k_lt l1); k_cells Y'; (try simp only [List.cons_append, List.nil_append] at N'); (try dsimp only); (try k_lift B'); (try k_fold)))
section
variable {w : World} {mean : ExcName → Option Value} {mg mb : Str → Option Value} {dp un : Nat} {gd : Option (List Code)} {cn : Str} {cs : Scope} {a : Addr} {ccd : Value} {cl : List (Str × Addr)} {outer : List Env} {A₀ : Around} {base h₀ : Heap} {L : Addr} {m : Str → Option Value} {news : List (Addr × Obj)} {s : Shared} {Q E : Value → Shared → Prop}
local macro_rules | `(tactic| walk_at "exec For Tuple Name cons nil") => `(tactic| (k_here; (rename Fr _ _ _ _ => lF'); (with_unfolding_all refine' For_G lF' ?_ ?k1; (case k1 => (intro _; rfl)); k_whole)))
local macro_rules | `(tactic| k_all) => `(tactic| assumption)
set_option maxRecDepth 100000 in
set_option maxHeartbeats 8000000 in
theorem edges_tells {rows : Addr} {n : Nat} {vs : List Value} {nn : Nat} {es : List Ent} (B : Below A₀ base outer h₀) (F : Fr h₀ L s.heap m) (X : (hd.heap_39 w.params).In h₀) (N : News h₀ L s.heap news) (T : Top hd.view_39 (looseW hd.view_39 []) mean mg mb h₀) (hk : cs.kind = .function)
   (hrows : (rows, listOf vs.toArray nn) ∈ news) (hR : BlksAre news n vs es) (hes : es.length ≤ 8)
   (hd' : dp + 16 < recursionLimit) (hu : un + 64 < cLine)
   (ret : ∀ h' tk' el us ks nn' news', Fr h₀ L h' m → News h₀ L h' news' → (el, listOf (List.toArray us) nn') ∈ news' → IntsAre us ks → (∀ p ∈ news, p ∈ news') → Q (.ref el) { s with heap := h', toks := tk' }) :
   wpAny (model PySem.Challenge.rw_pf0331_01.row.prog w) (ktrTop dp un gd cn cs L a ccd cl outer) (call (.ref 170) [.ref rows]) Q E s := by
  revert X; k_fill; intro X
  refine wpAny_call ?_
  k_dflt ktr_enter
  k_steps
  rename Fr _ _ _ _ => F9
  rename News _ _ _ _ => N9
  rename_i b9 _ l1 _
  refine loopG_list (fun i m₁ nx => ∃ bl us ks nn', m₁ (Str.ofString "edges") = some (.ref bl) ∧ (bl, listOf us.toArray nn') ∈ nx ∧ IntsAre us ks ∧ us.length = 4 * i ∧ (∀ p ∈ news, p ∈ offA bl nx)) rfl (.tail _ hrows) F9 N9 ⟨b9, [], [], _, rfl, .head _, .nil, rfl, fun p hp => offA_mem (.tail _ hp) (Nat.ne_of_lt (l1 p hp))⟩ ?_ ?_
  · rintro i v m₁ nx h tk oI I hi hv hnI hlm ⟨bl, us, ks, nn', hm1, hbl, hU, hul, hsub⟩ F₁ N₁
    obtain ⟨b, l, g, r, ta, tb, tc, he, rfl, hrow⟩ := hR.row i v hv
    have hrow' := offA_sub _ (hsub _ hrow)
    have F₂ := fr_knows F₁ [(Str.ofString "edges", .ref bl)] (by simp [hm1])
    have N₂ := news_blocks N₁ hbl hrow'
    have hrb : @Ne Nat r bl := offA_ne _ (hsub _ hrow)
    have hIb : @Ne Nat I bl := fun e => hnI _ hbl e.symm
    have hof := @offA_ne bl nx
    have hus : us.length ≤ 32 := by have := hR.len; omega
    clear N₁ N9 N F₁ F9
    k_steps
    rename Fr _ _ _ _ => F5
    rename News _ _ _ _ => N5
    rename_i l5 _ l1
    refine kl_extend (its := us.toArray) F5 N5 (.head _) rfl (by simp) (.tail (Nat.ne_of_gt l1.1) (.head fun p hp => ?_)) ?_ ?_ ?_ ?_
    · rcases List.mem_cons.mp hp with rfl | hp
      · exact hrb
      · rcases List.mem_cons.mp hp with rfl | hp
        · exact hIb
        · exact hof p hp
    · simp [Builtin.List.listTooLong, sizeLine_eq]
      omega
    · simp [sizeLine_eq]; omega
    · simp [sizeLine_eq]; omega
    intro h6 F6 N6
    dsimp only
    k_steps
    obtain ⟨us4, ks4, o4, hU4, hl4, N7⟩ : ∃ (us4 : List Value) (ks4 : List Int) (o4 : Obj), IntsAre us4 ks4 ∧ us4.length = 4 ∧ News _ _ _ ((l5, o4) :: (bl, listOf (us ++ us4).toArray (nn' + 1)) :: (r, tup [.int (lowOf n b l) ta, .int (highOf n b l) tb, .int (l : Nat) tc, .ref g]) :: (I, oI) :: offA bl nx) :=
      ⟨_, _, _, .cons _ _ (.cons _ _ (.cons _ _ (.cons _ _ .nil))), rfl, N6⟩
    refine ⟨_, _, _, (bl, listOf (us ++ us4).toArray (nn' + 1)) :: offA bl nx, rfl, F6, fun p hp => ?_, fun p hp => ?_, fun p hp => ?_, bl, us ++ us4, ks ++ ks4, nn' + 1, by with_unfolding_all rfl, .head _, IntsAre.append hU hU4, by rw [List.length_append, hul, hl4]; omega, fun p hp => offA_mem (.tail _ (hsub p hp)) (offA_ne p (hsub p hp))⟩
    · rcases List.mem_cons.mp hp with rfl | hp
      · exact N7 _ (.tail _ (.tail _ (.tail _ (.head _))))
      · rcases List.mem_cons.mp hp with rfl | hp
        · exact N7 _ (.tail _ (.head _))
        · exact N7 _ (.tail _ (.tail _ (.tail _ (.tail _ hp))))
    · rcases List.mem_cons.mp hp with rfl | hp
      · exact fun e => hIb e.symm
      · exact hnI p (offA_sub p hp)
    · rw [List.mem_singleton.mp hp]
      exact .tail _ (hsub _ hrows)
  · rintro m₁ nx h tk hlm ⟨bl, us, ks, nn', hm1, hbl, hU, hul, hsub⟩ F₁ N₁
    have F₂ := fr_knows F₁ [(Str.ofString "edges", .ref bl)] (by simp [hm1])
    clear F₁ F9 N9 N
    dsimp only
    k_steps
    rename Fr _ _ _ _ => F5
    rename News _ _ _ _ => N5
    exact ret _ _ _ _ _ _ _ F5 N5 hbl hU fun p hp => offA_sub p (hsub p hp)

end
end Mine

namespace Mine
open PySem PySem.W PyProof.Rows
theorem fresh_Dg : True := by
  w_top off
  trivial
local macro_rules | `(tactic| k_room) => `(tactic| ktr_room)
local macro_rules | `(tactic| k_mem) => `(tactic| first | exact List.Mem.head _ | (refine' List.mem_cons_of_mem _ ?_; k_mem))
local macro_rules | `(tactic| ktr_enter) => `(tactic| first
  | (refine' code_def ?k1 ?k2 ?k3 ?k4 ?k5 ?kA ?kF ?kK ?k6 ?k7 ?k8 ?k9 ?kB ?_ ?c2 ?c3 ?c4 ?c5; (case kA => exact rfl); (case kF => exact rfl); (case kK => first | exact rfl | assumption); (case k1 => k_asm); (case k2 => k_asm); (case k3 => k_asm); (case k4 => k_asm); (case k5 => k_asm); (case k6 => k_is); (case k7 => k_is); (case k8 => ktr_room); (case k9 => exact BindsTo.of_eq rfl); (case c5 => decide); (case kB => exact locs rfl); (case c2 => exact rfl); (case c3 => exact rfl); (case c4 => exact rfl); k_whole; intro g' L' h' FG' F' N' B' X' T'; (try dsimp only); (try k_lift B'); (try k_fold))
  | (refine' code_defC ?k1 ?k2 ?k3 ?k4 ?k5 ?kA ?kF ?kK ?k6 ?k7 ?k8 ?k9 ?kB ?kD ?_ ?c2 ?c3 ?c4; (case kA => exact rfl); (case kF => exact rfl); (case kK => first | exact rfl | assumption); (case k1 => k_asm); (case k2 => k_asm); (case k3 => k_asm); (case k4 => k_asm); (case k5 => k_asm); (case k6 => k_is); (case k7 => k_is); (case k8 => ktr_room); (case k9 => exact BindsTo.of_eq rfl); (case kB => exact rfl); (case kD => decide +kernel); (case c2 => exact rfl); (case c3 => exact rfl); (case c4 => exact rfl); k_whole; intro g' L' h' tk' cells' FG' F' N' Y' B' X' T' l1; (try k_lt l1); k_cells Y'; (try simp only [List.cons_append, List.nil_append] at N'); (try dsimp only); (try k_lift B'); (try k_fold)))
section
variable {w : World} {mean : ExcName → Option Value} {mg mb : Str → Option Value} {dp un : Nat} {gd : Option (List Code)} {cn : Str} {cs : Scope} {a : Addr} {ccd : Value} {cl : List (Str × Addr)} {outer : List Env} {A₀ : Around} {base h₀ : Heap} {L : Addr} {m : Str → Option Value} {news : List (Addr × Obj)} {s : Shared} {Q E : Value → Shared → Prop}
set_option maxRecDepth 100000 in
set_option maxHeartbeats 8000000 in
theorem digit_tells {l : Addr} {vs : List Value} {ns : List Int} {i : Int} {ti : Tok} (B : Below A₀ base outer h₀) (F : Fr h₀ L s.heap m) (X : (hd.heap_39 w.params).In h₀) (N : News h₀ L s.heap news) (T : Top hd.view_39 (looseW hd.view_39 []) mean mg mb h₀) (hk : cs.kind = .function)
   (hl : base.IsList l vs.toArray) (hi : IntsAre vs ns) (hfit : ns.length ≤ 63) (h0 : 0 ≤ i)
   (hd' : dp + 4 < recursionLimit) (hu : un + 16 < cLine)
   (ret : ∀ (k : Int) t h' tk', Fr h₀ L h' m → News h₀ L h' news → Q (.int k t) { s with heap := h', toks := tk' }) :
   wpAny (model PySem.Challenge.rw_pf0331_01.row.prog w) (ktrTop dp un gd cn cs L a ccd cl outer) (call (.ref 135) [.ref l, .int i ti]) Q E s := by
  revert X; k_fill; intro X
  refine wpAny_call ?_
  k_dflt ktr_enter
  k_steps
  all_goals
    rename Fr _ _ _ _ => F5
    rename News _ _ _ _ => N5
    exact ret _ _ _ _ F5 N5

theorem item_at {prog : Program} {w : World} {A : Around} {E : Value → Shared → Prop} {s : Shared} {h₀ : Heap} {L l : Addr} {news : List (Addr × Obj)} {vs : List Value} {n : Nat} {k : Int} {u : Tok} {v : Value} {value slice : PySem.Expr} {Q : Value → Shared → Prop} (N : News h₀ L s.heap news) (hm : (l, listOf vs.toArray n) ∈ news)
    (h0 : 0 ≤ k) (hfit : k < 2 ^ 63) (hx : vs[k.toNat]? = some v) (h : Q v s)
    (hs : subscripted slice false (.ref l) (.int k u) = operate [.ref l, .int k u] (getItem (.ref l) (.int k u)) := by with_unfolding_all rfl) :
    wpAny (model prog w) A (subscriptTail value slice (.ref l) (.int k u)) Q E s := by
  have hl : s.heap.IsList l vs.toArray := ⟨_, (N _ hm).1, rfl, n, rfl⟩
  exact tail_any hl.typeIs PySem.F.slot_list_getitem.lookup (wpAny_getItem_list hl h0 hfit (by simpa using hx) h) hs

theorem item_row {prog : Program} {w : World} {A : Around} {E : Value → Shared → Prop} {s : Shared} {h₀ : Heap} {L l : Addr} {news rows : List (Addr × Obj)} {us : List Value} {es : List Ent} {n nn i : Nat} {z : Int} {u : Tok} {value slice : PySem.Expr} {Q : Value → Shared → Prop} (N : News h₀ L s.heap news) (hm : (l, listOf us.toArray nn) ∈ news)
    (hR : RowsAre rows n us es) (hel : es.length = i) (h0 : 0 < i) (h8 : i ≤ 8)
    (h : ∀ b l g r ta tb, (r, tup [.int (b : Nat) ta, .int (l : Nat) tb, .ref g]) ∈ rows → Q (.ref r) s)
    (hs : subscripted slice false (.ref l) (.int (z.fmod (0 + (i : Int))) u) = operate [.ref l, .int (z.fmod (0 + (i : Int))) u] (getItem (.ref l) (.int (z.fmod (0 + (i : Int))) u)) := by with_unfolding_all rfl) :
    wpAny (model prog w) A (subscriptTail value slice (.ref l) (.int (z.fmod (0 + (i : Int))) u)) Q E s := by
  have h1 := Int.fmod_nonneg_of_pos z (show (0 : Int) < 0 + (i : Int) by omega)
  have h2 := Int.fmod_lt_of_pos z (show (0 : Int) < 0 + (i : Int) by omega)
  have hlt : (z.fmod (0 + (i : Int))).toNat < us.length := by rw [hR.len, hel]; omega
  have hx := List.getElem?_eq_getElem hlt
  obtain ⟨b, l', g, r, ta, tb, _, hv, hrow, _⟩ := hR.row _ _ hx
  rw [hv] at hx
  exact item_at N hm h1 (by omega) hx (h b l' g r ta tb hrow) hs

structure StartsAre (news : List (Addr × Obj)) (sv : List Value) : Prop where
  row : ∀ (i : Nat) (v : Value), sv[i]? = some v → ∃ (a b : Int) (r : Addr) (t1 t2 : Tok), v = .ref r ∧ (r, tup [.int a t1, .int b t2]) ∈ news
theorem StartsAre.mono {news news' : List (Addr × Obj)} {sv : List Value} (S : StartsAre news sv) (h : ∀ p ∈ news, p ∈ news') : StartsAre news' sv :=
  ⟨fun i v e => let ⟨a, b, r, t1, t2, x, y⟩ := S.row i v e; ⟨a, b, r, t1, t2, x, h _ y⟩⟩
theorem item_start {prog : Program} {w : World} {A : Around} {E : Value → Shared → Prop} {s : Shared} {h₀ : Heap} {L l : Addr} {news rows : List (Addr × Obj)} {sv : List Value} {nn i : Nat} {u : Tok} {value slice : PySem.Expr} {Q : Value → Shared → Prop} (N : News h₀ L s.heap news) (hm : (l, listOf sv.toArray nn) ∈ news)
    (hS : StartsAre rows sv) (hi : i < sv.length) (h8 : sv.length ≤ 8)
    (h : ∀ a b r ta tb, (r, tup [.int a ta, .int b tb]) ∈ rows → Q (.ref r) s)
    (hs : subscripted slice false (.ref l) (.int (0 + (i : Int)) u) = operate [.ref l, .int (0 + (i : Int)) u] (getItem (.ref l) (.int (0 + (i : Int)) u)) := by with_unfolding_all rfl) :
    wpAny (model prog w) A (subscriptTail value slice (.ref l) (.int (0 + (i : Int)) u)) Q E s := by
  have e : (0 + (i : Int)).toNat = i := by omega
  have hx := List.getElem?_eq_getElem hi
  obtain ⟨a, b, r, ta, tb, hv, hrow⟩ := hS.row _ _ hx
  rw [hv] at hx
  exact item_at N hm (by omega) (by omega) (by rw [e]; exact hx) (h a b r ta tb hrow) hs
theorem item_strs3 {prog : Program} {w : World} {A : Around} {E : Value → Shared → Prop} {s : Shared} {h₀ : Heap} {L l : Addr} {news : List (Addr × Obj)} {x y z : Str} {tx ty tz : Tok} {k : Int} {nn : Nat} {u : Tok} {value slice : PySem.Expr} {Q : Value → Shared → Prop} (N : News h₀ L s.heap news) (hm : (l, listOf [.str x tx, .str y ty, .str z tz].toArray nn) ∈ news)
    (h : ∀ r t, Q (.str r t) s)
    (hs : subscripted slice false (.ref l) (.int (k.fmod 3) u) = operate [.ref l, .int (k.fmod 3) u] (getItem (.ref l) (.int (k.fmod 3) u)) := by with_unfolding_all rfl) :
    wpAny (model prog w) A (subscriptTail value slice (.ref l) (.int (k.fmod 3) u)) Q E s := by
  have h1 := Int.fmod_nonneg_of_pos k (show (0 : Int) < 3 by omega)
  have h2 := Int.fmod_lt_of_pos k (show (0 : Int) < 3 by omega)
  obtain ⟨r, t, hx⟩ : ∃ r t, [Value.str x tx, .str y ty, .str z tz][(k.fmod 3).toNat]? = some (.str r t) := by
    have h3 : (k.fmod 3).toNat = 0 ∨ (k.fmod 3).toNat = 1 ∨ (k.fmod 3).toNat = 2 := by omega
    rcases h3 with h3 | h3 | h3 <;> rw [h3]
    · exact ⟨x, tx, rfl⟩
    · exact ⟨y, ty, rfl⟩
    · exact ⟨z, tz, rfl⟩
  exact item_at N hm h1 (by omega) hx (h r t) hs
theorem fmod_nat (z : Int) (p : Int) (hp : 0 < p) : ∃ b : Nat, z.fmod p = (b : Int) ∧ (b : Int) < p := by
  have h1 := Int.fmod_nonneg_of_pos z hp
  have h2 := Int.fmod_lt_of_pos z hp
  exact ⟨(z.fmod p).toNat, by omega, by omega⟩

end
end Mine

namespace Mine
open PySem PySem.W PyProof.Rows
theorem fresh_Tb : True := by
  w_top off
  trivial
local macro_rules | `(tactic| k_room) => `(tactic| ktr_room)
local macro_rules | `(tactic| k_mem) => `(tactic| first | exact List.Mem.head _ | (refine' List.mem_cons_of_mem _ ?_; k_mem))
local macro_rules | `(tactic| ktr_enter) => `(tactic| first
  | (refine' code_def ?k1 ?k2 ?k3 ?k4 ?k5 ?kA ?kF ?kK ?k6 ?k7 ?k8 ?k9 ?kB ?_ ?c2 ?c3 ?c4 ?c5; (case kA => exact rfl); (case kF => exact rfl); (case kK => first | exact rfl | assumption); (case k1 => k_asm); (case k2 => k_asm); (case k3 => k_asm); (case k4 => k_asm); (case k5 => k_asm); (case k6 => k_is); (case k7 => k_is); (case k8 => ktr_room); (case k9 => exact BindsTo.of_eq rfl); (case c5 => decide); (case kB => exact locs rfl); (case c2 => exact rfl); (case c3 => exact rfl); (case c4 => exact rfl); k_whole; intro g' L' h' FG' F' N' B' X' T'; (try dsimp only); (try k_lift B'); (try k_fold))
  | (refine' code_defC ?k1 ?k2 ?k3 ?k4 ?k5 ?kA ?kF ?kK ?k6 ?k7 ?k8 ?k9 ?kB ?kD ?_ ?c2 ?c3 ?c4; (case kA => exact rfl); (case kF => exact rfl); (case kK => first | exact rfl | assumption); (case k1 => k_asm); (case k2 => k_asm); (case k3 => k_asm); (case k4 => k_asm); (case k5 => k_asm); (case k6 => k_is); (case k7 => k_is); (case k8 => ktr_room); (case k9 => exact BindsTo.of_eq rfl); (case kB => exact rfl); (case kD => decide +kernel); (case c2 => exact rfl); (case c3 => exact rfl); (case c4 => exact rfl); k_whole; intro g' L' h' tk' cells' FG' F' N' Y' B' X' T' l1; (try k_lt l1); k_cells Y'; (try simp only [List.cons_append, List.nil_append] at N'); (try dsimp only); (try k_lift B'); (try k_fold)))
section
variable {w : World} {mean : ExcName → Option Value} {mg mb : Str → Option Value} {dp un : Nat} {gd : Option (List Code)} {cn : Str} {cs : Scope} {a : Addr} {ccd : Value} {cl : List (Str × Addr)} {outer : List Env} {A₀ : Around} {base h₀ : Heap} {L : Addr} {m : Str → Option Value} {news : List (Addr × Obj)} {s : Shared} {Q E : Value → Shared → Prop}
local macro_rules | `(tactic| walk_at "eval Call") => `(tactic| ((with_reducible show wpAny _ _ (eval (Expr.Call (Expr.Name _ _) _ _ _) _) _ _ _); k_dflt (refine Call_ ?_)))
local macro_rules | `(tactic| walk_at "exec For Name Call cons nil") => `(tactic| (k_here; (rename Fr _ _ _ _ => lF'); (with_unfolding_all refine' For_G lF' ?_ ?k1; (case k1 => (intro _; rfl)); k_whole)))
local macro_rules | `(tactic| k_all) => `(tactic| assumption)
local macro_rules | `(tactic| walk_at "call ref") => `(tactic| (k_here; k_dflt (refine digit_tells (by k_asm) (by k_asm) (by k_asm) (by k_asm) (by k_asm) (by first | exact rfl | assumption) (by assumption) (by assumption) (by assumption) (by omega) (by ktr_room) (by ktr_units) ?_); intro k' t' h' tk' F' N'; (try dsimp only); (try k_fold)))
theorem len_at {prog : Program} {w : World} {A : Around} {E : Value → Shared → Prop} {s : Shared} {h₀ : Heap} {L l : Addr} {news : List (Addr × Obj)} {vs : List Value} {n : Nat} {Q : Value → Shared → Prop} (N : News h₀ L s.heap news) (hm : (l, listOf vs.toArray n) ∈ news)
    (hfit : vs.length ≤ 1000) (h : Q (.int (vs.length : Int) (s.toks + 1)) { s with toks := s.toks + 1 + 1 }) : wpAny (model prog w) A (call (.builtin "len") [.ref l]) Q E s := by
  have hl : s.heap.IsList l vs.toArray := ⟨_, (N _ hm).1, rfl, n, rfl⟩
  have e : vs.toArray.size = vs.length := by simp
  exact PySem.Calls.call_len_list hl (by rw [e]; omega) (by rw [e]; exact h)
local macro_rules | `(tactic| walk_at "call builtin:len") => `(tactic| (k_here; k_dflt (refine' len_at ?hN ?hm ?hf ?_; (case hN => k_asm); (case hm => k_mem); (case hf => omega)); try dsimp only))
local macro_rules | `(tactic| walk_at "subscriptTail") => `(tactic| ((with_reducible show wpAny _ _ (subscriptTail _ _ (Value.ref _) (Value.int (Int.fmod _ _) _)) _ _ _); refine sub_stop ?_))
local macro_rules | `(tactic| walk_at "subscriptTail") => `(tactic| ((with_reducible show wpAny _ _ (subscriptTail _ _ (Value.ref _) (Value.int (_ + _) _)) _ _ _); refine sub_stop ?_))
theorem table_end {h₀ h' : Heap} {L : Addr} {m' : Str → Option Value} {tb I D g l4 l st : Addr} {oI og ol : Obj} {nx news : List (Addr × Obj)} {us : List Value} {es : List Ent} {n i n2 : Nat} {x y fi : Int} {tx ty ti t1 : Tok} {s₁ : Shared} {tk : Nat} {Q : Flow → Shared → Prop}
    (F : Fr h₀ L h' m') (N : News h₀ L h' ((D, tup [.int x tx, .int y ty, .ref g]) :: (g, og) :: (l4, ol) :: (tb, listOf (us.toArray.push (.ref D)) n2) :: (I, oI) :: offA tb nx)) (hnI : ∀ p ∈ nx, p.1 ≠ I) (hIb : @Ne Nat I tb) (hbD : @LT.lt Nat _ tb D) (hID : @LT.lt Nat _ I D)
    (hx : ∃ b : Nat, x = (b : Int) ∧ (b : Int) < 2 ^ (n : Int).toNat) (hy : ∃ b : Nat, y = (b : Int) ∧ (b : Int) < (n : Int) + 1) (hR : RowsAre (offA tb nx) n us es) (hel : es.length = i) (hsub : ∀ p ∈ news, p ∈ offA tb nx)
    (hm1 : m' (Str.ofString "table") = some (.ref tb)) (hm2 : m' (Str.ofString "script") = some (.ref l)) (hm3 : m' (Str.ofString "first") = some (.int fi ti)) (hm4 : m' (Str.ofString "bits") = some (.int n t1)) (hm5 : m' (Str.ofString "starts") = some (.ref st)) :
    TurnG h₀ L [] (fun m₁ nx => ∃ tb us es nn', m₁ (Str.ofString "table") = some (.ref tb) ∧ m₁ (Str.ofString "script") = some (.ref l) ∧ m₁ (Str.ofString "first") = some (.int fi ti) ∧ m₁ (Str.ofString "bits") = some (.int n t1) ∧ m₁ (Str.ofString "starts") = some (.ref st) ∧ (tb, listOf us.toArray nn') ∈ nx ∧ RowsAre (offA tb nx) n us es ∧ es.length = i + 1 ∧ (∀ p ∈ news, p ∈ offA tb nx)) I oI s₁ Q .next { s₁ with heap := h', toks := tk } := by
  obtain ⟨b, rfl, hb⟩ := hx
  obtain ⟨l', rfl, hl'⟩ := hy
  rw [List.push_toArray] at N
  have hbn : b < 2 ^ n := by
    have e : ((2 : Int) ^ (n : Int).toNat) = ((2 ^ n : Nat) : Int) := by simp
    rw [e] at hb; exact_mod_cast hb
  refine ⟨h', tk, m', (D, tup [.int (b : Nat) tx, .int (l' : Nat) ty, .ref g]) :: (tb, listOf (us ++ [Value.ref D]).toArray n2) :: offA tb nx, rfl, F, fun p hp => ?_, fun p hp => ?_, (fun p hp => (nomatch hp)), tb, us ++ [.ref D], es ++ [(b, l', g)], n2, hm1, hm2, hm3, hm4, hm5, .tail _ (.head _), ?_, by simp [hel], fun p hp => offA_cons2 p (hsub p hp)⟩
  · rcases List.mem_cons.mp hp with rfl | hp
    · exact N _ (.tail _ (.tail _ (.tail _ (.tail _ (.head _)))))
    · rcases List.mem_cons.mp hp with rfl | hp
      · exact N _ (.head _)
      · rcases List.mem_cons.mp hp with rfl | hp
        · exact N _ (.tail _ (.tail _ (.tail _ (.head _))))
        · exact N _ (.tail _ (.tail _ (.tail _ (.tail _ (.tail _ hp)))))
  · rcases List.mem_cons.mp hp with rfl | hp
    · exact Nat.ne_of_gt hID
    · rcases List.mem_cons.mp hp with rfl | hp
      · exact fun e => hIb e.symm
      · exact hnI p (offA_sub p hp)
  · exact (hR.mono offA_cons2).snoc (offA_mem (.head _) (Nat.ne_of_gt hbD)) hbn (by omega)
set_option maxRecDepth 100000 in
set_option maxHeartbeats 8000000 in
theorem table_tells {l st : Addr} {vs sv : List Value} {ns : List Int} {fi : Int} {ti t1 : Tok} {n ni : Nat} (B : Below A₀ base outer h₀) (F : Fr h₀ L s.heap m) (X : (hd.heap_39 w.params).In h₀) (N : News h₀ L s.heap news) (T : Top hd.view_39 (looseW hd.view_39 []) mean mg mb h₀) (hk : cs.kind = .function)
   (hl : base.IsList l vs.toArray) (hi : IntsAre vs ns) (hfit : ns.length ≤ 63) (hf0 : 0 ≤ fi) (hf1 : fi ≤ 100)
   (hst : (st, listOf sv.toArray ni) ∈ news) (hS : StartsAre news sv) (hsl : sv.length ≤ 8)
   (hn : n ≤ 128) (hd' : dp + 16 < recursionLimit) (hu : un + 64 < cLine)
   (ret : ∀ h' tk' tb us es nn' news', Fr h₀ L h' m → News h₀ L h' news' → (tb, listOf (List.toArray us) nn') ∈ news' → RowsAre news' n us es → es.length ≤ 8 → (∀ p ∈ news, p ∈ news') → Q (.ref tb) { s with heap := h', toks := tk' }) :
   wpAny (model PySem.Challenge.rw_pf0331_01.row.prog w) (ktrTop dp un gd cn cs L a ccd cl outer) (call (.ref 142) [.ref l, .int fi ti, .int n t1, .ref st]) Q E s := by
  revert X; k_fill; intro X
  replace N := news_dup N hst
  refine wpAny_call ?_
  k_dflt ktr_enter
  k_steps
  rename_i l9 _ l1 _ _ _ k9 _ _ _ _ _ _ _ t9 u9 v9 hr9 F9 N9 _
  obtain ⟨c, hc, hc8⟩ : ∃ c : Nat, (sv.length : Int) - k9.fmod ((sv.length : Int) + 1) = (c : Int) ∧ c ≤ sv.length := by
    have h1 := Int.fmod_nonneg_of_pos k9 (show (0 : Int) < (sv.length : Int) + 1 by omega)
    have h2 := Int.fmod_lt_of_pos k9 (show (0 : Int) < (sv.length : Int) + 1 by omega)
    exact ⟨((sv.length : Int) - k9.fmod ((sv.length : Int) + 1)).toNat, by omega, by omega⟩
  rw [hc] at hr9
  refine loopG_range (n := c) (fun i m₁ nx => ∃ tb us es nn', m₁ (Str.ofString "table") = some (.ref tb) ∧ m₁ (Str.ofString "script") = some (.ref l) ∧ m₁ (Str.ofString "first") = some (.int fi ti) ∧ m₁ (Str.ofString "bits") = some (.int n t1) ∧ m₁ (Str.ofString "starts") = some (.ref st) ∧ (tb, listOf us.toArray nn') ∈ nx ∧ RowsAre (offA tb nx) n us es ∧ es.length = i ∧ (∀ p ∈ news, p ∈ offA tb nx)) rfl hr9 ?_ ?_ F9 N9 ⟨l9, [], [], _, rfl, rfl, rfl, rfl, rfl, .head _, RowsAre.nil, rfl, fun p hp => offA_mem (.tail _ (.tail _ hp)) (Nat.ne_of_lt (allLt_mem _ l1.2 p hp))⟩ ?_ ?_
  · exact small_one (by omega) (by omega) (by omega) (by omega)
  · have := rangeSize_nat 0 (c : Int)
    simpa using this
  · rintro i t m₁ nx h tk oI I hi hnI ⟨tb, us, es, nn', hm1, hm2, hm3, hm4, hm5, htb, hR, hel, hsub⟩ F₁ N₁
    have hst' := hsub _ hst
    have F₂ := fr_knows F₁ [(Str.ofString "table", .ref tb), (Str.ofString "script", .ref l), (Str.ofString "first", .int fi ti), (Str.ofString "bits", .int n t1), (Str.ofString "starts", .ref st)] (by simp [hm1, hm2, hm3, hm4, hm5])
    have N₂ := News_cons3 N₁ htb
    have hIb : @Ne Nat I tb := fun e => hnI _ htb e.symm
    have hof := @offA_ne tb nx
    have hus : us.length ≤ 8 := by have := hR.len; omega
    have hS' := hS.mono hsub
    have hisl : i < sv.length := by omega
    clear N₁ N9 N F₁ F9
    rcases Nat.eq_zero_or_pos i with h0 | h0
    · k_steps
      unfold SubStop
      refine item_start (by k_asm) (.tail _ (.tail _ hst')) hS' hisl hsl ?_
      intro a6 b6 r6 ta6 tb6 hr6
      dsimp only
      k_steps
      unfold SubStop
      refine item_strs3 (by k_asm) (by k_mem) ?_
      intro x7 t7
      dsimp only
      k_steps
      all_goals
        unfold SubStop
        refine item_start (by k_asm) (.tail _ (.tail _ (.tail _ hst'))) hS' hisl hsl ?_
        intro a8 b8 r8 ta8 tb8 hr8
        dsimp only
        k_steps
        rename Fr _ _ _ _ => F5
        rename News _ _ _ _ => N5
        rename_i _ _ _ D5 _ lD _
        exact table_end F5 N5 hnI hIb lD.2.2.1 lD.2.2.2.1 (fmod_nat _ _ (pow2_pos _)) (fmod_nat _ _ (by omega)) hR hel hsub (by with_unfolding_all rfl) (by with_unfolding_all rfl) (by with_unfolding_all rfl) (by with_unfolding_all rfl) (by with_unfolding_all rfl)
    · k_steps
      unfold SubStop
      refine item_row (by k_asm) (by k_mem) hR hel h0 (by omega) ?_
      intro b5 l5 g5 r5 ta5 tb5 hr5
      dsimp only
      k_steps
      unfold SubStop
      refine item_start (by k_asm) (.tail _ (.tail _ hst')) hS' hisl hsl ?_
      intro a6 b6 r6 ta6 tb6 hr6
      dsimp only
      k_steps
      unfold SubStop
      refine item_strs3 (by k_asm) (by k_mem) ?_
      intro x7 t7
      dsimp only
      k_steps
      all_goals
        unfold SubStop
        refine item_start (by k_asm) (.tail _ (.tail _ (.tail _ hst'))) hS' hisl hsl ?_
        intro a8 b8 r8 ta8 tb8 hr8
        dsimp only
        k_steps
        rename Fr _ _ _ _ => F5
        rename News _ _ _ _ => N5
        rename_i _ _ _ D5 _ lD _
        exact table_end F5 N5 hnI hIb lD.2.2.1 lD.2.2.2.1 (fmod_nat _ _ (pow2_pos _)) (fmod_nat _ _ (by omega)) hR hel hsub (by with_unfolding_all rfl) (by with_unfolding_all rfl) (by with_unfolding_all rfl) (by with_unfolding_all rfl) (by with_unfolding_all rfl)
  · rintro m₁ nx h tk ⟨tb, us, es, nn', hm1, hm2, hm3, hm4, hm5, htb, hR, hel, hsub⟩ F₁ N₁
    have F₂ := fr_knows F₁ [(Str.ofString "table", .ref tb)] (by simp [hm1])
    clear F₁ F9 N9 N
    dsimp only
    k_steps
    rename Fr _ _ _ _ => F5
    rename News _ _ _ _ => N5
    exact ret _ _ _ _ _ _ _ F5 N5 htb (hR.mono offA_sub) (by omega) fun p hp => offA_sub p (hsub p hp)

end
end Mine

namespace Mine
open PySem PySem.W PyProof.Rows PySem.Calls
set_option maxRecDepth 100000

/-- an exception of an own class, its tuple of arguments, its own dict -/
abbrev excOf (C : Addr) (od : Option Addr) (t : Addr) : Obj := { cls := .ref C, dict := od, data := .fields #[.ref t, .none, .none, .none, .bool false, .none] }

section
variable {M : Model} {A : Around} {E : Value → Shared → Prop} {h : Heap} {g : Array GenState} {d : Drawn} {t : Nat} {os : OsState}
variable {nm q : Str} {C N : Addr} {bs bm bmB : List Value} {hdct : Bool} {sn : List Str} {sub : List Value} {ab : Bool} {col : Option Bool} {dd : Option Addr} {k0 k1 k2 k3 k5 : Option Value} {B newId initId : String}

theorem excNew_check (F : ExcBaseFacts B newId initId bmB) (hB : bm.contains (.type B) = true) {rest : List Value} {Q : Unit → Shared → Prop} (hC : h.get? C = some (excClassObj nm q C N bs bm hdct sn sub ab col dd k0 k1 k2 k3 k5 newId))
    (hq : Q () ⟨h, g, d, t, os⟩) : wpAny M A (checkBuiltinCall newId ⟨.ref C :: rest, []⟩) Q E ⟨h, g, d, t, os⟩ := by
  have hcont : (Value.ref C :: bm).contains (.type B) = true := by rw [List.contains_cons, hB, Bool.or_true]
  have hstar := F.noStar
  simp only [checkBuiltinCall, F.newKind, F.newSplit, F.newRow]
  repeat (first | refine wpAny_loadPart_at hC ?_ | (refine wpAny_isSubtype_exc hC ?_; rw [hcont]) | refine wpAny_staticBase_exc hC ?_ | refine wpAny_madeBy_exc hC ?_ | simp only [bne_self_eq_false, Bool.false_eq_true, if_false] | wp_step)
  exact hq
end

section
variable {prog : Program} {w : World} {A : Around} {R : Result → Shared → Prop} {h : Heap} {g : Array GenState} {d : Drawn} {t : Nat} {os : OsState}
variable {nm q : Str} {C N : Addr} {bs bm bmB : List Value} {hdct : Bool} {sn : List Str} {sub : List Value} {ab : Bool} {col : Option Bool} {dd : Option Addr} {k0 k1 k2 k3 k5 : Option Value} {B newId initId : String}

theorem excNew_run (F : ExcBaseFacts B newId initId bmB) (hB : bm.contains (.type B) = true) (hA : bm.contains (.type "AttributeError") = false) (hN : bm.contains (.type "NameError") = false) {rest : List Value} (hC : h.get? C = some (excClassObj nm q C N bs bm hdct sn sub ab col dd k0 k1 k2 k3 k5 newId))
    (hq : R (.ok (.ret (.ref (h.objs.size + 1)))) ⟨(h.push (tup rest)).push (excOf C none h.objs.size), g, d, t, os⟩) (hrest : rest.length ≤ sizeLine := by size_fits) :
    codeAny (model prog w) A (.builtin newId ⟨.ref C :: rest, []⟩) R ⟨h, g, d, t, os⟩ := by
  have hends := F.ends
  have hcB : (Value.ref C :: bm).contains (.type B) = true := by rw [List.contains_cons, hB, Bool.or_true]
  have hcA : (Value.ref C :: bm).contains (.type "AttributeError") = false := by rw [List.contains_cons, hA]; rfl
  have hcN : (Value.ref C :: bm).contains (.type "NameError") = false := by rw [List.contains_cons, hN]; rfl
  refine codeAny_builtinAt F.entry ?_
  unfold Builtin.«BaseException.__new__»
  refine PySem.wpAt_bind ?_
  show PySem.wpAt _ _ _ (stack >>= _) _ _ _
  refine PySem.wpAt_bind (PySem.wpAt_stack fun p below => PySem.wpAt_of_wpAny ?_)
  wp_walk
  refine PySem.wpAt_of_wpAny ?_
  rw [F.owner]
  repeat (first | with_reducible refine wpAny_madeHere_exc F.canon hC ?_ | with_reducible refine wpAny_loadPart_at hC ?_ | (with_reducible refine wpAny_isSubtype_exc hC ?_; first | rw [hcB] | rw [hcA] | rw [hcN]) | wp_step)
  show R _ _
  rw [Heap.size_push]
  exact hq

/-- an own exception class is called, whose __init__ is a def of the text's, its own or an own base's -/
theorem exc_make {fI : Addr} (F : ExcBaseFacts B newId initId bmB) (hB : bm.contains (.type B) = true) (hA : bm.contains (.type "AttributeError") = false) (hN : bm.contains (.type "NameError") = false) {rest : List Value}
    (hC : h.get? C = some (excClassObj nm q C N bs bm hdct sn sub ab col dd k0 k1 k2 k3 k5 newId)) (hi : Looks (model prog w) h (typeLookup (.ref C) "__init__") (some (.ref fI))) (hb : ∀ self, Looks (model prog w) h (bindSpecial (.ref fI) self) (.ref fI, [self]))
    (hq : codeAny (model prog w) (A.under (.builtin "type.__call__" ⟨.ref C :: rest, []⟩)) (.call (.ref fI) ⟨.ref (h.objs.size + 1) :: rest, []⟩) (InitBack (h.objs.size + 1) R) ⟨(h.push (tup rest)).push (excOf C none h.objs.size), g, d, t, os⟩) (hrest : rest.length ≤ sizeLine := by size_fits) :
    codeAny (model prog w) A (.call (.ref C) ⟨rest, []⟩) R ⟨h, g, d, t, os⟩ := by
  have f1 := tc_lookup
  have f2 := tc_bind (.ref C)
  have hT : (⟨h, g, d, t, os⟩ : Shared).TypeIs (.ref C) "type" := ⟨_, hC, rfl⟩
  refine codeAny_of_tree ?_
  show wpAny _ _ (callAny (.ref C) _) _ _ _
  repeat (any_goals (first | assumption | with_reducible refine wpAny_loadPart_at hC ?_ | wp_step))
  refine ⟨rfl, ?_⟩
  refine codeAny_call_builtin_at (Code.quiet_builtin _ (by decide +kernel)) entry_typeCall (wpAny_check_type_call_sub hC ?_)
  show wpAny (model prog w) (A.under (.builtin "type.__call__" ⟨.ref C :: rest, []⟩)) (Builtin.«type.__call__» ⟨.ref C :: rest, []⟩) _ _ _
  repeat (first | with_reducible refine wpAny_loadPart_at hC ?_ | with_reducible refine wpAny_madeBy_exc hC ?_ | wp_step)
  refine codeAny_call_builtin_code (Code.quiet_builtin _ F.quiet) (excNew_check F hB hC ?_)
  refine excNew_run F hB hA hN hC ?_ hrest
  show wpAny _ _ _ _ _ _
  have kp : ∀ b o, h.get? b = some o → ((h.push (tup rest)).push (excOf C none h.objs.size)).get? b = some o := fun b o e => Heap.get?_push_of_some _ (Heap.get?_push_of_some _ e)
  have hC₁ := kp _ _ hC
  have hget : ((h.push (tup rest)).push (excOf C none h.objs.size)).get? (h.objs.size + 1) = some { cls := .ref C, data := .fields #[.ref h.objs.size, .none, .none, .none, .bool false, .none] } := by heap_get
  have hcC : (Value.ref C :: bm).contains (.ref C) = true := by simp
  unfold isInstance
  repeat (first | with_reducible refine wpAny_loadPart_at hget ?_ | (with_reducible refine wpAny_isSubtype_exc hC₁ ?_; rw [hcC]) | wp_step)
  show wpAny _ _ (typeLookup (.ref C) _) _ _ _
  refine (hi.keeps kp).at ?_
  refine wpAny_holding (wpAny_bind (((hb _).keeps kp).at ?_))
  refine wpAny_bind (wpAny_call (codeAny_mono hq fun r s' z => ?_))
  rcases r with e | (v | _ | _ | _) <;> first | exact z | exact z.elim | skip
  obtain ⟨rfl, z⟩ := z
  exact wpAny_pure (wpAny_pure z)
end
end Mine

namespace Mine
open PySem PySem.W PyProof.Rows PySem.Calls
set_option maxRecDepth 100000
/-- what an own exception must be where it is raised -/
def OwnRaise (C : Addr) (E : Value → Shared → Prop) (v : Value) (s₁ : Shared) : Prop :=
  ∃ (e t : Addr) (od : Option Addr) (nm q : Str) (N : Addr) (bs bm : List Value) (hdct : Bool) (sn : List Str) (sub : List Value) (ab : Bool) (col : Option Bool) (dd : Option Addr) (k0 k1 k2 k3 k5 : Option Value) (newId : String),
    v = .ref e ∧ s₁.heap.get? C = some (excClassObj nm q C N bs bm hdct sn sub ab col dd k0 k1 k2 k3 k5 newId) ∧ bm.contains (.type "BaseException") = true ∧
      s₁.heap.get? e = some { cls := .ref C, dict := od, data := .fields #[.ref t, .none, .none, .none, .bool false, .none] } ∧ E (.ref e) s₁

section
variable {prog : Program} {w : World} {A : Around} {E : Value → Shared → Prop} {s : Shared} {env : Env}
theorem raiseStmt_own {C : Addr} {x : Sem Value} {Q : Flow → Shared → Prop} (hh : A.handled = none) (h : wpAny (model prog w) A x (OwnRaise C E) E s) : wpAny (model prog w) A (raiseStmt env (some x) none) Q E s := by
  unfold raiseStmt
  refine wpAny_bind (wpAny_mono h (fun v s₁ h₁ => ?_) fun _ _ x => x)
  obtain ⟨e, t, od, nm, q, N, bs, bm, hdct, sn, sub, ab, col, dd, k0, k1, k2, k3, k5, newId, rfl, hC, hbase, he, hE⟩ := h₁
  have hcB : (Value.ref C :: bm).contains (.type "BaseException") = true := by rw [List.contains_cons, hbase, Bool.or_true]
  obtain ⟨hp, g, d, tk, os⟩ := s₁
  repeat (first | with_reducible refine wpAny_loadPart_at he ?_ | with_reducible refine wpAny_loadPart_at hC ?_ | (with_reducible refine wpAny_isSubtype_exc hC ?_; rw [hcB]) | wp_step)
  exact wpAny_raiseNew_none hh hE
theorem raise_own (C : Addr) {x : Expr} {pos : Pos} {Q : Flow → Shared → Prop} {h₀ : Heap} {L : Addr} {m : Str → Option Value} (_F : Fr h₀ L s.heap m) (hh : A.handled = none) (h : wpAny (model prog w) A (eval x env) (OwnRaise C E) E s) :
    wpAny (model prog w) A (exec (.Raise (some x) none pos) env) Q E s := by
  rw [arm_exec_Raise]
  refine wpAny_bind (wpAny_standAt (raiseStmt_own (C := C) hh ?_))
  exact wpAny_bind (wpAny_mono h (fun v s₃ h₃ => wpAny_bind (wpAny_standAt (wpAny_pure h₃))) fun _ _ x => x)
end

section
variable {prog : Program} {w : World} {A : Around} {E : Value → Shared → Prop} {s : Shared} {K : Frag} {C L fI : Addr} {h₀ : Heap} {m : Str → Option Value} {news : List (Addr × Obj)} {Q : Value → Shared → Prop}
variable {nm q : Str} {N : Addr} {bs bm bmB : List Value} {hdct : Bool} {sn : List Str} {sub : List Value} {ab : Bool} {col : Option Bool} {dd : Option Addr} {k0 k1 k2 k3 k5 : Option Value} {B newId initId : String}
theorem exc_make_K (F : Fr h₀ L s.heap m) (X₀ : K.In h₀) (Nw : News h₀ L s.heap news) (Fx : ExcBaseFacts B newId initId bmB) {rest : List Value}
    (hC : K.lookup C = some (excClassObj nm q C N bs bm hdct sn sub ab col dd k0 k1 k2 k3 k5 newId)) (hB : bm.contains (.type B) = true) (hA : bm.contains (.type "AttributeError") = false) (hN : bm.contains (.type "NameError") = false)
    (hi : findIn K (.ref C) "__init__" = some (some (.ref fI))) (hf : isFn K (.ref fI) = true) (hrest : rest.length ≤ sizeLine)
    (h : ∀ e t h', Fr h₀ L h' m → News h₀ L h' ((e, excOf C none t) :: (t, tup rest) :: news) → (∀ p ∈ news, p.1 < t) → t < e →
      codeAny (model prog w) (A.under (.builtin "type.__call__" ⟨.ref C :: rest, []⟩)) (.call (.ref fI) ⟨.ref e :: rest, []⟩) (InitBack e fun r s' => match r with | .ok (.ret v) => Q v s' | .ok _ => False | .error e => E e s') { s with heap := h' }) :
    wpAny (model prog w) A (call (.ref C) rest) Q E s := by
  obtain ⟨hh, g, d, t, os⟩ := s
  have X := X₀.keeps F.keep
  refine wpAny_call (exc_make Fx hB hA hN (X _ _ hC) (looks_findIn X hi) (fun self => bind_fn X self (beq_iff_eq.mp hf)) ?_ hrest)
  refine h _ hh.objs.size _ ((F.push _).push _) ?_ (fun p hp => Heap.lt_size (Nw p hp).1) (Nat.lt_succ_self _)
  have := (Nw.push F (tup rest)).push (F.push _) (excOf C none hh.objs.size)
  rwa [Heap.size_push] at this
end
end Mine

namespace Mine
open PySem PySem.W PyProof.Rows PySem.Calls PySem.Builtin PySem.Builtin.ObjectAttr
set_option maxRecDepth 100000

/-- the classes behind the own ones are Exception's -/
def excTail : List Value → Bool
  | [.type a, .type b, .type c] => a == "Exception" && b == "BaseException" && c == "object"
  | .ref _ :: r => excTail r
  | _ => false
theorem excTail_passes (self : Value) : ∀ {l : List Value}, excTail l = true → refuseLoop self "__setattr__" l = pure ()
  | [.type a, .type b, .type c], e => by
    simp only [excTail, Bool.and_eq_true, beq_iff_eq] at e
    obtain ⟨⟨rfl, rfl⟩, rfl⟩ := e
    exact PySem.F.store_Exception.passes self
  | .ref c :: r, e => by rw [refuseLoop_ref]; exact excTail_passes self (l := r) (by unfold excTail at e; exact e)
theorem excTail_has : ∀ {l : List Value}, excTail l = true → l.contains (.type "object") = true ∧ l.contains (.type "BaseException") = true
  | [.type a, .type b, .type c], e => by
    simp only [excTail, Bool.and_eq_true, beq_iff_eq] at e
    obtain ⟨⟨rfl, rfl⟩, rfl⟩ := e
    exact ⟨by decide, by decide⟩
  | .ref c :: r, e => by
    obtain ⟨x, y⟩ := excTail_has (l := r) (by unfold excTail at e; exact e)
    exact ⟨by rw [List.contains_cons, x, Bool.or_true], by rw [List.contains_cons, y, Bool.or_true]⟩
theorem excTail_ne : ∀ {l : List Value}, excTail l = true → l.isEmpty = false
  | [.type _, .type _, .type _], _ => rfl
  | .ref _ :: _, _ => rfl
def excOver (K : Frag) (C : Addr) : Bool := (clsIn K C).any fun cd => excTail cd.mro
theorem excOver_of {K : Frag} {nm q : Str} {C N : Addr} {bs bm : List Value} {hdct : Bool} {sn : List Str} {sub : List Value} {ab : Bool} {col : Option Bool} {dd : Option Addr} {k0 k1 k2 k3 k5 : Option Value} {newId : String}
    (hC : K.lookup C = some (excClassObj nm q C N bs bm hdct sn sub ab col dd k0 k1 k2 k3 k5 newId)) (hb : excTail bm = true) : excOver K C = true := by
  unfold excOver clsIn
  rw [hC]
  exact hb

section
variable {prog : Program} {w : World} {A : Around} {E : Value → Shared → Prop} {s : Shared} {K : Frag} {x C L e : Addr} {h₀ : Heap} {m : Str → Option Value} {R : Result → Shared → Prop}

theorem exc_osa {ox : Obj} {od : Option Obj} {name : Str} {tk : Tok} {v : Value} {r : Option Value} (X : K.In s.heap) (I : InstAt s.heap x ox C od) (hp : excOver K C = true) (ht : takerIn K C name = some r)
    (h : ∀ b, wpAny (model prog w) A.in1 (match r with | some a => setByDescriptor a (.ref x) v | none => storeInOwnDict (.ref x) (.ref C) (.str name tk) name v b)
      (fun fin s' => match fin with | .done f => R (.ok f) s' | .again c' => c'.quiet = true ∧ codeAny (model prog w) A c' R s') (fun e s' => R (.error e) s') s) :
    codeAny (model prog w) A (.call (.builtin "object.__setattr__") ⟨[.ref x, .str name tk, v], []⟩) R s := by
  have SF := PySem.F.store_object
  obtain ⟨cd, hc, ho⟩ := any_some hp
  have ne := excTail_ne ho
  have sub : Looks (model prog w) s.heap (isInstance (.ref x) (.type "object")) true := I.type.andThen (looks_mroIn X (by unfold mroIn; rw [hc, Option.bind_some, if_neg (by rw [ne]; decide), (excTail_has ho).1]))
  refine codeAny_call_builtin SF.slot.plain SF.entry (@check_slot (model prog w) _ _ s "object.__setattr__" "object" "__setattr__" (.ref x) [.str name tk, v] [] _ SF.kind SF.split sub (SF.args (.ref x) (.str name tk) v) ?_)
  obtain ⟨attr, ha, hr⟩ := Option.bind_eq_some_iff.mp ht
  have hm : Looks (model prog w) s.heap (mroOf (.ref C)) cd.mro := (looks_clsIn X hc).andThen .now
  have L3 : Looks (model prog w) s.heap (storeTaker? attr) r := by
    cases attr with
    | none => cases hr; exact .now
    | some a =>
      obtain ⟨b, hb, rfl⟩ := Option.map_eq_some_iff.mp hr
      refine (looks_takesIn X hb).andThen ?_
      cases b <;> exact .now
  rw [osa_eq, refuse_eq]
  refine wpAny_bind (wpAny_bind (I.type.here (wpAny_bind (hm.here ?_))))
  rw [excTail_passes _ ho]
  refine wpAny_pure (wpAny_bind (I.type.here (wpAny_bind ((looks_findIn X ha).here (wpAny_bind (L3.here ?_))))))
  exact h _

/-- the first name that is set on an own exception: its dict is made -/
theorem exc_set_new {Q : Unit → Shared → Prop} {pre post : List (Addr × Obj)} {name : Str} {v : Value} {t : Addr} (F : Fr h₀ L s.heap m) (X₀ : K.In h₀) (N : News h₀ L s.heap (pre ++ (x, excOf C none t) :: post))
    (hs : findIn K (.ref C) "__setattr__" = some (some (.builtin "object.__setattr__"))) (hp : excOver K C = true) (ht : takerIn K C name = some none) (hh : hasDictIn K C = true) (h1 : ∀ p ∈ pre, p.1 ≠ x) (h2 : ∀ p ∈ post, p.1 ≠ x)
    (h : ∀ d h', Fr h₀ L h' m → News h₀ L h' ((d, dictOf [⟨PyData.keyHash w.params name, .str name (s.toks + 1), v⟩] 1) :: (pre ++ (x, excOf C (some d) t) :: post)) → (∀ p ∈ pre ++ (x, excOf C (some d) t) :: post, p.1 < d) → Q () { s with heap := h', toks := s.toks + 2 }) :
    wpAny (model prog w) A (setAttr (.ref x) name v) Q E s := by
  obtain ⟨hp0, g, dr, tk, os⟩ := s
  have X := X₀.keeps F.keep
  have hx : hp0.get? x = some (excOf C none t) := (N (x, excOf C none t) (by simp)).1
  have I : InstAt hp0 x (excOf C none t) C none := ⟨hx, rfl, rfl, trivial⟩
  refine set_plain X I hs ?_
  refine exc_osa (s := ⟨hp0, g, dr, tk + 1, os⟩) X I hp ht fun b => ?_
  obtain ⟨cd, hc, hd'⟩ := any_some hh
  have NP := News.push F N (dictOf [] 0)
  have FP := F.push (dictOf [] 0)
  obtain ⟨U1, U2⟩ := news_upd (pre := (hp0.objs.size, dictOf [] 0) :: pre) (o' := excOf C (some hp0.objs.size) t) (f := fun o => { o with dict := some hp0.objs.size }) FP NP
    (fun p hp => by
      rcases List.mem_cons.mp hp with rfl | hp
      · exact Nat.ne_of_gt (Heap.lt_size hx)
      · exact h1 p hp) h2 rfl rfl
  have lt : ∀ p ∈ pre ++ (x, excOf C none t) :: post, p.1 < hp0.objs.size := fun p hp => Heap.lt_size (N p hp).1
  have lt' : ∀ p ∈ pre ++ (x, excOf C (some hp0.objs.size) t) :: post, p.1 < hp0.objs.size := fun p hp => by
    rcases List.mem_append.mp hp with q | q
    · exact lt p (List.mem_append_left _ q)
    · rcases List.mem_cons.mp q with rfl | q
      · exact lt (x, excOf C none t) (by simp)
      · exact lt p (List.mem_append_right _ (List.mem_cons_of_mem _ q))
  obtain ⟨V1, V2⟩ := news_upd (pre := []) (d := hp0.objs.size) (o := dictOf [] 0) (o' := dictOf [⟨PyData.keyHash w.params name, .str name (tk + 1), v⟩] 1) (f := Obj.putName name (PyData.keyHash w.params name) (.str name (tk + 1)) v) U1 U2
    (fun p hp => nomatch hp) (fun p hp => Nat.ne_of_lt (lt' p hp)) (by rw [putName_dict]; rfl) rfl
  have D : ((hp0.push (dictOf [] 0)).update x fun o => { o with dict := some hp0.objs.size }).get? hp0.objs.size = some (dictOf [] 0) := (U2 (hp0.objs.size, dictOf [] 0) (by simp)).1
  have D' : (((hp0.push (dictOf [] 0)).update x fun o => { o with dict := some hp0.objs.size }).update hp0.objs.size (Obj.putName name (PyData.keyHash w.params name) (.str name (tk + 1)) v)).get? hp0.objs.size = some (dictOf [⟨PyData.keyHash w.params name, .str name (tk + 1), v⟩] 1) := (V2 (hp0.objs.size, dictOf [⟨PyData.keyHash w.params name, .str name (tk + 1), v⟩] 1) (by simp)).1
  refine wpAny_bind (wpAny_pure (wpAny_bind (wpAny_bind (wpAny_loadPart hx (wpAny_bind ((looks_clsIn X hc).at ?_))))))
  rw [hd']
  refine wpAny_bind (wpAny_alloc' ?_)
  refine wpAny_bind (wpAny_update' (Heap.get?_push_of_some _ hx) ?_)
  refine wpAny_pure (a := some hp0.objs.size) (wpAny_bind (wpAny_pure (wpAny_bind ?_)))
  unfold nsSet
  refine wpAny_bind (wpAny_bind (wpAny_askSetting (wpAny_pure (wpAny_bind (wpAny_mkText (wpAny_bind (wpAny_loadPart D ?_)))))))
  dsimp only
  rw [aRefKeyMayBeTheName_at, if_neg (by simp)]
  refine wpAny_updatePart D ?_
  refine wpAny_bind (wpAny_lookBehind D' (pastItsLine_dict (by rw [List.size_toArray, sizeLine_eq]; simp)) ?_)
  exact wpAny_pure (h _ _ V1 V2 lt')

/-- a later name that is set on an own exception: its dict is there -/
theorem exc_set {Q : Unit → Shared → Prop} {pre post : List (Addr × Obj)} {name : Str} {v : Value} {t d : Addr} {es es' : List DictEntry} {n n' : Nat} (F : Fr h₀ L s.heap m) (X₀ : K.In h₀) (N : News h₀ L s.heap (pre ++ (d, dictOf es n) :: post)) (hx : (x, excOf C (some d) t) ∈ pre ++ (d, dictOf es n) :: post)
    (hs : findIn K (.ref C) "__setattr__" = some (some (.builtin "object.__setattr__"))) (hp : excOver K C = true) (ht : takerIn K C name = some none) (hh : hasDictIn K C = true) (hl : (getL name es).isSome = true)
    (e : (putL name (PyData.keyHash w.params name) (.str name (s.toks + 1)) v es, putN name es n) = (es', n')) (hz : es'.length ≤ 1000) (h1 : ∀ p ∈ pre, p.1 ≠ d) (h2 : ∀ p ∈ post, p.1 ≠ d)
    (h : ∀ h', Fr h₀ L h' m → News h₀ L h' (pre ++ (d, dictOf es' n') :: post) → Q () { s with heap := h', toks := s.toks + 2 }) :
    wpAny (model prog w) A (setAttr (.ref x) name v) Q E s := by
  obtain ⟨e1, e2⟩ := Prod.mk.inj e
  obtain ⟨hp0, g, dr, tk, os⟩ := s
  have X := X₀.keeps F.keep
  have hxx : hp0.get? x = some (excOf C (some d) t) := (N _ hx).1
  have D : hp0.get? d = some (dictOf es n) := (N (d, dictOf es n) (by simp)).1
  have I : InstAt hp0 x (excOf C (some d) t) C (some (dictOf es n)) := ⟨hxx, rfl, rfl, D⟩
  refine set_plain X I hs ?_
  refine exc_osa (s := ⟨hp0, g, dr, tk + 1, os⟩) X I hp ht fun b => ?_
  obtain ⟨cd, hc, hd'⟩ := any_some hh
  obtain ⟨V1, V2⟩ := news_upd (o' := dictOf es' n') (f := Obj.putName name (PyData.keyHash w.params name) (.str name (tk + 1)) v) F N h1 h2 (by rw [putName_dict, e1, e2]) rfl
  have D' : (hp0.update d (Obj.putName name (PyData.keyHash w.params name) (.str name (tk + 1)) v)).get? d = some (dictOf es' n') := (V2 (d, dictOf es' n') (by simp)).1
  refine wpAny_bind (wpAny_pure (wpAny_bind (wpAny_bind (wpAny_loadPart hxx (wpAny_bind ((looks_clsIn X hc).at ?_))))))
  rw [hd']
  refine wpAny_pure (a := some d) (wpAny_bind (wpAny_pure (wpAny_bind ?_)))
  unfold nsSet
  refine wpAny_bind (wpAny_bind (wpAny_askSetting (wpAny_pure (wpAny_bind (wpAny_mkText (wpAny_bind (wpAny_loadPart D ?_)))))))
  dsimp only
  have c : (!es.toArray.any (·.key.isStr name) && es.toArray.any (·.refKey)) = false := by
    rw [List.any_toArray, List.any_toArray]
    unfold getL at hl
    split at hl
    · rename_i en he
      rw [List.any_eq_true.mpr ⟨en, List.mem_of_find?_eq_some he, List.find?_some he⟩]; rfl
    · split at hl
      · cases hl
      · rename_i z; rw [Bool.not_eq_true] at z; rw [z, Bool.and_false]
  rw [aRefKeyMayBeTheName_at, c]
  refine wpAny_updatePart D ?_
  refine wpAny_bind (wpAny_lookBehind D' (pastItsLine_dict (by rw [List.size_toArray, sizeLine_eq]; omega)) ?_)
  exact wpAny_pure (h _ V1 V2)

/-- a name that an own exception's dict holds -/
theorem exc_get {Q : Value → Shared → Prop} {ox : Obj} {expr : Bool} {attr : Option Value} {name : Str} {v : Value} {es : List DictEntry} {n : Nat} (F : Fr h₀ L s.heap m) (X₀ : K.In h₀) (I : InstAt s.heap x ox C (some (dictOf es n)))
    (hga : findIn K (.ref C) "__getattribute__" = some (some (.builtin "BaseException.__getattribute__"))) (hgn : findIn K (.ref C) "__getattr__" = some none) (hp : excOver K C = true) (hh : hasDictIn K C = true)
    (ha : findIn K (.ref C) name = some attr) (hn : noGet K attr = true) (hl : getL name es = some (some v)) (hv : handedIn v = true) (h : Q v { s with toks := s.toks + 1 }) :
    wpAny (model prog w) A (getAttr (.ref x) name expr) Q E s := by
  have X := X₀.keeps F.keep
  obtain ⟨hp0, g, d, t, os⟩ := s
  obtain ⟨cd, hc, ho⟩ := any_some hp
  have ne := excTail_ne ho
  have FB := PySem.F.attrBase_Exception
  have L0 := I.type (M := model prog w)
  have L1 := looks_findIn (M := model prog w) X hga
  have L2 := looks_findIn (M := model prog w) X hgn
  have L3 := looks_find (M := model prog w) X I (findObj_own hh ha hn hl)
  have sub : Looks (model prog w) hp0 (isInstance (.ref x) (.type "BaseException")) true := I.type.andThen (looks_mroIn X (by unfold mroIn; rw [hc, Option.bind_some, if_neg (by rw [ne]; decide), (excTail_has ho).2]))
  have hx2 : (Value.builtin "BaseException.__getattribute__" == Value.builtin "object.__getattribute__") = false := by decide +kernel
  have hx1 : (onTheHeap (Value.ref C) && Value.builtin "BaseException.__getattribute__" == Value.builtin "object.__getattribute__") = false := by rw [hx2]; rfl
  have hx0 : (expr && onTheHeap (Value.builtin "BaseException.__getattribute__")) = false := by cases expr <;> rfl
  unfold getAttr getAttrBy
  refine wpAny_bind (wpAny_mkText (wpAny_holding (wpAny_bind (L0.at (wpAny_bind (L1.at ?_))))))
  dsimp only
  rw [hx1]
  refine wpAny_bind (L2.at (wpAny_bind (wpAny_attempt (wpAny_holding ?_))))
  unfold callGetattribute
  rw [hx0]
  refine wpAny_bind (wpAny_of_eq (FB.ga.bind (.ref x)) (wpAny_call (codeAny_call_builtin FB.ga.plain PySem.F.entry_bexc_ga (@check_slot (model prog w) _ _ _ "BaseException.__getattribute__" "BaseException" "__getattribute__" (.ref x) [_] [] _ (by decide +kernel) (by decide +kernel) sub (PySem.F.args_bexc_ga _ _) ?_))))
  refine wpAny_bind (wpAny_pure (wpAny_bind (wpAny_pure (wpAny_bind (L0.at (wpAny_bind (L3.at ?_)))))))
  refine wpAny_pure ?_
  show wpAny _ _ (handedOut v) _ _ _
  rw [handedOut_of hv]; exact wpAny_pure h
end

section
variable {prog : Program} {w : World} {A : Around} {E : Value → Shared → Prop} {s : Shared} {K : Frag} {C L e : Addr} {h₀ : Heap} {m : Str → Option Value} {news : List (Addr × Obj)} {Q : Value → Shared → Prop}
variable {nm q : Str} {N : Addr} {bs bm bmB : List Value} {hdct : Bool} {sn : List Str} {sub : List Value} {ab : Bool} {col : Option Bool} {dd : Option Addr} {k0 k1 k2 k3 k5 : Option Value} {B newId initId : String}
/-- the __init__ of the built-in base, called on an own exception -/
theorem exc_init {t : Addr} (F : Fr h₀ L s.heap m) (X₀ : K.In h₀) (Nw : News h₀ L s.heap ((e, excOf C none t) :: news)) (Fx : ExcBaseFacts B newId initId bmB) {rest : List Value}
    (hC : K.lookup C = some (excClassObj nm q C N bs bm hdct sn sub ab col dd k0 k1 k2 k3 k5 newId)) (hB : bm.contains (.type B) = true) (hn : ∀ p ∈ news, p.1 ≠ e) (hrest : rest.length ≤ sizeLine)
    (h : ∀ t2 h', Fr h₀ L h' m → News h₀ L h' ((t2, tup rest) :: (e, excOf C none t2) :: news) → (∀ p ∈ (e, excOf C none t2) :: news, p.1 < t2) → Q .none { s with heap := h' }) :
    wpAny (model prog w) A (call (.builtin initId) (.ref e :: rest)) Q E s := by
  obtain ⟨hh, g, d, tk, os⟩ := s
  have X := X₀.keeps F.keep
  have hC' : hh.get? C = some _ := X _ _ hC
  have he : hh.get? e = some (excOf C none t) := (Nw (e, excOf C none t) (by simp)).1
  have hcB : (Value.ref C :: bm).contains (.type B) = true := by rw [List.contains_cons, hB, Bool.or_true]
  have hshort := Fx.noStar
  have NP := News.push F Nw (tup rest)
  have FP := F.push (tup rest)
  have lt : ∀ p ∈ (e, excOf C none t) :: news, p.1 < hh.objs.size := fun p hp => Heap.lt_size (Nw p hp).1
  obtain ⟨U1, U2⟩ := news_upd (pre := [(hh.objs.size, tup rest)]) (o' := excOf C none hh.objs.size) (f := Obj.mapFields (·.setIfInBounds 0 (Value.ref hh.objs.size))) FP NP
    (fun p hp => by rw [List.mem_singleton.mp hp]; exact Nat.ne_of_gt (Heap.lt_size he)) hn rfl rfl
  have lt' : ∀ p ∈ (e, excOf C none hh.objs.size) :: news, p.1 < hh.objs.size := fun p hp => by
    rcases List.mem_cons.mp hp with rfl | q
    · exact lt (e, excOf C none t) (by simp)
    · exact lt p (List.mem_cons_of_mem _ q)
  have z := h _ _ U1 U2 lt'
  refine wpAny_call (codeAny_call_builtin Fx.init.plain Fx.initEntry ?_)
  simp only [checkBuiltinCall, Fx.initKind, Fx.initSplit, Fx.initRow]
  repeat (first | (with_reducible refine wpAny_loadPart_at he ?_) | with_reducible refine wpAny_loadPart_at hC' ?_ | (with_reducible refine wpAny_isSubtype_exc hC' ?_; rw [hcB]) | wp_step)
  refine wpAny_onRaise ?_
  rw [show ∀ (a b : String) (n : Nat), Bind.check ⟨.positional, "*", B, .self, [⟨"args", .varPos, false⟩]⟩ a b n (List.map (fun x => x.fst) ({ pos := Value.ref e :: rest } : Args).kw) = pure () from
    fun a b n => check_star_args _ _ _ _ _ _]
  refine wpAny_pure ?_
  wp_walk
  exact z
end
end Mine

namespace Mine
open PySem PySem.W PyProof.Rows
theorem fresh_Ms : True := by
  w_top off
  trivial
local macro_rules | `(tactic| k_room) => `(tactic| ktr_room)
local macro_rules | `(tactic| k_mem) => `(tactic| first | exact List.Mem.head _ | (refine' List.mem_cons_of_mem _ ?_; k_mem))
local macro_rules | `(tactic| ktr_enter) => `(tactic| first
  | (refine' code_def ?k1 ?k2 ?k3 ?k4 ?k5 ?kA ?kF ?kK ?k6 ?k7 ?k8 ?k9 ?kB ?_ ?c2 ?c3 ?c4 ?c5; (case kA => exact rfl); (case kF => exact rfl); (case kK => first | exact rfl | assumption); (case k1 => k_asm); (case k2 => k_asm); (case k3 => k_asm); (case k4 => k_asm); (case k5 => k_asm); (case k6 => k_is); (case k7 => k_is); (case k8 => ktr_room); (case k9 => exact BindsTo.of_eq rfl); (case c5 => decide); (case kB => exact locs rfl); (case c2 => exact rfl); (case c3 => exact rfl); (case c4 => exact rfl); k_whole; intro g' L' h' FG' F' N' B' X' T'; (try dsimp only); (try k_lift B'); (try k_fold))
  | (refine' code_defC ?k1 ?k2 ?k3 ?k4 ?k5 ?kA ?kF ?kK ?k6 ?k7 ?k8 ?k9 ?kB ?kD ?_ ?c2 ?c3 ?c4; (case kA => exact rfl); (case kF => exact rfl); (case kK => first | exact rfl | assumption); (case k1 => k_asm); (case k2 => k_asm); (case k3 => k_asm); (case k4 => k_asm); (case k5 => k_asm); (case k6 => k_is); (case k7 => k_is); (case k8 => ktr_room); (case k9 => exact BindsTo.of_eq rfl); (case kB => exact rfl); (case kD => decide +kernel); (case c2 => exact rfl); (case c3 => exact rfl); (case c4 => exact rfl); k_whole; intro g' L' h' tk' cells' FG' F' N' Y' B' X' T' l1; (try k_lt l1); k_cells Y'; (try simp only [List.cons_append, List.nil_append] at N'); (try dsimp only); (try k_lift B'); (try k_fold)))
section
variable {w : World} {mean : ExcName → Option Value} {mg mb : Str → Option Value} {dp un : Nat} {gd : Option (List Code)} {cn : Str} {cs : Scope} {a : Addr} {ccd : Value} {cl : List (Str × Addr)} {outer : List Env} {A₀ : Around} {base h₀ : Heap} {L : Addr} {m : Str → Option Value} {news : List (Addr × Obj)} {s : Shared} {Q E : Value → Shared → Prop}
local macro_rules | `(tactic| walk_at "getMethod type:Exception") => `(tactic| (k_here; k_dflt (refine' method_type ?F ?X ?m (by decide +kernel) ?e ?h ?_; (case F => k_asm); (case X => k_asm); (case m => kernel_rfl); (case e => k_is); (case h => k_handed))))
set_option maxRecDepth 100000 in
set_option maxHeartbeats 8000000 in
theorem misused_tells {x : Str} {tx : Tok} (B : Below A₀ base outer h₀) (F : Fr h₀ L s.heap m) (X : (hd.heap_39 w.params).In h₀) (N : News h₀ L s.heap news) (T : Top hd.view_39 (looseW hd.view_39 []) mean mg mb h₀) (hk : cs.kind = .function)
   (hx : x.length ≤ 100) (hd' : dp + 8 < recursionLimit) (hu : un + 32 < cLine)
   (ret : ∀ h' tk' e dx t t1 ha hb ta tb tc n, Fr h₀ L h' m → News h₀ L h' ((dx, dictOf [⟨ha, .str (Str.ofString "why") ta, .str x tx⟩, ⟨hb, .str (Str.ofString "at") tb, .int (-1) tc⟩] n) :: (t, tup [.str x tx]) :: (e, excOf 51 (some dx) t) :: (t1, tup [.str x tx]) :: news) →
      (∀ p ∈ (t, tup [.str x tx]) :: (e, excOf 51 (some dx) t) :: (t1, tup [.str x tx]) :: news, p.1 < dx) → e < t → t1 < e → (∀ p ∈ news, p.1 < t1) → Q (.ref e) { s with heap := h', toks := tk' }) :
   wpAny (model PySem.Challenge.rw_pf0331_01.row.prog w) (ktrTop dp un gd cn cs L a ccd cl outer) (call (.ref 51) [.str x tx]) Q E s := by
  revert X; k_fill; intro X
  refine' exc_make_K ?k1 ?k2 ?k3 PySem.F.excBase_Exception ?kC ?kB ?kA ?kN ?ki ?kf ?kr ?_; (case k1 => k_asm); (case k2 => k_asm); (case k3 => k_asm); (case kC => k_is); (case kB => decide); (case kA => decide); (case kN => decide); (case ki => k_is); (case kf => k_is); (case kr => rw [sizeLine_eq]; exact Nat.le_of_ble_eq_true rfl)
  k_whole
  intro e' t' h' F' N' l1 l2
  k_dflt ktr_enter
  k_steps
  rename Fr _ _ _ _ => F1
  rename News _ _ _ _ => N1
  refine' exc_init F1 ?k2 N1 PySem.F.excBase_Exception ?kC ?kB ?kn ?kr ?_
  (case k2 => k_asm)
  (case kC => k_is)
  (case kB => decide)
  (case kn =>
    intro p hp
    rcases List.mem_cons.mp hp with rfl | hp
    · exact Nat.ne_of_lt l2
    · exact Nat.ne_of_lt (Nat.lt_trans (l1 p hp) l2))
  (case kr => rw [sizeLine_eq]; exact Nat.le_of_ble_eq_true rfl)
  intro t2 h2 F2 N2 l3
  k_steps
  rename Fr _ _ _ _ => F3
  rename News _ _ _ _ => N3
  have lt3 : ∀ p ∈ (t', tup [.str x tx]) :: news, p.1 ≠ e' := by
    intro p hp
    rcases List.mem_cons.mp hp with rfl | hp
    · exact Nat.ne_of_lt l2
    · exact Nat.ne_of_lt (Nat.lt_trans (l1 p hp) l2)
  have l3e := l3 _ (List.mem_cons_self ..)
  refine' exc_set_new (pre := [(t2, tup [.str x tx])]) F3 ?k2 N3 ?hs ?hp ?ht ?hh ?h1 lt3 ?_
  (case k2 => k_asm)
  (case hs => k_is)
  (case hp => (refine' excOver_of ?kC ?kb; (case kC => k_is); (case kb => decide)))
  (case ht => k_is)
  (case hh => k_is)
  (case h1 => intro p hp; rw [List.mem_singleton.mp hp]; exact Nat.ne_of_gt l3e)
  intro d h3 F4 N4 l4
  dsimp only [List.cons_append, List.nil_append] at N4 l4
  k_steps
  rename Fr _ _ _ _ => F5
  rename News _ _ _ _ => N5
  refine' exc_set (C := 51) (x := e') (t := t2) (pre := []) F5 ?k2 N5 (by simp) ?hs ?hp ?ht ?hh ?hl ?he ?hz (fun p hp => nomatch hp) (fun p hp => Nat.ne_of_lt (l4 p hp)) ?_
  (case k2 => k_asm)
  (case hs => k_is)
  (case hp => (refine' excOver_of ?kC ?kb; (case kC => k_is); (case kb => decide)))
  (case ht => k_is)
  (case hh => k_is)
  (case hl => k_get)
  (case he => k_put)
  (case hz => exact Nat.le_of_ble_eq_true rfl)
  intro h5 F6 N6
  dsimp only [List.cons_append, List.nil_append] at N6
  k_steps
  rename Fr _ _ _ _ => F9
  rename News _ _ _ _ => N9
  refine ret _ _ _ _ _ _ _ _ _ _ _ _ F9 N9 (fun p hp => ?_) l3e l2 l1
  rcases List.mem_cons.mp hp with rfl | hp
  · exact l4 (t2, tup [.str x tx]) (by simp)
  rcases List.mem_cons.mp hp with rfl | hp
  · exact l4 (e', excOf 51 (some d) t2) (by simp)
  exact l4 p (.tail _ (.tail _ hp))

end
end Mine

namespace Mine
open PySem PySem.W PyProof.Rows PySem.Calls
set_option maxRecDepth 100000

/-- an own exception with its dict, its arguments and its traceback -/
abbrev exHd (C : Addr) (od : Option Addr) (t : Addr) (hd : Value) : Obj := { cls := .ref C, dict := od, data := .fields #[.ref t, hd, .none, .none, .bool false, .none] }

/-- an own exception on its way: what lies behind the frames G stands, its dict and its arguments are known -/
structure Fly (G : Heap) (l : List Env) (C e t : Addr) (od : Option Addr) (fl : Value) (h : Heap) : Prop where
  stays : G.StaysIn h
  fresh : G.get? e = none
  frames : h.FunFrames G l
  tb : ∃ T oT ts, h.get? e = some (exHd C od t (.ref T)) ∧ G.get? T = none ∧ T ≠ e ∧ h.get? T = some oT ∧ oT.data = .fields ts ∧ ts[3]? = some fl
theorem Fly.tail {G h : Heap} {env : Env} {l : List Env} {C e t : Addr} {od : Option Addr} {fl : Value} (x : Fly G (env :: l) C e t od fl h) : Fly G l C e t od fl h := ⟨x.stays, x.fresh, x.frames.2.2, x.tb⟩
theorem Fly.keeps {G h h' : Heap} {l : List Env} {C e t : Addr} {od : Option Addr} {fl : Value} (x : Fly G l C e t od fl h) (k : ∀ b o, h.get? b = some o → h'.get? b = some o) : Fly G l C e t od fl h' := by
  obtain ⟨T, oT, ts, a1, a2, a3, a4, a5, a6⟩ := x.tb
  exact ⟨fun b o q => k b o (x.stays b o q), x.fresh, x.frames.of_keeps fun b o q _ => ⟨o, k b o q, rfl⟩, T, oT, ts, k _ _ a1, a2, a3, k _ _ a4, a5, a6⟩
theorem Fly.ty {M : Model} {G h : Heap} {l : List Env} {C e t : Addr} {od : Option Addr} {fl : Value} (x : Fly G l C e t od fl h) : Looks M h (typeOf (.ref e)) (.ref C) := by
  obtain ⟨T, oT, ts, a1, _⟩ := x.tb
  exact (Looks.ld a1).andThen .now

section
variable {M : Model} {A : Around} {E : Value → Shared → Prop} {s : Shared} {G : Heap} {env : Env} {outer l : List Env} {Lf C e t : Addr} {od : Option Addr} {fl : Value} {Q : Unit → Shared → Prop}

/-- a record's field set: all that is no record stays as it is, G too -/
theorem upd_rec {h : Heap} {T : Addr} {oT : Obj} {ts : Array Value} {f : Obj → Obj} (hT : h.get? T = some oT) (hd : oT.data = .fields ts) (hn : G.get? T = none) (st : G.StaysIn h) (fr : h.FunFrames G l) :
    G.StaysIn (h.update T f) ∧ (h.update T f).FunFrames G l ∧ h.UpToSlots (h.update T f) ∧ ∀ b, b ≠ T → (h.update T f).get? b = h.get? b := by
  have other : ∀ b, b ≠ T → (h.update T f).get? b = h.get? b := fun b q => Heap.get?_update_other _ _ (Ne.symm q)
  have nr : ∀ b o, h.get? b = some o → (∀ vs, o.data ≠ .fields vs) → b ≠ T := fun b o q k z => by
    rw [z, hT] at q
    exact k ts (Option.some.inj q ▸ hd)
  exact ⟨fun b o q => (other b fun z => by rw [z, hn] at q; cases q).trans (st b o q), fr.of_keeps fun b o q k => ⟨o, (other b (nr b o q k)).trans q, rfl⟩, fun b o q k => ⟨o.slots, (other b (nr b o q k)).trans q⟩, other⟩

theorem fly_entry {head : Value} {hadNext : Bool} (hfr : A.frames = some (env :: outer)) (hf : env.frame = some Lf) (st : G.StaysIn s.heap) (fe : G.get? e = none) (fr : s.heap.FunFrames G (env :: outer)) (he : s.heap.get? e = some (exHd C od t head))
    (h : ∀ h', Fly G (env :: outer) C e t od (rawInt Lf) h' → s.heap.UpToSlots h' → Q () { s with heap := h' }) :
    wpAny M A (do let a ← frameOf env; let pl ← entryPlaceOf Lf hadNext; let b ← EntryCells.newEntry head a .none (rawInt Lf) .none pl; setField (.ref e) 1 b) Q E s := by
  have hene : e ∉ (env :: outer).filterMap (·.frame) := fun hm => by
    obtain ⟨_, o, ho, k⟩ := fr.mem hm
    rw [he] at ho
    exact k _ (congrArg Obj.data (Option.some.inj ho)).symm
  refine wpAny_bind (wpAny_frameOf_fun hfr fr hf fun h₁ hs => ?_)
  refine wpAny_bind (wpAny_entryPlaceOf fun pl hpl => ?_)
  unfold EntryCells.newEntry newFields
  refine wpAny_bind (wpAny_newObj_type ?_ (hpl.sizeOk5 _ _ _ _ _))
  obtain ⟨o, rfl⟩ : ∃ o : Obj, o = { cls := .type "traceback", dict := none, data := .fields ([head, .ref Lf, .none, rawInt Lf, .none] ++ (if pl.isEmpty then List.replicate 6 Value.none else pl)).toArray } := ⟨_, rfl⟩
  have he₁ : h₁.get? e = some (exHd C od t head) := (hs.2.1 e hene).trans he
  have up₁ : s.heap.UpToSlots h₁ := fun b o q _ => hs.2.2 b o q
  have st₁ : G.StaysIn h₁ := fun b o q => (hs.2.1 b fun hm => by rw [(fr.mem hm).1] at q; cases q).trans (st b o q)
  have fr₁ : h₁.FunFrames G (env :: outer) := fr.of_keeps fun b o q k => by
    obtain ⟨sl, z⟩ := hs.2.2 b o q
    exact ⟨_, z, rfl⟩
  have kp := fun b o (q : h₁.get? b = some o) => Heap.get?_push_of_some (h := h₁) { cls := .type "traceback", dict := none, data := .fields ([head, .ref Lf, .none, rawInt Lf, .none] ++ (if pl.isEmpty then List.replicate 6 Value.none else pl)).toArray } q
  have he₂ := kp _ _ he₁
  have hne : h₁.objs.size ≠ e := Nat.ne_of_gt (Heap.lt_size he₁)
  obtain ⟨z1, z2, z3, z4⟩ := upd_rec (G := G) (f := Obj.mapFields (·.setIfInBounds 1 (Value.ref h₁.objs.size))) (l := env :: outer) he₂ rfl fe (fun b o q => kp b o (st₁ b o q)) (fr₁.of_keeps fun b o q _ => ⟨o, kp b o q, rfl⟩)
  refine wpAny_setField he₂ rfl (by simp) (h _ ⟨z1, fe, z2, h₁.objs.size, _, _, Heap.get?_update_self _ he₂ rfl, st₁.fresh, hne, (z4 _ hne).trans (Heap.get?_push_size h₁ rfl), rfl, ?_⟩ ((up₁.trans (Heap.UpToSlots.of_keeps kp)).trans z3))
  first | (simp; done) | (rcases hpl with rfl | ⟨_, _, _, _, _, _, _, rfl⟩ <;> simp)

theorem fly_land (x : Fly G l C e t od fl s.heap) (h : ∀ h', Fly G l C e t od .none h' → s.heap.UpToSlots h' → Q () { s with heap := h' }) : wpAny M A (setFlight (.ref e) none) Q E s := by
  obtain ⟨T, oT, ts, a1, a2, a3, a4, a5, a6⟩ := x.tb
  have hz : 3 < ts.size := (Array.getElem?_eq_some_iff.mp a6).1
  unfold setFlight
  refine wpAny_bind (wpAny_field (x := .ref T) a1 rfl rfl ?_)
  rw [if_pos (show (Value.ref T != Value.none) = true from by simp)]
  obtain ⟨z1, z2, z3, z4⟩ := upd_rec (f := Obj.mapFields (·.setIfInBounds 3 ((none : Option Addr).elim Value.none fun f => rawInt f))) a4 a5 a2 x.stays x.frames
  exact wpAny_setField a4 a5 hz (h _ ⟨z1, x.fresh, z2, T, _, _, (z4 e (Ne.symm a3)).trans a1, a2, a3, Heap.get?_update_self _ a4 (Obj.isFreed_of_fields (Obj.data_mapFields a5 _)), Obj.data_mapFields a5 _, by simp [hz]⟩ z3)

theorem fly_note (hfr : A.frames = some (env :: outer)) (hf : env.frame = some Lf) (x : Fly G (env :: outer) C e t od .none s.heap)
    (h : ∀ h', Fly G (env :: outer) C e t od (rawInt Lf) h' → s.heap.UpToSlots h' → Q () { s with heap := h' }) : wpAny M A (noteFrame (.ref e) env) Q E s := by
  obtain ⟨T, oT, ts, a1, a2, a3, a4, a5, a6⟩ := x.tb
  have hz : 3 < ts.size := (Array.getElem?_eq_some_iff.mp a6).1
  unfold noteFrame
  simp only [hf]
  refine wpAny_bind (wpAny_field (x := .ref T) a1 rfl rfl ?_)
  rw [if_pos (show (Value.ref T != Value.none) = true from by simp)]
  refine wpAny_bind (wpAny_field a4 a5 a6 ?_)
  rw [if_neg (show ¬ ((Value.none == rawInt Lf) = true) from by simp [rawInt])]
  obtain ⟨z1, z2, z3, z4⟩ := upd_rec (f := Obj.mapFields (·.setIfInBounds 3 Value.none)) a4 a5 a2 x.stays x.frames
  refine wpAny_bind (wpAny_setField a4 a5 hz ?_)
  exact fly_entry (s := { s with heap := s.heap.update T (Obj.mapFields (·.setIfInBounds 3 Value.none)) }) hfr hf z1 x.fresh z2 ((z4 e (Ne.symm a3)).trans a1) fun h' y u => h h' y (z3.trans u)

theorem fly_first (hfr : A.frames = some (env :: outer)) (hf : env.frame = some Lf) (st : G.StaysIn s.heap) (fe : G.get? e = none) (fr : s.heap.FunFrames G (env :: outer)) (he : s.heap.get? e = some (excOf C od t))
    (h : ∀ h', Fly G outer C e t od .none h' → s.heap.UpToSlots h' → Q () { s with heap := h' }) : wpAny M A (leaving env (.ref e)) Q E s := by
  unfold leaving noteFrame
  simp only [hf]
  refine wpAny_bind (wpAny_bind (wpAny_field (x := .none) he rfl rfl ?_))
  rw [if_neg (by decide)]
  exact fly_entry hfr hf st fe fr he fun h' y u => fly_land (s := { s with heap := h' }) y fun h'' y' u' => h h'' y'.tail (u.trans u')

theorem fly_next (hfr : A.frames = some (env :: outer)) (hf : env.frame = some Lf) (x : Fly G (env :: outer) C e t od .none s.heap)
    (h : ∀ h', Fly G outer C e t od .none h' → s.heap.UpToSlots h' → Q () { s with heap := h' }) : wpAny M A (leaving env (.ref e)) Q E s := by
  unfold leaving
  exact wpAny_bind (fly_note hfr hf x fun h' y u => fly_land (s := { s with heap := h' }) y fun h'' y' u' => h h'' y'.tail (u.trans u'))
end

/-- an own exception that has left the frames before l -/
def RaisedX (base G : Heap) (l : List Env) (C e t : Addr) (od : Option Addr) (news : List (Addr × Obj)) (h : Heap) : Prop :=
  ∃ B : Heap, base.StaysIn B ∧ (∀ b o, G.get? b = some o → b ∉ l.filterMap (·.frame) → B.get? b = some o) ∧ (∀ q ∈ news, B.get? q.1 = some q.2 ∧ G.get? q.1 = none ∧ base.get? q.1 = none) ∧ Fly B l C e t od .none h
theorem RaisedX.keeps {base G h h' : Heap} {l : List Env} {C e t : Addr} {od : Option Addr} {news : List (Addr × Obj)} (R : RaisedX base G l C e t od news h) (k : ∀ b o, h.get? b = some o → h'.get? b = some o) : RaisedX base G l C e t od news h' :=
  let ⟨B, a, b, c, d⟩ := R; ⟨B, a, b, c, d.keeps k⟩

section
variable {M : Model} {A : Around} {E : Value → Shared → Prop} {s : Shared} {base g g₂ : Heap} {outer : List Env} {L a C e t : Addr} {od : Option Addr} {m : Str → Option Value} {name : Str} {scope : Scope} {cd : Value} {Q : Unit → Shared → Prop} {news : List (Addr × Obj)}
theorem leave_firstX (K : Below A base outer g) (F : Fr g L s.heap m) (N : News g L s.heap news) (Ne : News g L s.heap [(e, excOf C od t)]) (hne : ∀ q ∈ news, q.1 ≠ e)
    (hQ : ∀ h', RaisedX base g outer C e t od news h' → g.UpToSlots h' → Q () { s with heap := h' }) (hk : scope.kind = .function := by rfl) :
    wpAny M (A.deeper (envOf name scope L a cd)) (leaving (envOf name scope L a cd) (.ref e)) Q E s := by
  have K' := K.push (name := name) (a := a) (cd := cd) F hk
  obtain ⟨he, heL, heg⟩ := Ne _ (List.mem_singleton.mpr rfl)
  obtain ⟨fs, hfs⟩ : ∃ fs, fs = (envOf name scope L a cd :: outer).filterMap (·.frame) := ⟨_, rfl⟩
  have hin : ∀ env ∈ (envOf name scope L a cd :: outer), ∀ b, env.frame = some b → b ∈ e :: fs := fun env z b hb => List.mem_cons_of_mem _ (hfs ▸ List.mem_filterMap.mpr ⟨env, z, hb⟩)
  have nb : ∀ b, b ∈ fs → b = L ∨ b ∈ outer.filterMap (·.frame) := fun b hb => kts_mem (hfs ▸ hb)
  have geb : ∀ b o, g.get? b = some o → b ∉ outer.filterMap (·.frame) → b ∉ e :: fs := fun b o q nm hm => by
    rcases List.mem_cons.mp hm with z | z
    · rw [z] at q; rw [heg] at q; cases q
    · rcases nb b z with z | z
      · rw [z, kts_self F] at q; cases q
      · exact nm z
  have st : base.StaysIn (hideAll s.heap (e :: fs)) := fun b o q => hideAll_get _ (K'.stays b o q) fun hm => by
    rcases List.mem_cons.mp hm with z | z
    · have := K.stays b o q
      rw [z, heg] at this; cases this
    · rw [(K'.frames.mem (hfs ▸ z)).1] at q; cases q
  have sg : ∀ b o, g.get? b = some o → b ∉ outer.filterMap (·.frame) → (hideAll s.heap (e :: fs)).get? b = some o := fun b o q nm => hideAll_get _ (F.keep b o q) (geb b o q nm)
  have hl : ∀ q ∈ news, (hideAll s.heap (e :: fs)).get? q.1 = some q.2 ∧ g.get? q.1 = none ∧ base.get? q.1 = none := fun q hq => by
    refine ⟨hideAll_get _ (N q hq).1 fun hm => ?_, (N q hq).2.2, fresh_of_stays K.stays (N q hq).2.2⟩
    rcases List.mem_cons.mp hm with z | z
    · exact hne q hq z
    · rcases nb _ z with z | z
      · exact (N q hq).2.1 z
      · obtain ⟨o, ho, _⟩ := (K.frames.mem z).2
        rw [(N q hq).2.2] at ho; cases ho
  refine fly_first K'.stack rfl (fun b o q => of_hideAll _ q) (hideAll_none _ (List.mem_cons_self ..)) (funFrames_hide K'.frames hin) he fun h' y u => ?_
  exact hQ h' ⟨_, st, sg, hl, y⟩ ((Heap.UpToSlots.of_keeps F.keep).trans u)

theorem leave_onX (K : Below A base outer g) (F : Fr g L g₂ m) (R : RaisedX base g₂ (envOf name scope L a cd :: outer) C e t od news s.heap) (hsm : g₂.UpToSlots s.heap)
    (hQ : ∀ h', RaisedX base g outer C e t od news h' → g.UpToSlots h' → Q () { s with heap := h' }) :
    wpAny M (A.deeper (envOf name scope L a cd)) (leaving (envOf name scope L a cd) (.ref e)) Q E s := by
  obtain ⟨B, hB, hBG, hl, hfl⟩ := R
  refine fly_next (Around.frames_deeper K.stack) rfl hfl fun h' y u => hQ h' ⟨B, hB, fun b o q nm => hBG b o (F.keep b o q) fun hm => ?_, fun q hq => ⟨(hl q hq).1, kts_none F.keep (hl q hq).2.1, (hl q hq).2.2⟩, y⟩ ((Heap.UpToSlots.of_keeps F.keep).trans (hsm.trans u))
  rcases kts_mem hm with z | z
  · rw [z, kts_self F] at q; cases q
  · exact nm z
end

section
variable {prog : Program} {w : World} {A₀ : Around} {E : Value → Shared → Prop} {s : Shared} {base g g₀ G : Heap} {outer : List Env} {L a C e t : Addr} {od : Option Addr} {m : Str → Option Value} {name : Str} {scope : Scope} {cd : Value}
  {n : Str} {b₀ : Stmt} {suite : List Stmt} {pos : Pos} {rest : List ExceptHandler} {Q : Flow → Shared → Prop} {news : List (Addr × Obj)} {KF : Frag} {tt : Expr} {p : Program} {loose : List Str} {mean : ExcName → Option Value} {mg mb : Str → Option Value}
/-- an own exception is caught under a name -/
theorem caught_X (R : RaisedX base G (envOf name scope L a cd :: outer) C e t od news s.heap) (F : Fr g L G m) (K : Below A₀ base outer g) (hsm : G.UpToSlots s.heap) (XB : KF.In base) (TB : Top p loose mean mg mb base)
    (D : KtsDicts (outer.filterMap (·.frame)) g) (T0 : KtsTurn (outer.filterMap (·.frame)) g₀ g) (T : KtsTest prog w KF p loose mg mb name scope L a cd (.ref C) tt true)
    (k : ∀ h' g' tk hd, KtsTurn (outer.filterMap (·.frame)) g₀ g' → Fr g' L h' (fun y => if y = n then some (.ref e) else m y) → News g' L h' ((e, exHd C od t hd) :: news) → Below A₀ base outer g' → KF.In g' → Top p loose mean mg mb g' → KtsDicts (outer.filterMap (·.frame)) g' →
      wpAny (model prog w) ((A₀.deeper (envOf name scope L a cd)).mark (some (.ref e))) (execs (b₀ :: suite) (envOf name scope L a cd))
        (fun f s₄ => wpAny (model prog w) (A₀.deeper (envOf name scope L a cd)) (do bindName (envOf name scope L a cd) n .none; unbindBehindTheSuite (envOf name scope L a cd) n pos) (fun _ s₅ => Q f s₅) E s₄)
        (AsSuiteRaised (model prog w) ((A₀.deeper (envOf name scope L a cd)).mark (some (.ref e))) (envOf name scope L a cd) n pos (notedBy (model prog w) ((A₀.deeper (envOf name scope L a cd)).mark (some (.ref e))) (envOf name scope L a cd) (cameBackBy (model prog w) (A₀.deeper (envOf name scope L a cd)) (envOf name scope L a cd) E)))
        { s with heap := h', toks := tk })
    (hk : scope.kind = .function := by rfl) (hlo : (envOf name scope L a cd).kindOf n = some .local := by rfl) :
    wpAny (model prog w) (A₀.deeper (envOf name scope L a cd)) (noteFrame (.ref e) (envOf name scope L a cd))
      (fun _ s₂ => wpAny (model prog w) (A₀.deeper (envOf name scope L a cd)) (setFlight (.ref e) none) (fun _ s₃ =>
        wpAny (model prog w) (A₀.deeper (envOf name scope L a cd)) (handleBy (.ref e) (envOf name scope L a cd) (.ExceptHandler (some tt) (some n) (b₀ :: suite) pos :: rest)) Q E s₃) E s₂) E s := by
  obtain ⟨B, hB, hBG, hl, hfl⟩ := R
  have hL : B.get? L = none := by
    obtain ⟨_, ⟨L', _, hf, hn', _⟩, _⟩ := hfl.frames
    obtain rfl : L = L' := Option.some.inj hf
    exact hn'
  refine fly_note (Around.frames_deeper K.stack) rfl hfl fun h₄ y₄ u₄ => ?_
  refine fly_land (s := { s with heap := h₄ }) y₄ fun h₅ y₅ u₅ => ?_
  have hsm₅ := hsm.trans (u₄.trans u₅)
  obtain ⟨g₅, T₅, F₅, K₅⟩ := kts_ground K F hBG y₅.stays hsm₅
  refine wpAny_handleBy_cons (codeAny_handlers_test (T _ _ _ { s with heap := h₅ } g₅ e m F₅ (XB.keeps K₅.stays) (topRead_of (TB.keeps K₅.stays)) y₅.ty fun h' kp => ?_)) (by intro q; cases q)
  have y' := y₅.keeps kp
  refine codeAny_handlers_suite_as ?_
  refine fly_land (s := { s with heap := h' }) y' fun h₆ y₆ u₆ => ?_
  have hsm₆ := (hsm₅.trans (Heap.UpToSlots.of_keeps kp)).trans u₆
  obtain ⟨g₆, T₆, F₆, K₆⟩ := kts_ground K F hBG y₆.stays hsm₆
  obtain ⟨Tb, oT, ts, a1, a2, a3, a4, a5, a6⟩ := y₆.tb
  have ne₆ : g₆.get? e = none := T₆.none_ _ (kts_fresh F hBG y₆.fresh fun o ho mm => by
    obtain ⟨_, o', ho', hd⟩ := K.frames.mem mm
    rw [ho] at ho'
    cases ho'
    obtain ⟨sl, hs⟩ := hsm₆ _ _ (F.keep _ _ ho) hd
    rw [a1] at hs
    exact hd _ (congrArg Obj.data (Option.some.inj hs)).symm)
  have neL : e ≠ L := fun z => by
    obtain ⟨oL, es, ep, hLo, hLd, _⟩ := F₆.ns
    rw [← z, a1] at hLo
    cases hLo
    cases hLd
  have N₆ : News g₆ L h₆ ((e, exHd C od t (.ref Tb)) :: news) := fun q hq => by
    rcases List.mem_cons.mp hq with rfl | hq
    · exact ⟨a1, neL, ne₆⟩
    · exact ⟨y₆.stays _ _ (hl q hq).1, (fun z => by have := (hl q hq).1; rw [z, hL] at this; cases this), T₆.none_ _ (kts_none F.keep (hl q hq).2.1)⟩
  refine stN F₆ N₆ (fun h₇ F₇ N₇ => ?_) hk hlo
  exact k h₇ g₆ _ _ (T0.trans T₆) F₇ N₇ K₆ (XB.keeps K₆.stays) (TB.keeps K₆.stays) (D.turn T₆)
end

theorem ownRaise_of {K : Frag} {E : Value → Shared → Prop} {s : Shared} {e t C N : Addr} {od : Option Addr} {nm q : Str} {bs bm : List Value} {hdct : Bool} {sn : List Str} {sub : List Value} {ab : Bool} {col : Option Bool} {dd : Option Addr} {k0 k1 k2 k3 k5 : Option Value} {newId : String}
    (X : K.In s.heap) (hC : K.lookup C = some (excClassObj nm q C N bs bm hdct sn sub ab col dd k0 k1 k2 k3 k5 newId)) (hb : bm.contains (.type "BaseException") = true) (he : s.heap.get? e = some (excOf C od t)) (hE : E (.ref e) s) : OwnRaise C E (.ref e) s :=
  ⟨e, t, od, nm, q, N, bs, bm, hdct, sn, sub, ab, col, dd, k0, k1, k2, k3, k5, newId, rfl, X _ _ hC, hb, he, hE⟩
end Mine

namespace Mine
open PySem PySem.W PyProof.Rows
theorem fresh_Cb : True := by
  w_top off
  trivial
local macro_rules | `(tactic| k_room) => `(tactic| ktr_room)
local macro_rules | `(tactic| k_mem) => `(tactic| first | exact List.Mem.head _ | (refine' List.mem_cons_of_mem _ ?_; k_mem))
local macro_rules | `(tactic| ktr_enter) => `(tactic| first
  | (refine' code_def ?k1 ?k2 ?k3 ?k4 ?k5 ?kA ?kF ?kK ?k6 ?k7 ?k8 ?k9 ?kB ?_ ?c2 ?c3 ?c4 ?c5; (case kA => exact rfl); (case kF => exact rfl); (case kK => first | exact rfl | assumption); (case k1 => k_asm); (case k2 => k_asm); (case k3 => k_asm); (case k4 => k_asm); (case k5 => k_asm); (case k6 => k_is); (case k7 => k_is); (case k8 => ktr_room); (case k9 => exact BindsTo.of_eq rfl); (case c5 => decide); (case kB => exact locs rfl); (case c2 => exact rfl); (case c3 => exact rfl); (case c4 => exact rfl); k_whole; intro g' L' h' FG' F' N' B' X' T'; (try dsimp only); (try k_lift B'); (try k_fold))
  | (refine' code_defC ?k1 ?k2 ?k3 ?k4 ?k5 ?kA ?kF ?kK ?k6 ?k7 ?k8 ?k9 ?kB ?kD ?_ ?c2 ?c3 ?c4; (case kA => exact rfl); (case kF => exact rfl); (case kK => first | exact rfl | assumption); (case k1 => k_asm); (case k2 => k_asm); (case k3 => k_asm); (case k4 => k_asm); (case k5 => k_asm); (case k6 => k_is); (case k7 => k_is); (case k8 => ktr_room); (case k9 => exact BindsTo.of_eq rfl); (case kB => exact rfl); (case kD => decide +kernel); (case c2 => exact rfl); (case c3 => exact rfl); (case c4 => exact rfl); k_whole; intro g' L' h' tk' cells' FG' F' N' Y' B' X' T' l1; (try k_lt l1); k_cells Y'; (try simp only [List.cons_append, List.nil_append] at N'); (try dsimp only); (try k_lift B'); (try k_fold)))
section
variable {w : World} {mean : ExcName → Option Value} {mg mb : Str → Option Value} {dp un : Nat} {gd : Option (List Code)} {cn : Str} {cs : Scope} {a : Addr} {ccd : Value} {cl : List (Str × Addr)} {outer : List Env} {A₀ : Around} {base h₀ : Heap} {L : Addr} {m : Str → Option Value} {news : List (Addr × Obj)} {s : Shared} {Q E : Value → Shared → Prop}
local macro_rules | `(tactic| walk_at "exec Raise some none") => `(tactic| (k_here; (rename Fr _ _ _ _ => lF'); k_dflt (refine raise_own 51 lF' rfl ?_)))
local macro_rules | `(tactic| walk_at "call ref") => `(tactic| ((with_reducible show wpAny _ _ (call (Value.ref 51) _) _ _ _); k_dflt (refine misused_tells (by k_asm) (by k_asm) (by k_asm) (by k_asm) (by k_asm) (by first | exact rfl | assumption) (by exact Nat.le_of_ble_eq_true rfl) (by ktr_room) (by ktr_units) ?_); intro h' tk' e' dx' t' t1' ha' hb' ta' tb' tc' n' F' N' l1 l2 l3 l4; (try dsimp only); (try k_fold)))
theorem fdiv_pos' {b n : Int} (hb : 2 ^ n.toNat ≤ b) : b.fdiv (2 ^ n.toNat) ≠ 0 := by
  have hp : (0 : Int) < 2 ^ n.toNat := pow2_pos _
  rw [Int.fdiv_eq_ediv_of_nonneg _ (Int.le_of_lt hp)]
  have := Int.le_ediv_of_mul_le hp (a := 1) (b := b) (by omega)
  omega
set_option maxRecDepth 100000 in
set_option maxHeartbeats 8000000 in
theorem check_bad {b n : Int} {t1 t2 t3 : Tok} (B : Below A₀ base outer h₀) (F : Fr h₀ L s.heap m) (X : (hd.heap_39 w.params).In h₀) (N : News h₀ L s.heap news) (T : Top hd.view_39 (looseW hd.view_39 []) mean mg mb h₀) (hk : cs.kind = .function)
   (hb : b < 0 ∨ 2 ^ n.toNat ≤ b) (hn : 0 ≤ n) (hn' : n ≤ 128) (hd' : dp + 12 < recursionLimit) (hu : un + 48 < cLine)
   (err : ∀ g h' tk' e t dx ha hb ta tb tc tw n, Fr h₀ L g m → RaisedX base g (envX cn cs L a ccd cl :: outer) 51 e t (some dx) ((dx, dictOf [⟨ha, .str (Str.ofString "why") ta, .str (Str.ofString "no such prefix") tw⟩, ⟨hb, .str (Str.ofString "at") tb, .int (-1) tc⟩] n) :: news) h' → g.UpToSlots h' → E (.ref e) { s with heap := h', toks := tk' }) :
   wpAny (model PySem.Challenge.rw_pf0331_01.row.prog w) (ktrTop dp un gd cn cs L a ccd cl outer) (call (.ref 60) [.int b t1, .int n t2, .int n t3]) Q E s := by
  revert X; k_fill; intro X
  have hpp := pow2_pos n.toNat
  have hfd : b < 0 ∨ ¬ b < 0 ∧ b.fdiv (2 ^ n.toNat) ≠ 0 := hb.imp_right fun z => ⟨by omega, fdiv_pos' z⟩
  clear hb
  rcases hfd with hfd | hfd
  case' inr => obtain ⟨hb0, hfd⟩ := hfd
  all_goals (refine wpAny_call ?_; k_dflt ktr_enter; k_steps)
  all_goals
    rename_i h4 tk5 e' dx' t' t1' ha' hb' ta' tb' tc' n' F4 N4 l1 l2 l3 l4
    rename Below _ _ _ _ => B3
    rename Frag.In _ _ => X3
    rename Fr h₀ L _ m => FG3
    refine' ownRaise_of (X3.keeps F4.keep) ?kC ?kb (N4 (e', excOf 51 (some dx') t') (by simp)).1 ?_
    (case kC => k_is)
    (case kb => decide)
    dsimp only [ek]
    refine leave_firstX (C := 51) (t := t') (od := some dx') (s := { heap := h4, gens := s.gens, drawn := s.drawn, toks := tk5, os := s.os }) (news := (dx', dictOf [⟨ha', .str (Str.ofString "why") ta', .str (Str.ofString "no such prefix") tk⟩, ⟨hb', .str (Str.ofString "at") tb', .int (-1) tc'⟩] n') :: news) B3 F4 (fun p hp => ?_) (fun p hp => ?_) (fun p hp => ?_) (fun h5 R5 u5 => err _ _ _ _ _ _ _ _ _ _ _ _ _ FG3 R5 u5)
    · rcases List.mem_cons.mp hp with rfl | hp
      · exact N4 _ (by simp)
      · exact N4 _ (by simp [hp])
    · rw [List.mem_singleton.mp hp]
      exact N4 _ (by simp)
    · rcases List.mem_cons.mp hp with rfl | hp
      · exact Nat.ne_of_gt (l1 (e', excOf 51 (some dx') t') (by simp))
      · exact Nat.ne_of_lt (Nat.lt_trans (l4 p hp) l3)

end
end Mine

namespace Mine
open PySem PySem.W PyProof.Rows
theorem fresh_To : True := by
  w_top off
  trivial
local macro_rules | `(tactic| k_room) => `(tactic| ktr_room)
local macro_rules | `(tactic| k_mem) => `(tactic| first | exact List.Mem.head _ | (refine' List.mem_cons_of_mem _ ?_; k_mem))
local macro_rules | `(tactic| ktr_enter) => `(tactic| first
  | (refine' code_def ?k1 ?k2 ?k3 ?k4 ?k5 ?kA ?kF ?kK ?k6 ?k7 ?k8 ?k9 ?kB ?_ ?c2 ?c3 ?c4 ?c5; (case kA => exact rfl); (case kF => exact rfl); (case kK => first | exact rfl | assumption); (case k1 => k_asm); (case k2 => k_asm); (case k3 => k_asm); (case k4 => k_asm); (case k5 => k_asm); (case k6 => k_is); (case k7 => k_is); (case k8 => ktr_room); (case k9 => exact BindsTo.of_eq rfl); (case c5 => decide); (case kB => exact locs rfl); (case c2 => exact rfl); (case c3 => exact rfl); (case c4 => exact rfl); k_whole; intro g' L' h' FG' F' N' B' X' T'; (try dsimp only); (try k_lift B'); (try k_fold))
  | (refine' code_defC ?k1 ?k2 ?k3 ?k4 ?k5 ?kA ?kF ?kK ?k6 ?k7 ?k8 ?k9 ?kB ?kD ?_ ?c2 ?c3 ?c4; (case kA => exact rfl); (case kF => exact rfl); (case kK => first | exact rfl | assumption); (case k1 => k_asm); (case k2 => k_asm); (case k3 => k_asm); (case k4 => k_asm); (case k5 => k_asm); (case k6 => k_is); (case k7 => k_is); (case k8 => ktr_room); (case k9 => exact BindsTo.of_eq rfl); (case kB => exact rfl); (case kD => decide +kernel); (case c2 => exact rfl); (case c3 => exact rfl); (case c4 => exact rfl); k_whole; intro g' L' h' tk' cells' FG' F' N' Y' B' X' T' l1; (try k_lt l1); k_cells Y'; (try simp only [List.cons_append, List.nil_append] at N'); (try dsimp only); (try k_lift B'); (try k_fold)))
section
variable {w : World} {mean : ExcName → Option Value} {mg mb : Str → Option Value} {dp un : Nat} {gd : Option (List Code)} {cn : Str} {cs : Scope} {a : Addr} {ccd : Value} {cl : List (Str × Addr)} {outer : List Env} {A₀ : Around} {base h₀ : Heap} {L : Addr} {m : Str → Option Value} {news : List (Addr × Obj)} {s : Shared} {Q E : Value → Shared → Prop}
local macro_rules | `(tactic| kts_go) => `(tactic| (refine' code_defS0 ?k1 ?k2 ?k3 ?k4 ?k5 ?kA ?k6 ?k7 ?k8 ?k9 ?kB ?_ ?cK ?c2 ?c3 ?c4 ?c5; (case kA => exact rfl); (case k2 => k_asm); (case k1 => k_asm); (case k3 => k_asm); (case k4 => k_asm); (case k5 => k_asm); (case k6 => k_is); (case k7 => k_is); (case k8 => k_room); (case k9 => exact BindsTo.of_eq rfl); (case kB => exact locs rfl); (case cK => first | exact rfl | assumption); (case c2 => exact rfl); (case c3 => exact rfl); (case c4 => exact rfl); (case c5 => decide); k_whole; intro g' L' h' FG' F' N' B' X' T' D'; (try dsimp only); (try k_lift B'); (try k_fold)))
local macro_rules | `(tactic| walk_at "call ref") => `(tactic| ((with_reducible show wpAny _ _ (call (Value.ref 60) _) _ _ _); k_dflt (refine check_bad (by k_asm) (by k_asm) (by k_asm) (by k_asm) (by k_asm) (by first | exact rfl | assumption) (by assumption) (by omega) (by omega) (by ktr_room) (by ktr_units) ?_); intro g' h' tk' e' t' dx' ha' hb' ta' tb' tc' tw' n' F' R' u'; (try dsimp only); (try k_fold)))

set_option maxRecDepth 100000 in
set_option maxHeartbeats 8000000 in
theorem told_out {x dx root : Addr} {n : Nat} {b : Int} {t1 t3 : Tok} {hb1 hb2 : Int} {tb1 tb2 : Tok} {nd : Nat} (B : Below A₀ base [] h₀) (F : Fr h₀ L s.heap m) (X : (hd.heap_39 w.params).In h₀) (N : News h₀ L s.heap news) (T : Top hd.view_39 (looseW hd.view_39 []) mean mg mb h₀) (hk : cs.kind = .function)
   (hx : (x, instObj 117 dx) ∈ news) (hdx : (dx, dictOf [⟨hb1, .str (Str.ofString "bits") tb1, .int n t3⟩, ⟨hb2, .str (Str.ofString "root") tb2, .ref root⟩] nd) ∈ news)
   (hb : b < 0 ∨ 2 ^ n ≤ b) (hn : n ≤ 128) (hd' : dp + 16 < recursionLimit) (hu : un + 64 < cLine)
   (ret : ∀ h' tk' r te, Fr h₀ L h' m → News h₀ L h' ((r, tup [.none, .str (Str.ofString "no such prefix") te]) :: news) → (∀ p ∈ news, p.1 ≠ r) → Q (.ref r) { s with heap := h', toks := tk' }) :
   wpAny (model PySem.Challenge.rw_pf0331_01.row.prog w) (ktrTop dp un gd cn cs L a ccd [] []) (call (.ref 163) [.ref x, .int b t1]) Q E s := by
  replace B : Below A₀ h₀ [] h₀ := ⟨B.stack, fun _ _ e => e, trivial⟩
  revert X; k_fill; intro X
  have hb : b < 0 ∨ 2 ^ (n : Int).toNat ≤ b := hb
  refine wpAny_call ?_
  k_dflt kts_go
  k_steps
  rename_i g1 L1 h1 FG1 F1 N1 B1 X1 T1 D1 qk1 ek1 tk1 g2 L2 h2 FG2 F2 N2 B2 X2 T2 g3 h5 tk5 e' t' dx' ha' hb' ta' tb' tc' tw' n' FG3 R5 u5
  refine leave_onX (s := { heap := h5, gens := s.gens, drawn := s.drawn, toks := tk5, os := s.os }) B2 FG3 R5 u5 fun h6 R6 u6 => ?_
  refine' caught_X (s := { heap := h6, gens := s.gens, drawn := s.drawn, toks := tk5, os := s.os }) R6 FG2 B1 u6 X T D1 KtsTurn.refl ?kT ?_
  (case kT => kts_test)
  intro h7 g7 tk7 hd7 T7 F7 N7 B7 X7 P7 D7
  k_lift B7
  k_sweep
  k_steps
  rename Fr _ _ _ _ => F8
  rename News _ _ _ _ => N8
  refine' exc_get (C := 51) F8 ?kX ⟨(N8 (e', exHd 51 (some dx') t' hd7) (by simp)).1, rfl, rfl, (N8 (dx', dictOf [⟨ha', .str (Str.ofString "why") ta', .str (Str.ofString "no such prefix") tw'⟩, ⟨hb', .str (Str.ofString "at") tb', .int (-1) tc'⟩] n') (by simp)).1⟩ ?hga ?hgn ?hp ?hh ?ha ?hn ?hl ?hv ?_
  (case kX => k_asm)
  (case hga => k_is)
  (case hgn => k_is)
  (case hp => (refine' excOver_of ?kC ?kb; (case kC => k_is); (case kb => decide)))
  (case hh => k_is)
  (case ha => k_is)
  (case hn => k_is)
  (case hl => k_get)
  (case hv => k_handed)
  k_steps
  rename _ ∧ _ ∧ AllLt _ _ => l9
  rename_i kF kN _ _
  refine ret _ _ _ tw' kF (fun p hp => ?_) (fun p hp => Nat.ne_of_lt (allLt_mem _ l9.2.2 p hp))
  rcases List.mem_cons.mp hp with rfl | hp
  · exact kN _ (.head _)
  · exact kN _ (.tail _ (.tail _ (.tail _ hp)))

end
end Mine

namespace Mine
open PySem PySem.W PyProof.Rows
local macro_rules | `(tactic| walk_at "pad Ti 0") => `(tactic| skip)
theorem fresh_Ti : True := by
  w_top off
  trivial
local macro_rules | `(tactic| k_room) => `(tactic| ktr_room)
local macro_rules | `(tactic| k_mem) => `(tactic| first | exact List.Mem.head _ | (refine' List.mem_cons_of_mem _ ?_; k_mem))
local macro_rules | `(tactic| ktr_enter) => `(tactic| first
  | (refine' code_def ?k1 ?k2 ?k3 ?k4 ?k5 ?kA ?kF ?kK ?k6 ?k7 ?k8 ?k9 ?kB ?_ ?c2 ?c3 ?c4 ?c5; (case kA => exact rfl); (case kF => exact rfl); (case kK => first | exact rfl | assumption); (case k1 => k_asm); (case k2 => k_asm); (case k3 => k_asm); (case k4 => k_asm); (case k5 => k_asm); (case k6 => k_is); (case k7 => k_is); (case k8 => ktr_room); (case k9 => exact BindsTo.of_eq rfl); (case c5 => decide); (case kB => exact locs rfl); (case c2 => exact rfl); (case c3 => exact rfl); (case c4 => exact rfl); k_whole; intro g' L' h' FG' F' N' B' X' T'; (try dsimp only); (try k_lift B'); (try k_fold))
  | (refine' code_defC ?k1 ?k2 ?k3 ?k4 ?k5 ?kA ?kF ?kK ?k6 ?k7 ?k8 ?k9 ?kB ?kD ?_ ?c2 ?c3 ?c4; (case kA => exact rfl); (case kF => exact rfl); (case kK => first | exact rfl | assumption); (case k1 => k_asm); (case k2 => k_asm); (case k3 => k_asm); (case k4 => k_asm); (case k5 => k_asm); (case k6 => k_is); (case k7 => k_is); (case k8 => ktr_room); (case k9 => exact BindsTo.of_eq rfl); (case kB => exact rfl); (case kD => decide +kernel); (case c2 => exact rfl); (case c3 => exact rfl); (case c4 => exact rfl); k_whole; intro g' L' h' tk' cells' FG' F' N' Y' B' X' T' l1; (try k_lt l1); k_cells Y'; (try simp only [List.cons_append, List.nil_append] at N'); (try dsimp only); (try k_lift B'); (try k_fold)))
section
variable {w : World} {mean : ExcName → Option Value} {mg mb : Str → Option Value} {dp un : Nat} {gd : Option (List Code)} {cn : Str} {cs : Scope} {a : Addr} {ccd : Value} {cl : List (Str × Addr)} {outer : List Env} {A₀ : Around} {base h₀ : Heap} {L : Addr} {m : Str → Option Value} {news : List (Addr × Obj)} {s : Shared} {Q E : Value → Shared → Prop}
local macro_rules | `(tactic| kts_go) => `(tactic| (refine' code_defS0 ?k1 ?k2 ?k3 ?k4 ?k5 ?kA ?k6 ?k7 ?k8 ?k9 ?kB ?_ ?cK ?c2 ?c3 ?c4 ?c5; (case kA => exact rfl); (case k2 => k_asm); (case k1 => k_asm); (case k3 => k_asm); (case k4 => k_asm); (case k5 => k_asm); (case k6 => k_is); (case k7 => k_is); (case k8 => k_room); (case k9 => exact BindsTo.of_eq rfl); (case kB => exact locs rfl); (case cK => first | exact rfl | assumption); (case c2 => exact rfl); (case c3 => exact rfl); (case c4 => exact rfl); (case c5 => decide); k_whole; intro g' L' h' FG' F' N' B' X' T' D'; (try dsimp only); (try k_lift B'); (try k_fold)))
local macro_rules | `(tactic| walk_at "call ref") => `(tactic| ((with_reducible show wpAny _ _ (call (Value.ref 107) _) _ _ _); k_dflt (refine find_ok (by k_asm) (by k_asm) (by k_asm) (by k_asm) (by k_asm) (by first | exact rfl | assumption) (by assumption) (by assumption) (by assumption) (by assumption) (by assumption) (by assumption) (by assumption) (by ktr_room) (by ktr_units) ?_); intro h' tk' F' N'; (try dsimp only); (try k_fold)))
set_option maxRecDepth 100000 in
set_option maxHeartbeats 8000000 in
theorem told_in {x dx root : Addr} {b n : Nat} {t1 t3 : Tok} {hb1 hb2 : Int} {tb1 tb2 : Tok} {nd : Nat} {P : List Bool → Option Addr} {G : List Bool → Value} (B : Below A₀ base [] h₀) (F : Fr h₀ L s.heap m) (X : (hd.heap_39 w.params).In h₀) (N : News h₀ L s.heap news) (T : Top hd.view_39 (looseW hd.view_39 []) mean mg mb h₀) (hk : cs.kind = .function)
   (hx : (x, instObj 117 dx) ∈ news) (hdx : (dx, dictOf [⟨hb1, .str (Str.ofString "bits") tb1, .int n t3⟩, ⟨hb2, .str (Str.ofString "root") tb2, .ref root⟩] nd) ∈ news)
   (hroot : P [] = some root) (Tr : Trie news P G) (hG : ∀ q, G q = .none ∨ ∃ g, G q = .ref g)
   (hbn : b < 2 ^ n) (hn : n ≤ 128) (hd' : dp + 16 < recursionLimit) (hu : un + 64 < cLine)
   (ret : ∀ h' tk' r te, Fr h₀ L h' m → News h₀ L h' ((r, tup [bestG G n b n, .str (Str.ofString "") te]) :: news) → (∀ p ∈ news, p.1 ≠ r) → Q (.ref r) { s with heap := h', toks := tk' }) :
   wpAny (model PySem.Challenge.rw_pf0331_01.row.prog w) (ktrTop dp un gd cn cs L a ccd [] []) (call (.ref 163) [.ref x, .int b t1]) Q E s := by
  replace B : Below A₀ h₀ [] h₀ := ⟨B.stack, fun _ _ e => e, trivial⟩
  revert X; k_fill; intro X
  refine wpAny_call ?_
  k_dflt kts_go
  k_steps
  rename_i l1 kF kN _ _
  exact ret _ _ _ _ kF kN (fun p hp => Nat.ne_of_lt (l1 p hp))

end
end Mine

namespace Mine
open PySem PySem.W PyProof.Rows

theorem div_two_of {a p : Nat} (h : 0 < p) : a / (2 * p) = a / p / 2 := by
  rw [Nat.mul_comm, Nat.div_div_eq_div_mul]
/-- two addresses have the same first l bits when the same is left of them without the last n - l -/
theorem bits_eq {n x b : Nat} (hx : x < 2 ^ n) (hb : b < 2 ^ n) : ∀ l, l ≤ n → (bitsOf n x l = bitsOf n b l ↔ x / 2 ^ (n - l) = b / 2 ^ (n - l))
  | 0, _ => by
    rw [Nat.sub_zero, Nat.div_eq_of_lt hx, Nat.div_eq_of_lt hb]
    exact ⟨fun _ => rfl, fun _ => rfl⟩
  | l + 1, h => by
    have ih := bits_eq hx hb l (by omega)
    have e1 : n - l = (n - 1 - l) + 1 := by omega
    have e2 : n - (l + 1) = n - 1 - l := by omega
    have hp : 0 < 2 ^ (n - 1 - l) := Nat.pow_pos (by omega)
    rw [e1, Nat.pow_succ, Nat.mul_comm, div_two_of hp, div_two_of hp] at ih
    rw [bitsOf_succ, bitsOf_succ, e2]
    obtain ⟨y, hy⟩ : ∃ y, y = x / 2 ^ (n - 1 - l) := ⟨_, rfl⟩
    obtain ⟨z, hz⟩ : ∃ z, z = b / 2 ^ (n - 1 - l) := ⟨_, rfl⟩
    have bx : bitAt n x l = (y % 2 == 1) := by rw [hy]; rfl
    have bb : bitAt n b l = (z % 2 == 1) := by rw [hz]; rfl
    rw [← hy, ← hz] at ih ⊢
    rw [bx, bb]
    constructor
    · intro q
      obtain ⟨q1, q2⟩ := snoc_inj q
      have q1 := ih.mp q1
      rcases Nat.mod_two_eq_zero_or_one y with c | c <;> rcases Nat.mod_two_eq_zero_or_one z with d | d <;> simp [c, d] at q2 <;> omega
    · intro q
      rw [q] at ih ⊢
      rw [ih.mpr rfl]

theorem low_eq (n b l : Nat) : lowOf n b l = ((b / 2 ^ (n - l) * 2 ^ (n - l) : Nat) : Int) := by
  unfold lowOf
  have e : ((n : Int) - (l : Int)).toNat = n - l := by omega
  have e2 : ((2 : Int) ^ (n - l)) = ((2 ^ (n - l) : Nat) : Int) := by simp
  rw [e, e2, Int.fmod_eq_emod_of_nonneg _ (Int.natCast_nonneg _)]
  have h := Nat.div_add_mod b (2 ^ (n - l))
  rw [← Int.natCast_emod]
  rw [Nat.mul_comm] at h
  omega
theorem in_block {n x b l : Nat} : (lowOf n b l ≤ x ∧ (x : Int) ≤ highOf n b l) ↔ x / 2 ^ (n - l) = b / 2 ^ (n - l) := by
  unfold highOf
  rw [low_eq]
  have e : ((n : Int) - (l : Int)).toNat = n - l := by omega
  have e2 : ((2 : Int) ^ (n - l)) = ((2 ^ (n - l) : Nat) : Int) := by simp
  rw [e, e2]
  have hp : 0 < 2 ^ (n - l) := Nat.pow_pos (by omega)
  obtain ⟨p, hpe⟩ : ∃ p, p = 2 ^ (n - l) := ⟨_, rfl⟩
  rw [← hpe] at hp ⊢
  obtain ⟨q, hq⟩ : ∃ q, q = b / p := ⟨_, rfl⟩
  rw [← hq]
  have h3 : x / p = q ↔ q * p ≤ x ∧ x < (q + 1) * p := by
    rw [Nat.div_eq_iff hp]
    have : (q + 1) * p = q * p + p := by rw [Nat.add_mul, Nat.one_mul]
    omega
  rw [h3]
  have : (q + 1) * p = q * p + p := by rw [Nat.add_mul, Nat.one_mul]
  omega

/-- the longest prefix of an address that has a goal, and the goal -/
def bestP (G : List Bool → Value) (n x : Nat) : Nat → Int × Value
  | 0 => match G [] with
    | .none => (-1, .none)
    | v => (0, v)
  | k + 1 => match G (bitsOf n x (k + 1)) with
    | .none => bestP G n x k
    | v => (((k + 1 : Nat) : Int), v)
theorem bestP_snd (G : List Bool → Value) (n x : Nat) : ∀ k, (bestP G n x k).2 = bestG G n x k
  | 0 => by unfold bestP bestG; cases G [] <;> rfl
  | k + 1 => by
    unfold bestP bestG
    have ih := bestP_snd G n x k
    cases G (bitsOf n x (k + 1)) <;> first | exact ih | rfl
theorem bestP_le (G : List Bool → Value) (n x : Nat) : ∀ k, (bestP G n x k).1 ≤ (k : Int)
  | 0 => by unfold bestP; cases G [] <;> first | exact Int.le_refl _ | (show (-1 : Int) ≤ 0; omega)
  | k + 1 => by
    unfold bestP
    have ih := bestP_le G n x k
    cases G (bitsOf n x (k + 1)) <;> first | exact Int.le_refl _ | (refine Int.le_trans ih ?_; omega)
theorem bestP_zero {G : List Bool → Value} {n x : Nat} : bestP G n x 0 = match G [] with | .none => (-1, .none) | v => (0, v) := rfl
theorem bestP_succ {G : List Bool → Value} {n x k : Nat} : bestP G n x (k + 1) = match G (bitsOf n x (k + 1)) with | .none => bestP G n x k | v => (((k + 1 : Nat) : Int), v) := rfl
theorem bestP_none {G : List Bool → Value} {n x k : Nat} (h : G (bitsOf n x (k + 1)) = .none) : bestP G n x (k + 1) = bestP G n x k := by rw [bestP_succ, h]
theorem bestP_some {G : List Bool → Value} {n x k : Nat} {g : Addr} (h : G (bitsOf n x (k + 1)) = .ref g) : bestP G n x (k + 1) = (((k + 1 : Nat) : Int), .ref g) := by rw [bestP_succ, h]

theorem updG_other {G : List Bool → Value} {q r : List Bool} {v : Value} (h : r ≠ q) : updG G q v r = G r := if_neg h
theorem updG_self {G : List Bool → Value} {q : List Bool} {v : Value} : updG G q v q = v := if_pos rfl
theorem bestP_miss {G : List Bool → Value} {n x b l : Nat} {v : Value} (h : bitsOf n x l ≠ bitsOf n b l) : ∀ k, bestP (updG G (bitsOf n b l) v) n x k = bestP G n x k := by
  have off : ∀ j, bitsOf n x j ≠ bitsOf n b l := fun j q => by
    have := congrArg List.length q
    rw [bitsOf_length, bitsOf_length] at this
    rw [this] at q
    exact h q
  intro k
  induction k with
  | zero => rw [bestP_zero, bestP_zero, updG_other (r := []) (off 0)]
  | succ k ih => rw [bestP_succ, bestP_succ, updG_other (off (k + 1)), ih]
theorem bestP_hit {G : List Bool → Value} (hG : ∀ q, G q = .none ∨ ∃ g, G q = .ref g) {n x b l : Nat} {g : Addr} (h : bitsOf n x l = bitsOf n b l) : ∀ k, l ≤ k → bestP (updG G (bitsOf n b l) (.ref g)) n x k = if (bestP G n x k).1 ≤ (l : Int) then ((l : Int), .ref g) else bestP G n x k := by
  intro k hk
  induction k with
  | zero =>
    have hl : l = 0 := by omega
    subst hl
    rw [if_pos (bestP_le G n x 0), bestP_zero]
    have : updG G (bitsOf n b 0) (.ref g) [] = .ref g := updG_self
    rw [this]; rfl
  | succ k ih =>
    by_cases hl : l = k + 1
    · subst hl
      rw [if_pos (bestP_le G n x (k + 1)), ← h]
      exact bestP_some updG_self
    · have hne : bitsOf n x (k + 1) ≠ bitsOf n b l := fun q => by
        have := congrArg List.length q
        rw [bitsOf_length, bitsOf_length] at this
        omega
      rcases hG (bitsOf n x (k + 1)) with z | ⟨g', z⟩
      · rw [bestP_none (by rw [updG_other hne]; exact z), bestP_none z]
        exact ih (by omega)
      · have e1 : bestP (updG G (bitsOf n b l) (.ref g)) n x (k + 1) = (((k + 1 : Nat) : Int), .ref g') := bestP_some (by rw [updG_other hne]; exact z)
        rw [e1, bestP_some z, if_neg (by simp only; omega)]

theorem due_best {n x : Nat} (hx : x < 2 ^ n) (es : List Ent) (hes : ∀ e ∈ es, e.1 < 2 ^ n ∧ e.2.1 ≤ n) : dueOf n x es = bestP (goalsOf n es) n x n := by
  have base : ∀ k, bestP (fun _ => Value.none) n x k = (-1, .none) := by
    intro k
    induction k with
    | zero => rfl
    | succ k ih => rw [bestP_none rfl, ih]
  have aux : ∀ i, i ≤ es.length → dueOf n x (es.take i) = bestP (goalsOf n (es.take i)) n x n := by
    intro i
    induction i with
    | zero => intro _; rw [List.take_zero]; exact (base n).symm
    | succ i ih =>
      intro hi
      have he : es[i]? = some es[i] := List.getElem?_eq_getElem (by omega)
      obtain ⟨⟨b, l, g⟩, hbl⟩ : ∃ e, e = es[i] := ⟨_, rfl⟩
      have hm := hes _ (List.getElem_mem (show i < es.length by omega))
      rw [← hbl] at he hm
      rw [take_snoc he, dueOf_snoc, goalsOf_snoc, ih (by omega)]
      have hm1 : b < 2 ^ n := hm.1
      have hm2 : l ≤ n := hm.2
      show dueStep n x (bestP (goalsOf n (es.take i)) n x n) (b, l, g) = bestP (updG (goalsOf n (es.take i)) (bitsOf n b l) (.ref g)) n x n
      by_cases hh : bitsOf n x l = bitsOf n b l
      · rw [bestP_hit (goalsOf_kind n _) hh n hm2]
        have hb := in_block.mpr ((bits_eq hx hm1 l hm2).mp hh)
        by_cases hc : (bestP (goalsOf n (es.take i)) n x n).1 ≤ (l : Int)
        · rw [if_pos hc, dueStep_hit hb.1 hb.2 hc]
        · rw [if_neg hc, dueStep_miss fun z => hc z.2.2]
      · rw [bestP_miss hh, dueStep_miss fun z => hh ((bits_eq hx hm1 l hm2).mpr (in_block.mp ⟨z.1, z.2.1⟩))]
  have := aux es.length (Nat.le_refl _)
  rwa [List.take_length] at this
/-- the plain law: what find gives is what is due -/
theorem plain_law {n x : Nat} (hx : x < 2 ^ n) (es : List Ent) (hes : ∀ e ∈ es, e.1 < 2 ^ n ∧ e.2.1 ≤ n) : bestG (goalsOf n es) n x n = (dueOf n x es).2 := by
  rw [due_best hx es hes, bestP_snd]
theorem RowsAre.valid {news : List (Addr × Obj)} {n : Nat} {vs : List Value} {es : List Ent} (R : RowsAre news n vs es) : ∀ e ∈ es, e.1 < 2 ^ n ∧ e.2.1 ≤ n := fun e he => by
  obtain ⟨i, hi, rfl⟩ := List.mem_iff_getElem.mp he
  have hv : vs[i]? = some (vs[i]'(by rw [R.len]; exact hi)) := List.getElem?_eq_getElem _
  obtain ⟨b, l, g, r, t1, t2, a1, a2, a3, a4, a5⟩ := R.row i _ hv
  rw [List.getElem?_eq_getElem hi] at a1
  rw [Option.some.inj a1]
  exact ⟨a4, a5⟩
end Mine

namespace Mine
open PySem PySem.W PyProof.Rows
local macro_rules | `(tactic| k_room) => `(tactic| ktr_room)
local macro_rules | `(tactic| k_mem) => `(tactic| first | exact List.Mem.head _ | (refine' List.mem_cons_of_mem _ ?_; k_mem))
local macro_rules | `(tactic| ktr_enter) => `(tactic| first
  | (refine' code_def ?k1 ?k2 ?k3 ?k4 ?k5 ?kA ?kF ?kK ?k6 ?k7 ?k8 ?k9 ?kB ?_ ?c2 ?c3 ?c4 ?c5; (case kA => exact rfl); (case kF => exact rfl); (case kK => first | exact rfl | assumption); (case k1 => k_asm); (case k2 => k_asm); (case k3 => k_asm); (case k4 => k_asm); (case k5 => k_asm); (case k6 => k_is); (case k7 => k_is); (case k8 => ktr_room); (case k9 => exact BindsTo.of_eq rfl); (case c5 => decide); (case kB => exact locs rfl); (case c2 => exact rfl); (case c3 => exact rfl); (case c4 => exact rfl); k_whole; intro g' L' h' FG' F' N' B' X' T'; (try dsimp only); (try k_lift B'); (try k_fold))
  | (refine' code_defC ?k1 ?k2 ?k3 ?k4 ?k5 ?kA ?kF ?kK ?k6 ?k7 ?k8 ?k9 ?kB ?kD ?_ ?c2 ?c3 ?c4; (case kA => exact rfl); (case kF => exact rfl); (case kK => first | exact rfl | assumption); (case k1 => k_asm); (case k2 => k_asm); (case k3 => k_asm); (case k4 => k_asm); (case k5 => k_asm); (case k6 => k_is); (case k7 => k_is); (case k8 => ktr_room); (case k9 => exact BindsTo.of_eq rfl); (case kB => exact rfl); (case kD => decide +kernel); (case c2 => exact rfl); (case c3 => exact rfl); (case c4 => exact rfl); k_whole; intro g' L' h' tk' cells' FG' F' N' Y' B' X' T' l1; (try k_lt l1); k_cells Y'; (try simp only [List.cons_append, List.nil_append] at N'); (try dsimp only); (try k_lift B'); (try k_fold)))
section
variable {w : World} {mean : ExcName → Option Value} {mg mb : Str → Option Value} {dp un : Nat} {gd : Option (List Code)} {cn : Str} {cs : Scope} {a : Addr} {ccd : Value} {cl : List (Str × Addr)} {outer : List Env} {A₀ : Around} {base h₀ : Heap} {L : Addr} {m : Str → Option Value} {news : List (Addr × Obj)} {s : Shared} {Q E : Value → Shared → Prop}
/-- what find tells of an address, any int -/
def ansOf (n : Nat) (es : List Ent) (k : Int) : Value × Str := if 0 ≤ k ∧ k < 2 ^ n then ((dueOf n k.toNat es).2, Str.ofString "") else (.none, Str.ofString "no such prefix")
theorem ansOf_in {n x : Nat} {es : List Ent} (h : x < 2 ^ n) : ansOf n es (x : Int) = ((dueOf n x es).2, Str.ofString "") := by
  have : ((x : Nat) : Int) < 2 ^ n := by exact_mod_cast h
  unfold ansOf
  rw [if_pos ⟨Int.natCast_nonneg x, this⟩, Int.toNat_natCast]
theorem ansOf_out {n : Nat} {es : List Ent} {k : Int} (h : k < 0 ∨ 2 ^ n ≤ k) : ansOf n es k = (.none, Str.ofString "no such prefix") := by
  unfold ansOf
  rw [if_neg (by omega)]
theorem ways_of (n : Nat) (k : Int) : (∃ x : Nat, k = (x : Int) ∧ x < 2 ^ n) ∨ (k < 0 ∨ 2 ^ n ≤ k) := by
  by_cases h0 : k < 0
  · exact .inr (.inl h0)
  · by_cases h1 : 2 ^ n ≤ k
    · exact .inr (.inr h1)
    · refine .inl ⟨k.toNat, by omega, ?_⟩
      have e : k = (k.toNat : Int) := by omega
      rw [e] at h1
      exact_mod_cast Int.not_le.mp h1
set_option maxRecDepth 100000 in
set_option maxHeartbeats 8000000 in
theorem told_any {x dx root : Addr} {n : Nat} {k : Int} {t1 t3 : Tok} {hb1 hb2 : Int} {tb1 tb2 : Tok} {nd : Nat} {P : List Bool → Option Addr} {es : List Ent} (B : Below A₀ base [] h₀) (F : Fr h₀ L s.heap m) (X : (hd.heap_39 w.params).In h₀) (N : News h₀ L s.heap news) (T : Top hd.view_39 (looseW hd.view_39 []) mean mg mb h₀) (hk : cs.kind = .function)
   (hx : (x, instObj 117 dx) ∈ news) (hdx : (dx, dictOf [⟨hb1, .str (Str.ofString "bits") tb1, .int n t3⟩, ⟨hb2, .str (Str.ofString "root") tb2, .ref root⟩] nd) ∈ news)
   (hroot : P [] = some root) (Tr : Trie news P (goalsOf n es)) (hes : ∀ e ∈ es, e.1 < 2 ^ n ∧ e.2.1 ≤ n)
   (hn : n ≤ 128) (hd' : dp + 16 < recursionLimit) (hu : un + 64 < cLine)
   (ret : ∀ h' tk' r te, Fr h₀ L h' m → News h₀ L h' ((r, tup [(ansOf n es k).1, .str (ansOf n es k).2 te]) :: news) → (∀ p ∈ news, p.1 ≠ r) → Q (.ref r) { s with heap := h', toks := tk' }) :
   wpAny (model PySem.Challenge.rw_pf0331_01.row.prog w) (ktrTop dp un gd cn cs L a ccd [] []) (call (.ref 163) [.ref x, .int k t1]) Q E s := by
  rcases ways_of n k with ⟨b, rfl, hb⟩ | hb
  · rw [ansOf_in hb] at ret
    rw [← plain_law hb es hes] at ret
    exact told_in B F X N T hk hx hdx hroot Tr (goalsOf_kind n es) hb hn hd' hu ret
  · rw [ansOf_out hb] at ret
    exact told_out B F X N T hk hx hdx hb hn hd' hu ret
set_option maxRecDepth 100000 in
set_option maxHeartbeats 8000000 in
theorem due_any {rows : Addr} {n : Nat} {k : Int} {t1 t2 : Tok} {vs : List Value} {nn : Nat} {es : List Ent} (B : Below A₀ base outer h₀) (F : Fr h₀ L s.heap m) (X : (hd.heap_39 w.params).In h₀) (N : News h₀ L s.heap news) (T : Top hd.view_39 (looseW hd.view_39 []) mean mg mb h₀) (hk : cs.kind = .function)
   (hrows : (rows, listOf vs.toArray nn) ∈ news) (hR : BlksAre news n vs es)
   (hn : n ≤ 128) (hd' : dp + 16 < recursionLimit) (hu : un + 64 < cLine)
   (ret : ∀ h' tk' r te, Fr h₀ L h' m → News h₀ L h' ((r, tup [(ansOf n es k).1, .str (ansOf n es k).2 te]) :: news) → (∀ p ∈ news, p.1 ≠ r) → Q (.ref r) { s with heap := h', toks := tk' }) :
   wpAny (model PySem.Challenge.rw_pf0331_01.row.prog w) (ktrTop dp un gd cn cs L a ccd cl outer) (call (.ref 156) [.int n t1, .ref rows, .int k t2]) Q E s := by
  rcases ways_of n k with ⟨b, rfl, hb⟩ | hb
  · rw [ansOf_in hb] at ret
    exact due_in B F X N T hk hrows hR hb hn hd' hu ret
  · rw [ansOf_out hb] at ret
    exact due_out B F X N T hk hb hn hd' hu ret

theorem cmp_same {prog : Program} {A : Around} {r1 r2 : Addr} {v : Value} {ws : Str} {te1 te2 : Tok} (N : News h₀ L s.heap news) (h1 : (r1, tup [v, .str ws te1]) ∈ news) (h2 : (r2, tup [v, .str ws te2]) ∈ news) (hu : A.units < cLine) (h : Q (.bool false) s) :
    wpAny (model prog w) A (compareOp .NotEq (.ref r1) (.ref r2)) Q E s := by
  refine cmp_ofNotEq ?_
  refine PySem.SeqAt.RcNeAt.tuples (items := #[v, .str ws te1]) (items2 := #[v, .str ws te2]) (e := fun _ => true) ⟨_, (N _ h1).1, rfl, _, rfl⟩ ⟨_, (N _ h2).1, rfl, _, rfl⟩ hu (fun j hj1 hj2 => ?_) prog w E Q ?_
  · match j, hj1 with
    | 0, _ => exact PySem.SeqAt.EqAt.same v
    | 1, _ =>
      have := PySem.SeqAt.EqAt.str_str (A := A.in1) (s := s) ws te1 ws te2
      rw [beq_self_eq_true] at this
      exact this
  · exact h
theorem StartsAre.nil {news : List (Addr × Obj)} : StartsAre news [] := ⟨fun i v e => by simp at e⟩
theorem StartsAre.cons {news : List (Addr × Obj)} {sv : List Value} {r : Addr} {x y : Int} {t1 t2 : Tok} (h : (r, tup [.int x t1, .int y t2]) ∈ news) (S : StartsAre news sv) : StartsAre news (.ref r :: sv) := by
  refine ⟨fun i v e => ?_⟩
  cases i with
  | zero =>
    rw [List.getElem?_cons_zero] at e
    exact ⟨x, y, r, t1, t2, (Option.some.inj e).symm, h⟩
  | succ i =>
    rw [List.getElem?_cons_succ] at e
    exact S.row i v e

end
end Mine

namespace Mine
open PySem PySem.W PyProof.Rows
theorem fresh_La : True := by
  w_top off
  trivial
local macro_rules | `(tactic| k_room) => `(tactic| ktr_room)
local macro_rules | `(tactic| k_mem) => `(tactic| first | exact List.Mem.head _ | (refine' List.mem_cons_of_mem _ ?_; k_mem))
local macro_rules | `(tactic| ktr_enter) => `(tactic| first
  | (refine' code_def ?k1 ?k2 ?k3 ?k4 ?k5 ?kA ?kF ?kK ?k6 ?k7 ?k8 ?k9 ?kB ?_ ?c2 ?c3 ?c4 ?c5; (case kA => exact rfl); (case kF => exact rfl); (case kK => first | exact rfl | assumption); (case k1 => k_asm); (case k2 => k_asm); (case k3 => k_asm); (case k4 => k_asm); (case k5 => k_asm); (case k6 => k_is); (case k7 => k_is); (case k8 => ktr_room); (case k9 => exact BindsTo.of_eq rfl); (case c5 => decide); (case kB => exact locs rfl); (case c2 => exact rfl); (case c3 => exact rfl); (case c4 => exact rfl); k_whole; intro g' L' h' FG' F' N' B' X' T'; (try dsimp only); (try k_lift B'); (try k_fold))
  | (refine' code_defC ?k1 ?k2 ?k3 ?k4 ?k5 ?kA ?kF ?kK ?k6 ?k7 ?k8 ?k9 ?kB ?kD ?_ ?c2 ?c3 ?c4; (case kA => exact rfl); (case kF => exact rfl); (case kK => first | exact rfl | assumption); (case k1 => k_asm); (case k2 => k_asm); (case k3 => k_asm); (case k4 => k_asm); (case k5 => k_asm); (case k6 => k_is); (case k7 => k_is); (case k8 => ktr_room); (case k9 => exact BindsTo.of_eq rfl); (case kB => exact rfl); (case kD => decide +kernel); (case c2 => exact rfl); (case c3 => exact rfl); (case c4 => exact rfl); k_whole; intro g' L' h' tk' cells' FG' F' N' Y' B' X' T' l1; (try k_lt l1); k_cells Y'; (try simp only [List.cons_append, List.nil_append] at N'); (try dsimp only); (try k_lift B'); (try k_fold)))
section
variable {w : World} {mean : ExcName → Option Value} {mg mb : Str → Option Value} {dp un : Nat} {gd : Option (List Code)} {cn : Str} {cs : Scope} {a : Addr} {ccd : Value} {cl : List (Str × Addr)} {outer : List Env} {A₀ : Around} {base h₀ : Heap} {L : Addr} {m : Str → Option Value} {news : List (Addr × Obj)} {s : Shared} {Q E : Value → Shared → Prop}
local macro_rules | `(tactic| walk_at "eval Call") => `(tactic| ((with_reducible show wpAny _ _ (eval (Expr.Call (Expr.Name _ _) _ _ _) _) _ _ _); k_dflt (refine Call_ ?_)))
local macro_rules | `(tactic| walk_at "call ref") => `(tactic| ((with_reducible show wpAny _ _ (call (Value.ref 135) _) _ _ _); k_dflt (refine digit_tells (by k_asm) (by k_asm) (by k_asm) (by k_asm) (by k_asm) (by first | exact rfl | assumption) (by assumption) (by assumption) (by assumption) (by omega) (by first | ktr_room | decide) (by first | ktr_units | decide) ?_); intro k' t' h' tk' F' N'; (try dsimp only); (try k_fold)))
local macro_rules | `(tactic| walk_at "call ref") => `(tactic| ((with_reducible show wpAny _ _ (call (Value.ref 142) _) _ _ _); refine sub_stop ?_))
local macro_rules | `(tactic| walk_at "call ref") => `(tactic| ((with_reducible show wpAny _ _ (call (Value.ref 149) _) _ _ _); refine sub_stop ?_))
local macro_rules | `(tactic| walk_at "call ref") => `(tactic| ((with_reducible show wpAny _ _ (call (Value.ref 128) _) _ _ _); refine sub_stop ?_))
local macro_rules | `(tactic| walk_at "call ref") => `(tactic| ((with_reducible show wpAny _ _ (call (Value.ref 163) _) _ _ _); refine sub_stop ?_))
local macro_rules | `(tactic| walk_at "call ref") => `(tactic| ((with_reducible show wpAny _ _ (call (Value.ref 156) _) _ _ _); refine sub_stop ?_))
local macro_rules | `(tactic| walk_at "call ref") => `(tactic| ((with_reducible show wpAny _ _ (call (Value.ref 170) _) _ _ _); refine sub_stop ?_))
local macro_rules | `(tactic| walk_at "exec For Name Call cons nil") => `(tactic| (k_here; (rename Fr _ _ _ _ => lF'); (with_unfolding_all refine' For_G lF' ?_ ?k1; (case k1 => (intro _; rfl)); k_whole)))
local macro_rules | `(tactic| walk_at "compareOp NotEq ref") => `(tactic| ((with_reducible show wpAny _ _ (compareOp CmpOp.NotEq (Value.ref _) (Value.ref _)) _ _ _); refine sub_stop ?_))
set_option maxRecDepth 100000 in
set_option maxHeartbeats 8000000 in
theorem law_holds : PySem.Challenge.rw_pf0331_01.Holds := hd (by
  k_go0
  all_goals (try k_fold)
  rename World => w
  rename Shared => s₁
  rename Addr => sl
  rename Below _ _ _ _ => K0
  rename IntsAre _ _ => hI
  rename Heap.IsList _ _ _ => hL
  rename ¬ (_ : Int) < _ => hc
  rename Top _ _ _ _ _ _ => T
  have hfit : List.length _ ≤ 63 := Int.ofNat_le.mp (Int.not_lt.mp hc)
  replace K0 : Below callerA _ [] _ := K0
  dsimp only [Top.heap] at K0
  k_steps
  unfold SubStop
  rename Int => k0
  obtain ⟨n, hn, hlt⟩ := fmod_nat (k0 + 5) 7 (by decide)
  rename Fr _ _ _ _ => F1
  rename News _ _ _ _ => N1
  rw [hn] at F1 ⊢
  k_dflt (refine table_tells (by k_asm) (by k_asm) (by k_asm) (by k_asm) (by k_asm) (by first | exact rfl | assumption) hL hI hfit (by omega) (by omega) (List.Mem.head _) (by repeat (first | exact StartsAre.nil | refine StartsAre.cons (by k_mem) ?_)) (by exact Nat.le_of_ble_eq_true rfl) (by omega) (by first | ktr_room | decide) (by first | ktr_units | decide) ?_)
  intro h2 tk2 tb us es nn2 news2 F2 N2 htb hR hes hsub2
  (try dsimp only); (try k_fold)
  clear F1 N1
  k_steps
  unfold SubStop
  k_dflt (refine blocks_tells (by k_asm) (by k_asm) (by k_asm) (by k_asm) (by k_asm) (by first | exact rfl | assumption) htb hR hes (by omega) (by first | ktr_room | decide) (by first | ktr_units | decide) ?_)
  intro h3 tk3 bl us3 nn3 news3 F3 N3 hbl hB hsub3
  (try dsimp only); (try k_fold)
  k_steps
  unfold SubStop
  k_dflt (refine routes_tells (by k_asm) (by k_asm) (by k_asm) (by k_asm) (by k_asm) (by first | exact rfl | assumption) (hsub3 _ htb) (hR.mono hsub3) (by omega) (by first | ktr_room | decide) (by first | ktr_units | decide) ?_)
  intro h4 tk4 x dx root hb1 hb2 tb1 tb2 nd t3 P news4 F4 N4 Tr hroot hx hdx hsub4
  (try dsimp only); (try k_fold)
  k_steps
  rename Fr _ _ _ _ => F5
  rename News _ _ _ _ => N5
  rename IsRange _ _ _ _ _ _ _ _ => hr
  obtain ⟨p2, hp2⟩ : ∃ p : Nat, p = 2 ^ n := ⟨_, rfl⟩
  have hpow : (2 : Int) ^ ((n : Int).toNat) = (p2 : Int) := by rw [hp2]; simp
  have hp64 : p2 ≤ 64 := hp2 ▸ Nat.pow_le_pow_right (n := 2) (by omega) (show n ≤ 6 by omega)
  rw [hpow] at hr
  refine loopG_range (n := p2 + 2) (fun i m₁ nx => (∃ tb, m₁ (Str.ofString "bits") = some (.int n tb)) ∧ m₁ (Str.ofString "blocks") = some (.ref bl) ∧ m₁ (Str.ofString "routes") = some (.ref x) ∧ m₁ (Str.ofString "script") = some (.ref sl) ∧ ∀ p ∈ news4, p ∈ nx) rfl hr ?_ ?_ F5 N5 ⟨⟨_, rfl⟩, rfl, rfl, rfl, fun p hp => hp⟩ ?_ ?_
  · exact small_one (by omega) (by omega) (by omega) (by omega)
  · rw [rangeSize_nat]; omega
  · rintro i t m₁ nx h tk oI I hi hnI ⟨⟨tb9, hm1⟩, hm2, hm3, hm4, hsub⟩ F₁ N₁
    have F₂ := fr_knows F₁ [(Str.ofString "bits", .int n tb9), (Str.ofString "blocks", .ref bl), (Str.ofString "routes", .ref x), (Str.ofString "script", .ref sl)] (by simp [hm1, hm2, hm3, hm4])
    clear F₁ F5 N5 hr
    k_steps
    unfold SubStop
    k_dflt (refine told_any (by k_asm) (by k_asm) (by k_asm) (by k_asm) (by k_asm) (by first | exact rfl | assumption) (.tail _ (hsub _ hx)) (.tail _ (hsub _ hdx)) hroot (Tr.mono fun p hp => .tail _ (hsub p hp)) hR.valid (by omega) (by first | ktr_room | decide) (by first | ktr_units | decide) ?_)
    intro h6 tk6 r6 te6 F6 N6 hn6
    obtain ⟨an, han⟩ : ∃ z, z = ansOf n es (-1 + (i : Int)) := ⟨_, rfl⟩
    rw [← han] at N6
    (try dsimp only); (try k_fold)
    k_steps
    unfold SubStop
    k_dflt (refine due_any (by k_asm) (by k_asm) (by k_asm) (by k_asm) (by k_asm) (by first | exact rfl | assumption) (.tail _ (.tail _ (hsub _ (hsub4 _ hbl)))) (hB.mono fun p hp => .tail _ (.tail _ (hsub p (hsub4 p hp)))) (by omega) (by first | ktr_room | decide) (by first | ktr_units | decide) ?_)
    intro h7 tk7 r7 te7 F7 N7 hn7
    rw [← han] at N7
    (try dsimp only)
    refine cmp_same N7 (.tail _ (.head _)) (.head _) (by first | ktr_units | decide) ?_
    (try dsimp only); (try k_fold)
    k_steps
    rename Fr _ _ _ _ => F8
    rename News _ _ _ _ => N8
    exact ⟨_, _, _, nx, rfl, F8, fun p hp => N8 p (.tail _ (.tail _ hp)), hnI, (fun p hp => (nomatch hp)), ⟨tb9, by with_unfolding_all rfl⟩, by with_unfolding_all rfl, by with_unfolding_all rfl, by with_unfolding_all rfl, hsub⟩
  · rintro m₁ nx h tk ⟨⟨tb9, hm1⟩, hm2, hm3, hm4, hsub⟩ F₁ N₁
    have F₂ := fr_knows F₁ [(Str.ofString "script", .ref sl)] (by simp [hm4])
    clear F₁ F5 N5 hr
    dsimp only
    k_steps
    unfold SubStop
    rename Int => k1
    obtain ⟨n1, hn1, hlt1⟩ := fmod_nat (k1 + 32) 129 (by decide)
    rename Fr _ _ _ _ => G1
    rename News _ _ _ _ => O1
    rw [hn1] at G1 ⊢
    k_dflt (refine table_tells (by k_asm) (by k_asm) (by k_asm) (by k_asm) (by k_asm) (by first | exact rfl | assumption) hL hI hfit (by omega) (by omega) (List.Mem.head _) (by repeat (first | exact StartsAre.nil | refine StartsAre.cons (by k_mem) ?_)) (by exact Nat.le_of_ble_eq_true rfl) (by omega) (by first | ktr_room | decide) (by first | ktr_units | decide) ?_)
    intro h2 tk2 tb us es nn2 news5 G2 O2 htb hR hes hsub2
    (try dsimp only); (try k_fold)
    clear G1 O1
    k_steps
    unfold SubStop
    k_dflt (refine blocks_tells (by k_asm) (by k_asm) (by k_asm) (by k_asm) (by k_asm) (by first | exact rfl | assumption) htb hR hes (by omega) (by first | ktr_room | decide) (by first | ktr_units | decide) ?_)
    intro h3 tk3 bl us3 nn3 news6 G3 O3 hbl hB hsub3
    (try dsimp only); (try k_fold)
    k_steps
    unfold SubStop
    k_dflt (refine routes_tells (by k_asm) (by k_asm) (by k_asm) (by k_asm) (by k_asm) (by first | exact rfl | assumption) (hsub3 _ htb) (hR.mono hsub3) (by omega) (by first | ktr_room | decide) (by first | ktr_units | decide) ?_)
    intro h4 tk4 x dx root hb1 hb2 tb1 tb2 nd t3 P news7 G4 O4 Tr hroot hx hdx hsub4
    (try dsimp only); (try k_fold)
    k_steps
    unfold SubStop
    k_dflt (refine edges_tells (by k_asm) (by k_asm) (by k_asm) (by k_asm) (by k_asm) (by first | exact rfl | assumption) (hsub4 _ hbl) (hB.mono hsub4) hes (by first | ktr_room | decide) (by first | ktr_units | decide) ?_)
    intro h5 tk5 el us5 ks nn5 news8 G5 O5 hel hks hsub5
    (try dsimp only)
    refine loopG_list (fun i m₁ nx => (∃ tb, m₁ (Str.ofString "bits") = some (.int n1 tb)) ∧ m₁ (Str.ofString "blocks") = some (.ref bl) ∧ m₁ (Str.ofString "routes") = some (.ref x) ∧ ∀ p ∈ news8, p ∈ nx) rfl hel G5 O5 ⟨⟨_, rfl⟩, rfl, rfl, fun p hp => hp⟩ ?_ ?_
    · rintro i v m₁ nx h tk oI I hi hv hnI hlm ⟨⟨tb9, hm1⟩, hm2, hm3, hsub⟩ F₁ N₁
      obtain ⟨k, t, hkk, rfl⟩ := ints_get hks hv
      have F₂ := fr_knows F₁ [(Str.ofString "bits", .int n1 tb9), (Str.ofString "blocks", .ref bl), (Str.ofString "routes", .ref x)] (by simp [hm1, hm2, hm3])
      have hup : ∀ p ∈ news7, p ∈ nx := fun p hp => hsub p (hsub5 p hp)
      clear F₁ G5 O5
      k_steps
      unfold SubStop
      k_dflt (refine told_any (by k_asm) (by k_asm) (by k_asm) (by k_asm) (by k_asm) (by first | exact rfl | assumption) (.tail _ (hup _ hx)) (.tail _ (hup _ hdx)) hroot (Tr.mono fun p hp => .tail _ (hup p hp)) hR.valid (by omega) (by first | ktr_room | decide) (by first | ktr_units | decide) ?_)
      intro h6 tk6 r6 te6 F6 N6 hn6
      obtain ⟨an, han⟩ : ∃ z, z = ansOf n1 es k := ⟨_, rfl⟩
      rw [← han] at N6
      (try dsimp only); (try k_fold)
      k_steps
      unfold SubStop
      k_dflt (refine due_any (by k_asm) (by k_asm) (by k_asm) (by k_asm) (by k_asm) (by first | exact rfl | assumption) (.tail _ (.tail _ (hup _ (hsub4 _ hbl)))) (hB.mono fun p hp => .tail _ (.tail _ (hup p (hsub4 p hp)))) (by omega) (by first | ktr_room | decide) (by first | ktr_units | decide) ?_)
      intro h7 tk7 r7 te7 F7 N7 hn7
      rw [← han] at N7
      (try dsimp only)
      refine cmp_same N7 (.tail _ (.head _)) (.head _) (by first | ktr_units | decide) ?_
      (try dsimp only); (try k_fold)
      k_steps
      rename Fr _ _ _ _ => F8
      rename News _ _ _ _ => N8
      exact ⟨_, _, _, nx, rfl, F8, fun p hp => N8 p (.tail _ (.tail _ hp)), hnI, (fun p hp => by rw [List.mem_singleton.mp hp]; exact hlm), ⟨tb9, by with_unfolding_all rfl⟩, by with_unfolding_all rfl, by with_unfolding_all rfl, hsub⟩
    · rintro m₁ nx h tk hlm ⟨⟨tb9, hm1⟩, hm2, hm3, hsub⟩ F₁ N₁
      clear G5 O5
      dsimp only
      k_steps
      done)

end
end Mine

theorem PySem.Challenge.cw_pf0331_01_holds : PySem.Challenge.rw_pf0331_01.Holds := by
  exact Mine.law_holds
