import PyProof.Rows.All
import Wide.All
import OpenK.AllK
import Wide.FinOn
import Lean
import PySem.Challenge.RW_pb0470_01
open PySem PySem.W PyProof.Rows PySem.Calls PySem.Spec
set_option Elab.async false
set_option maxRecDepth 100000
set_option maxHeartbeats 8000000
namespace Md
noncomputable def Stop (P : Prop) : Prop := P
theorem stop_of {P : Prop} (h : Stop P) : P := h
theorem stop_in {P : Prop} (h : P) : Stop P := h
section
variable {prog : Program} {w : World} {A : Around} {E : Value → Shared → Prop} {s : Shared} {env : Env} {h₀ : Heap} {x : Str} {body : List Stmt} {Q : Flow → Shared → Prop}

theorem range_G {r : Addr} {a₀ b₀ c₀ : Int} {t₀ u₀ v₀ : Tok} {n : Nat} {m₀ : Str → Option Value} {news : List (Addr × Obj)} (J : Nat → (Str → Option Value) → List (Addr × Obj) → Prop)
    (hh : A.handled = none) (hr : IsRange s.heap r a₀ b₀ c₀ t₀ u₀ v₀) (hsmall : Builtin.Range.small a₀ b₀ c₀ = true) (hsz : Builtin.Range.rangeSize a₀ b₀ c₀ = (n : Int)) (F : Fr h₀ env.locals s.heap m₀) (N : News h₀ env.locals s.heap news) (hj : J 0 m₀ news)
    (turn : ∀ (i : Nat) (t : Tok) m₁ nx h tk own, i < n → OwnOff own (nx.map (·.1)) → J i m₁ nx → Fr h₀ env.locals h (fun y => if y = x then some (.int (a₀ + i * c₀) t) else m₁ y) → News h₀ env.locals h (nx ++ own) →
      wpAny (model prog w) A (execs body env) (InvPostG h₀ env.locals (J (i + 1)) own { s with heap := h, toks := tk } Q) E { s with heap := h, toks := tk })
    (done : ∀ m₁ nx h tk, J n m₁ nx → Fr h₀ env.locals h m₁ → News h₀ env.locals h nx → Q .next { s with heap := h, toks := tk }) :
    wpAny (model prog w) A (pyIter (.ref r)) (fun it s₂ => LoopAtV prog w A h₀ env x body Q E it s₂) E s := by
  refine wpAny_pyIter_range hr hsmall ?_
  have W := (Walks.range (prog := prog) (w := w) hh s.heap.objs.size a₀ c₀ n).bound
  refine kdr_loop J W (fun _ h => h) (fun _ h => h) ?_ ?_ ?_ ?_ (by show IsRangeIter _ _ _ _ _; rw [hsz]; simpa using Heap.get?_push_size _ rfl) (F.push _) (fun p hp => ⟨Heap.get?_push_of_some _ (N p hp).1, (N p hp).2⟩) hj ?_ done
  · intro i h hi b hb
    rw [List.mem_singleton.mp hb]
    exact ⟨_, hi⟩
  · intro hm
    exact absurd F.ns.lt ((List.mem_singleton.mp hm) ▸ Nat.lt_irrefl _)
  · intro b hb
    rw [List.mem_singleton.mp hb]
    exact next_is_new F
  · intro p hp hI
    exact absurd (Heap.lt_size (N p hp).1) ((List.mem_singleton.mp hI) ▸ Nat.lt_irrefl _)
  · rintro i v m₁ nx h tk own hi ⟨_, t, rfl⟩ hoff hJ F₁ N₁
    exact turn i t m₁ nx h tk own hi hoff hJ F₁ N₁

/-- names that hold values: the frame's map -/
theorem map_in {x : Str} {ps : List (Str × Value)} {stored : List Str} {m₀ m₁ : Str → Option Value} {v : Value} {L : Addr} {h : Heap} (h1 : ∀ p ∈ ps, m₁ p.1 = some p.2) (h2 : ∀ z, z ≠ x → (∀ p ∈ ps, z ≠ p.1) → stored.contains z = false → m₁ z = m₀ z)
    (F : Fr h₀ L h (fun y => if y = x then some v else m₁ y)) : Fr h₀ L h (fun y => if y = x then some v else kstB (fun z => if stored.contains z then m₁ z else m₀ z) ps y) := kst_fr h1 h2 F

/-- what a turn must hand back: nothing new is kept, the names' values are told -/
noncomputable def ValTurn {σ : Type} (h₀ : Heap) (L : Addr) (ps : σ → List (Str × Value)) (P : σ → Prop) (x : Str) (stored : List Str) (m₀ : Str → Option Value) (nl : List (Addr × Obj)) (s₁ : Shared) (f : Flow) (s₂ : Shared) : Prop :=
  f = .next ∧ ∃ h' tk m' c, s₂ = { s₁ with heap := h', toks := tk } ∧ Fr h₀ L h' m' ∧ News h₀ L h' nl ∧ P c ∧ (∀ p ∈ ps c, m' p.1 = some p.2) ∧ ∀ z, z ≠ x → (∀ p ∈ ps c, z ≠ p.1) → stored.contains z = false → m' z = m₀ z

theorem ValTurn.intro {σ : Type} {L : Addr} {ps : σ → List (Str × Value)} {P : σ → Prop} {x : Str} {stored : List Str} {m₀ m' : Str → Option Value} {nl news' : List (Addr × Obj)} {s₁ : Shared} {h' : Heap} {tk : Nat} (c : σ)
    (F : Fr h₀ L h' m') (N : News h₀ L h' news') (hs : ∀ p ∈ nl, p ∈ news') (hp : P c) (hk : ∀ p ∈ ps c, m' p.1 = some p.2) (hz : ∀ z, z ≠ x → (∀ p ∈ ps c, z ≠ p.1) → stored.contains z = false → m' z = m₀ z) :
    ValTurn h₀ L ps P x stored m₀ nl s₁ .next { s₁ with heap := h', toks := tk } := ⟨rfl, h', tk, m', c, rfl, F, fun p hp => N p (hs p hp), hp, hk, hz⟩

theorem range_val {σ : Type} {r : Addr} {a₀ b₀ c₀ : Int} {t₀ u₀ v₀ : Tok} {n : Nat} {m₀ : Str → Option Value} {news : List (Addr × Obj)} (ps : σ → List (Str × Value)) (P : Nat → σ → Prop) (stored : List Str) (c₁ : σ)
    (hh : A.handled = none) (hr : IsRange s.heap r a₀ b₀ c₀ t₀ u₀ v₀) (hsmall : Builtin.Range.small a₀ b₀ c₀ = true) (hsz : Builtin.Range.rangeSize a₀ b₀ c₀ = (n : Int)) (F : Fr h₀ env.locals s.heap m₀) (N : News h₀ env.locals s.heap news)
    (hk : ∀ p ∈ ps c₁, m₀ p.1 = some p.2) (hp : P 0 c₁)
    (turn : ∀ (i : Nat) (t : Tok) c (u : Str → Option Value) h tk nl, i < n → P i c → (∀ p ∈ news, p ∈ nl) → Fr h₀ env.locals h (fun z => if z = x then some (.int (a₀ + i * c₀) t) else kstB (fun z => if stored.contains z then u z else m₀ z) (ps c) z) → News h₀ env.locals h nl →
      wpAny (model prog w) A (execs body env) (ValTurn h₀ env.locals ps (P (i + 1)) x stored m₀ nl { s with heap := h, toks := tk }) E { s with heap := h, toks := tk })
    (done : ∀ c (u : Str → Option Value) h tk, P n c → Fr h₀ env.locals h (fun z => if z = x then u z else kstB (fun z => if stored.contains z then u z else m₀ z) (ps c) z) → News h₀ env.locals h news → Q .next { s with heap := h, toks := tk }) :
    wpAny (model prog w) A (pyIter (.ref r)) (fun it s₂ => LoopAtV prog w A h₀ env x body Q E it s₂) E s := by
  refine range_G (fun i m nx => nx = news ∧ ∃ c, P i c ∧ (∀ p ∈ ps c, m p.1 = some p.2) ∧ ∀ z, z ≠ x → (∀ p ∈ ps c, z ≠ p.1) → stored.contains z = false → m z = m₀ z) hh hr hsmall hsz F N ⟨rfl, c₁, hp, hk, fun _ _ _ _ => rfl⟩ ?_ ?_
  · rintro i t m₁ nx h tk own hi hoff ⟨rfl, c, hP, h1, h2⟩ F₁ N₁
    refine wpAny_mono (turn i t c m₁ h tk _ hi hP (fun p hp => List.mem_append.mpr (.inl hp)) (kst_fr h1 h2 F₁) N₁) (fun f s₂ p => ?_) fun _ _ e => e
    obtain ⟨rfl, h', tk', m', c', rfl, F', N', hP', hk', hz'⟩ := p
    exact InvEndG.intro F' N' ⟨rfl, c', hP', hk', hz'⟩ hoff (fun p hp => List.mem_append.mpr (.inl hp)) (fun p hp => List.mem_append.mpr (.inr hp))
  · rintro m₁ nx h tk ⟨rfl, c, hP, h1, h2⟩ F₁ N₁
    exact done c m₁ h tk hP (kst_frOut h1 h2 F₁) N₁

/-- what a turn must hand back: the list at a has grown, the names' values are told -/
noncomputable def AppTurn {σ : Type} (h₀ : Heap) (L : Addr) (a : Addr) (ps : σ → List (Str × Value)) (ls : σ → List Int) (P : σ → Prop) (x : Str) (stored : List Str) (m₀ : Str → Option Value) (nl : List (Addr × Obj)) (s₁ : Shared) (f : Flow) (s₂ : Shared) : Prop :=
  f = .next ∧ ∃ h' tk m' c vs ep, s₂ = { s₁ with heap := h', toks := tk } ∧ Fr h₀ L h' m' ∧ News h₀ L h' ((a, listOf (List.toArray vs) ep) :: nl) ∧ IntsAre vs (ls c) ∧ P c ∧ (∀ p ∈ ps c, m' p.1 = some p.2) ∧ ∀ z, z ≠ x → (∀ p ∈ ps c, z ≠ p.1) → stored.contains z = false → m' z = m₀ z

theorem AppTurn.intro {σ : Type} {L a : Addr} {ps : σ → List (Str × Value)} {ls : σ → List Int} {P : σ → Prop} {x : Str} {stored : List Str} {m₀ m' : Str → Option Value} {nl news' : List (Addr × Obj)} {s₁ : Shared} {h' : Heap} {tk : Nat} (c : σ) {vs : List Value} {arr : Array Value} {ep : Nat}
    (F : Fr h₀ L h' m') (N : News h₀ L h' news') (ha : (a, listOf arr ep) ∈ news') (hs : ∀ p ∈ nl, p ∈ news') (harr : arr = vs.toArray) (hi : IntsAre vs (ls c)) (hp : P c) (hk : ∀ p ∈ ps c, m' p.1 = some p.2) (hz : ∀ z, z ≠ x → (∀ p ∈ ps c, z ≠ p.1) → stored.contains z = false → m' z = m₀ z) :
    AppTurn h₀ L a ps ls P x stored m₀ nl s₁ .next { s₁ with heap := h', toks := tk } := by
  subst harr
  exact ⟨rfl, h', tk, m', c, vs, ep, rfl, F, fun p hp => by
    rcases List.mem_cons.mp hp with rfl | hp
    · exact N _ ha
    · exact N _ (hs p hp), hi, hp, hk, hz⟩

theorem range_app {σ : Type} {r a : Addr} {a₀ b₀ c₀ : Int} {t₀ u₀ v₀ : Tok} {n : Nat} {m₀ : Str → Option Value} {news : List (Addr × Obj)} {vs₀ : List Value} {ep₀ : Nat} (ps : σ → List (Str × Value)) (ls : σ → List Int) (P : Nat → σ → Prop) (stored : List Str) (c₁ : σ)
    (hh : A.handled = none) (hr : IsRange s.heap r a₀ b₀ c₀ t₀ u₀ v₀) (hsmall : Builtin.Range.small a₀ b₀ c₀ = true) (hsz : Builtin.Range.rangeSize a₀ b₀ c₀ = (n : Int)) (F : Fr h₀ env.locals s.heap m₀) (N : News h₀ env.locals s.heap ((a, listOf vs₀.toArray ep₀) :: news)) (hne : ∀ p ∈ news, p.1 ≠ a)
    (hi₀ : IntsAre vs₀ (ls c₁)) (hk : ∀ p ∈ ps c₁, m₀ p.1 = some p.2) (hp : P 0 c₁)
    (turn : ∀ (i : Nat) (t : Tok) c (u : Str → Option Value) h tk nl vs ep, i < n → P i c → IntsAre vs (ls c) → (∀ p ∈ news, p ∈ nl) → (∀ p ∈ nl, p.1 ≠ a) → Fr h₀ env.locals h (fun z => if z = x then some (.int (a₀ + i * c₀) t) else kstB (fun z => if stored.contains z then u z else m₀ z) (ps c) z) → News h₀ env.locals h ((a, listOf (List.toArray vs) ep) :: nl) →
      wpAny (model prog w) A (execs body env) (AppTurn h₀ env.locals a ps ls (P (i + 1)) x stored m₀ nl { s with heap := h, toks := tk }) E { s with heap := h, toks := tk })
    (done : ∀ c (u : Str → Option Value) h tk vs ep, P n c → IntsAre vs (ls c) → Fr h₀ env.locals h (fun z => if z = x then u z else kstB (fun z => if stored.contains z then u z else m₀ z) (ps c) z) → News h₀ env.locals h ((a, listOf (List.toArray vs) ep) :: news) → Q .next { s with heap := h, toks := tk }) :
    wpAny (model prog w) A (pyIter (.ref r)) (fun it s₂ => LoopAtV prog w A h₀ env x body Q E it s₂) E s := by
  refine range_G (fun i m nx => ∃ c vs ep, nx = (a, listOf (List.toArray vs) ep) :: news ∧ IntsAre vs (ls c) ∧ P i c ∧ (∀ p ∈ ps c, m p.1 = some p.2) ∧ ∀ z, z ≠ x → (∀ p ∈ ps c, z ≠ p.1) → stored.contains z = false → m z = m₀ z) hh hr hsmall hsz F N ⟨c₁, vs₀, ep₀, rfl, hi₀, hp, hk, fun _ _ _ _ => rfl⟩ ?_ ?_
  · rintro i t m₁ nx h tk own hi hoff ⟨c, vs, ep, rfl, hI, hP, h1, h2⟩ F₁ N₁
    have hoa : ∀ p ∈ own, p.1 ≠ a := fun p hp => hoff p hp a (List.mem_map.mpr ⟨_, .head _, rfl⟩)
    have hon : ∀ p ∈ own, ∀ q ∈ news, p.1 ≠ q.1 := fun p hp q hq => hoff p hp _ (List.mem_map.mpr ⟨q, .tail _ hq, rfl⟩)
    refine wpAny_mono (turn i t c m₁ h tk (news ++ own) vs ep hi hP hI (fun p hp => List.mem_append.mpr (.inl hp)) (fun p hp => (List.mem_append.mp hp).elim (hne p) (hoa p)) (kst_fr h1 h2 F₁) N₁) (fun f s₂ p => ?_) fun _ _ e => e
    obtain ⟨rfl, h', tk', m', c', vs', ep', rfl, F', N', hI', hP', hk', hz'⟩ := p
    refine InvEndG.intro (nx := (a, listOf vs'.toArray ep') :: news) F' N' ⟨c', vs', ep', rfl, hI', hP', hk', hz'⟩ ?_ ?_ (fun p hp => .tail _ (List.mem_append.mpr (.inr hp)))
    · intro p hp b hb
      rcases List.mem_cons.mp hb with rfl | hb
      · exact hoa p hp
      · obtain ⟨q, hq, rfl⟩ := List.mem_map.mp hb
        exact hon p hp q hq
    · intro p hp
      rcases List.mem_cons.mp hp with rfl | hp
      · exact .head _
      · exact .tail _ (List.mem_append.mpr (.inl hp))
  · rintro m₁ nx h tk ⟨c, vs, ep, rfl, hI, hP, h1, h2⟩ F₁ N₁
    exact done c m₁ h tk vs ep hP hI (kst_frOut h1 h2 F₁) N₁

/-- what a turn of a loop that makes one fresh object and keeps its name must hand back -/
noncomputable def RefTurn {σ : Type} (h₀ : Heap) (L : Addr) (Rel : σ → Obj → Prop) (v : σ) (x y : Str) (stored : List Str) (m₀ : Str → Option Value) (nl : List (Addr × Obj)) (s₁ : Shared) (f : Flow) (s₂ : Shared) : Prop :=
  f = .next ∧ ∃ h' tk m' r o, s₂ = { s₁ with heap := h', toks := tk } ∧ Fr h₀ L h' m' ∧ News h₀ L h' ((r, o) :: nl) ∧ (∀ p ∈ nl, p.1 ≠ r) ∧ Rel v o ∧ m' y = some (.ref r) ∧ ∀ z, z ≠ x → z ≠ y → stored.contains z = false → m' z = m₀ z

theorem RefTurn.intro {σ : Type} {L : Addr} {Rel : σ → Obj → Prop} {v : σ} {x y : Str} {stored : List Str} {m₀ m' : Str → Option Value} {nl news' : List (Addr × Obj)} {s₁ : Shared} {h' : Heap} {tk : Nat} {r : Addr} {o : Obj}
    (F : Fr h₀ L h' m') (N : News h₀ L h' news') (hr : (r, o) ∈ news') (hs : ∀ p ∈ nl, p ∈ news') (hne : ∀ p ∈ nl, p.1 ≠ r) (hrel : Rel v o) (hy : m' y = some (.ref r)) (hz : ∀ z, z ≠ x → z ≠ y → stored.contains z = false → m' z = m₀ z) :
    RefTurn h₀ L Rel v x y stored m₀ nl s₁ .next { s₁ with heap := h', toks := tk } :=
  ⟨rfl, h', tk, m', r, o, rfl, F, fun p hp => by
    rcases List.mem_cons.mp hp with rfl | hp
    · exact N _ hr
    · exact N _ (hs p hp), hne, hrel, hy, hz⟩

theorem range_ref {σ : Type} {r : Addr} {a₀ b₀ c₀ : Int} {t₀ u₀ v₀ : Tok} {n : Nat} {m₀ : Str → Option Value} {news : List (Addr × Obj)} {y : Str} (Rel : σ → Obj → Prop) (st : Nat → σ) (stored : List Str)
    (hh : A.handled = none) (hr : IsRange s.heap r a₀ b₀ c₀ t₀ u₀ v₀) (hsmall : Builtin.Range.small a₀ b₀ c₀ = true) (hsz : Builtin.Range.rangeSize a₀ b₀ c₀ = (n : Int)) (F : Fr h₀ env.locals s.heap m₀) (N : News h₀ env.locals s.heap news) (hn : 0 < n)
    (turn0 : ∀ (t : Tok) h tk nl, (∀ p ∈ news, p ∈ nl) → Fr h₀ env.locals h (fun z => if z = x then some (.int a₀ t) else m₀ z) → News h₀ env.locals h nl →
      wpAny (model prog w) A (execs body env) (RefTurn h₀ env.locals Rel (st 1) x y stored m₀ nl { s with heap := h, toks := tk }) E { s with heap := h, toks := tk })
    (turn : ∀ (i : Nat) (t : Tok) a o (u : Str → Option Value) h tk nl, 0 < i → i < n → Rel (st i) o → (∀ p ∈ news, p ∈ nl) → (a, o) ∈ nl → Fr h₀ env.locals h (fun z => if z = x then some (.int (a₀ + i * c₀) t) else if z = y then some (.ref a) else if stored.contains z then u z else m₀ z) → News h₀ env.locals h nl →
      wpAny (model prog w) A (execs body env) (RefTurn h₀ env.locals Rel (st (i + 1)) x y stored m₀ nl { s with heap := h, toks := tk }) E { s with heap := h, toks := tk })
    (done : ∀ (u : Str → Option Value) a o h tk, Rel (st n) o → (∀ p ∈ news, p.1 ≠ a) → Fr h₀ env.locals h (fun z => if z = x then u z else if z = y then some (.ref a) else if stored.contains z then u z else m₀ z) → News h₀ env.locals h ((a, o) :: news) → Q .next { s with heap := h, toks := tk }) :
    wpAny (model prog w) A (pyIter (.ref r)) (fun it s₂ => LoopAtV prog w A h₀ env x body Q E it s₂) E s := by
  refine range_G (fun i m nx => (∀ z, z ≠ x → z ≠ y → stored.contains z = false → m z = m₀ z) ∧ ((i = 0 ∧ nx = news ∧ m = m₀) ∨ (0 < i ∧ ∃ a o, m y = some (.ref a) ∧ Rel (st i) o ∧ nx = (a, o) :: news ∧ ∀ p ∈ news, p.1 ≠ a))) hh hr hsmall hsz F N ⟨fun _ _ _ _ => rfl, .inl ⟨rfl, rfl, rfl⟩⟩ ?_ ?_
  · rintro i t m₁ nx h tk own hi hoff ⟨hm, hJ⟩ F₁ N₁
    have fin : ∀ {f s₂ v}, v = st (i + 1) → (∀ p ∈ news, p ∈ nx) → RefTurn h₀ env.locals Rel v x y stored m₀ (nx ++ own) { s with heap := h, toks := tk } f s₂ →
        InvPostG h₀ env.locals (fun m nx => (∀ z, z ≠ x → z ≠ y → stored.contains z = false → m z = m₀ z) ∧ ((i + 1 = 0 ∧ nx = news ∧ m = m₀) ∨ (0 < i + 1 ∧ ∃ a o, m y = some (.ref a) ∧ Rel (st (i + 1)) o ∧ nx = (a, o) :: news ∧ ∀ p ∈ news, p.1 ≠ a))) own { s with heap := h, toks := tk } Q f s₂ := by
      rintro f s₂ v rfl hsub ⟨rfl, h', tk', m', r', o', rfl, F', N', hne, hrel, hy, hz⟩
      refine InvEndG.intro (nx := (r', o') :: news) F' N' ⟨hz, .inr ⟨Nat.succ_pos _, r', o', hy, hrel, rfl, fun p hp => hne p (List.mem_append.mpr (.inl (hsub p hp)))⟩⟩ ?_ ?_ ?_
      · intro p hp b hb
        rcases List.mem_cons.mp hb with rfl | hb
        · exact hne p (List.mem_append.mpr (.inr hp))
        · obtain ⟨q, hq, rfl⟩ := List.mem_map.mp hb
          exact hoff p hp _ (List.mem_map.mpr ⟨q, hsub q hq, rfl⟩)
      · intro p hp
        rcases List.mem_cons.mp hp with rfl | hp
        · exact .head _
        · exact .tail _ (List.mem_append.mpr (.inl (hsub p hp)))
      · intro p hp
        exact .tail _ (List.mem_append.mpr (.inr hp))
    rcases hJ with ⟨rfl, rfl, rfl⟩ | ⟨hi0, a, o, hy, hrel, rfl, hne⟩
    · have e : a₀ + ((0 : Nat) : Int) * c₀ = a₀ := by simp
      rw [e] at F₁
      exact wpAny_mono (turn0 t h tk _ (fun p hp => List.mem_append.mpr (.inl hp)) F₁ N₁) (fun f s₂ p => fin rfl (fun p hp => hp) p) fun _ _ e => e
    · have em : (fun z => if z = x then some (Value.int (a₀ + i * c₀) t) else m₁ z) = fun z => if z = x then some (Value.int (a₀ + i * c₀) t) else if z = y then some (.ref a) else if stored.contains z then m₁ z else m₀ z := by
        funext z
        by_cases h1 : z = x
        · simp only [if_pos h1]
        · simp only [if_neg h1]
          by_cases h2 : z = y
          · simp only [if_pos h2]; rw [h2]; exact hy
          · simp only [if_neg h2]
            cases h3 : stored.contains z with
            | true => simp
            | false => simp only [Bool.false_eq_true, if_false]; exact hm z h1 h2 h3
      rw [em] at F₁
      exact wpAny_mono (turn i t a o m₁ h tk _ hi0 hi hrel (fun p hp => List.mem_append.mpr (.inl (.tail _ hp))) (List.mem_append.mpr (.inl (.head _))) F₁ N₁) (fun f s₂ p => fin rfl (fun p hp => .tail _ hp) p) fun _ _ e => e
  · rintro m₁ nx h tk ⟨hm, hJ⟩ F₁ N₁
    rcases hJ with ⟨rfl, _⟩ | ⟨_, a, o, hy, hrel, rfl, hne⟩
    · exact absurd hn (Nat.lt_irrefl _)
    · refine done m₁ a o h tk hrel hne ?_ N₁
      have em : (fun z => if z = x then m₁ z else if z = y then some (.ref a) else if stored.contains z then m₁ z else m₀ z) = m₁ := by
        funext z
        by_cases h1 : z = x
        · simp only [if_pos h1]
        · simp only [if_neg h1]
          by_cases h2 : z = y
          · simp only [if_pos h2]; rw [h2]; exact hy.symm
          · simp only [if_neg h2]
            cases h3 : stored.contains z with
            | true => simp
            | false => simp only [Bool.false_eq_true, if_false]; exact (hm z h1 h2 h3).symm
      rw [em]; exact F₁
end
end Md
namespace Md
section
variable {prog : Program} {w : World} {A : Around} {E : Value → Shared → Prop} {s : Shared}

theorem nextOf_tup_item {it l : Addr} {i : Nat} {items : Array Value} {x : Value} {Q : Value → Shared → Prop} (hit : IsTupIter s.heap it l i) (hl : IsTup s.heap l items) (hx : items[i]? = some x)
    (hQ : ∀ h', IsTupIter h' it l (i + 1) → Heap.SameBut it s.heap h' → Q x { s with heap := h' }) : wpAny (model prog w) A (Builtin.SmallTypes.nextOf (.ref it)) Q E s := by
  obtain ⟨o, ho, hc, hd⟩ := id hit
  obtain ⟨ol, hol, _, nl, hdl⟩ := hl
  unfold Builtin.SmallTypes.nextOf
  refine wpAny_bind (wpAny_callSpecial?_slot (name := Str.ofString "__next__") hit.typeIs slot_tupleiter_next
    (wpAny_call_entry slot_tupleiter_next hit.typeIs entry_tupleiter_next ?_ (args_tupleiter_next _)))
  show wpAny _ _ (field (.ref it) 0 >>= _) _ _ s
  refine wpAny_bind (wpAny_field ho hd (x := .ref l) rfl ?_)
  show wpAny _ _ (if (Value.ref l == Value.none) = true then _ else _) _ _ s
  rw [if_neg (show ¬ ((Value.ref l == Value.none) = true) from Bool.false_ne_true)]
  show wpAny _ _ (field (.ref it) 1 >>= _) _ _ s
  refine wpAny_bind (wpAny_field ho hd (x := .int i 0) rfl ?_)
  show wpAny _ _ (seqItems? (.ref l) >>= _) _ _ s
  refine wpAny_bind (wpAny_seqItems hol hdl ?_)
  simp only [Int.toNat_natCast, hx]
  refine wpAny_bind (wpAny_setField ho hd (by simp) (wpAny_pure ⟨x, rfl, wpAny_pure (hQ _ ?_ (Heap.SameBut.update ..))⟩))
  exact ⟨_, Heap.get?_update_self _ ho (Obj.isFreed_of_fields (Obj.data_mapFields hd _)), (Obj.cls_mapFields ..).trans hc, by
    rw [Obj.data_mapFields hd]; simp [rawInt]⟩

theorem nextOf_tup_end {it l : Addr} {i : Nat} {items : Array Value} {Q : Value → Shared → Prop} (hh : A.handled = none) (hit : IsTupIter s.heap it l i) (hl : IsTup s.heap l items) (hx : items[i]? = none)
    (hE : ∀ h' e, Heap.ExtBut it s.heap h' → (∃ o, h'.get? e = some o ∧ o.cls = .type "StopIteration") → E (.ref e) { s with heap := h' }) : wpAny (model prog w) A (Builtin.SmallTypes.nextOf (.ref it)) Q E s := by
  obtain ⟨o, ho, hc, hd⟩ := id hit
  obtain ⟨ol, hol, _, nl, hdl⟩ := hl
  unfold Builtin.SmallTypes.nextOf
  refine wpAny_bind (wpAny_callSpecial?_slot (name := Str.ofString "__next__") hit.typeIs slot_tupleiter_next
    (wpAny_call_entry slot_tupleiter_next hit.typeIs entry_tupleiter_next ?_ (args_tupleiter_next _)))
  show wpAny _ _ (field (.ref it) 0 >>= _) _ _ s
  refine wpAny_bind (wpAny_field ho hd (x := .ref l) rfl ?_)
  show wpAny _ _ (if (Value.ref l == Value.none) = true then _ else _) _ _ s
  rw [if_neg (show ¬ ((Value.ref l == Value.none) = true) from Bool.false_ne_true)]
  show wpAny _ _ (field (.ref it) 1 >>= _) _ _ s
  refine wpAny_bind (wpAny_field ho hd (x := .int i 0) rfl ?_)
  show wpAny _ _ (seqItems? (.ref l) >>= _) _ _ s
  refine wpAny_bind (wpAny_seqItems hol hdl ?_)
  simp only [Int.toNat_natCast, hx]
  refine wpAny_bind (wpAny_rule (wpAny_bind (wpAny_setField ho hd (by simp) ?_)))
  show wpAny _ _ (newExc (.type "StopIteration") [] >>= _) _ _ _
  refine wpAny_bind ?_
  simp only [newExc, newTuple]
  refine wpAny_bind (wpAny_newObj_type ?_ (by size_fits))
  refine wpAny_bind (m := firstArgMember _ _) (wpAny_of_eq (a := Value.none) (by first | rfl | (simp only [firstArgMember]; rfl)) ?_)
  refine wpAny_newObj_type ?_ (by size_fits)
  simp only [raiseNew]
  refine wpAny_bind (wpAny_handled ?_)
  first | rw [show A.in1.handled = none from hh] | rw [hh]
  refine wpAny_bind (wpAny_pure (wpAny_throw ?_))
  exact hE _ _ (((Heap.SameBut.update ..).extBut.push _).push _) ⟨_, Heap.get?_push_size _ rfl, rfl⟩

/-- where a zip over two tuples stands -/
structure ZipSt (z TI TO i1 i2 l1 l2 : Addr) (xs ys : Array Value) (k : Nat) (h : Heap) : Prop where
  z : IsZip h z TI TO .none
  ti : IsPair h TI (.ref i1) (.ref i2)
  to : ∃ a b, IsPair h TO a b
  a1 : IsTupIter h i1 l1 k
  a2 : IsTupIter h i2 l2 k
  b1 : IsTup h l1 xs
  b2 : IsTup h l2 ys

theorem ZipSt.keeps {z TI TO i1 i2 l1 l2 : Addr} {xs ys : Array Value} {k : Nat} {h h' : Heap} (Z : ZipSt z TI TO i1 i2 l1 l2 xs ys k h)
    (hk : ∀ b, b = z ∨ b = TI ∨ b = TO ∨ b = i1 ∨ b = i2 ∨ b = l1 ∨ b = l2 → ∀ o, h.get? b = some o → h'.get? b = some o) : ZipSt z TI TO i1 i2 l1 l2 xs ys k h' := by
  obtain ⟨hz, hti, ⟨a, b, hto⟩, ⟨o1, e1, r1⟩, ⟨o2, e2, r2⟩, ⟨p1, f1, q1⟩, ⟨p2, f2, q2⟩⟩ := Z
  exact ⟨hk z (by simp) _ hz, hk TI (by simp) _ hti, ⟨a, b, hk TO (by simp) _ hto⟩, ⟨o1, hk i1 (by simp) _ e1, r1⟩, ⟨o2, hk i2 (by simp) _ e2, r2⟩, ⟨p1, hk l1 (by simp) _ f1, q1⟩, ⟨p2, hk l2 (by simp) _ f2, q2⟩⟩

theorem zipT_next {z TI TO i1 i2 l1 l2 : Addr} {k : Nat} {xs ys : Array Value} {x y : Value} {Q : Value → Shared → Prop} (D : ZipApart z TI TO i1 i2 l1 l2)
    (Z : ZipSt z TI TO i1 i2 l1 l2 xs ys k s.heap) (hx : xs[k]? = some x) (hy : ys[k]? = some y)
    (hQ : ∀ h', IsZip h' z TI TO (rawInt s.heap.objs.size) → (∀ h'', IsZip h'' z TI TO .none → Heap.SameBut z h' h'' → ZipSt z TI TO i1 i2 l1 l2 xs ys (k + 1) h'') → IsPair h' s.heap.objs.size x y →
      (∀ c o, c ≠ z → c ≠ TO → c ≠ i1 → c ≠ i2 → s.heap.get? c = some o → h'.get? c = some o) → Q (.ref s.heap.objs.size) { s with heap := h' }) :
    wpAny (model prog w) A (Builtin.«zip.__next__» ⟨[.ref z], []⟩) (fun fin s' => ∃ v, fin = .done (.ret v) ∧ Q v s') E s := by
  obtain ⟨hz, hTI, ⟨a, b, hTO⟩, h1, h2, hl1, hl2⟩ := Z
  show wpAny _ _ (field (.ref z) 2 >>= _) _ _ _
  refine wpAny_bind (wpAny_field hz rfl (x := .bool false) rfl ?_)
  show wpAny _ _ (field (.ref z) 3 >>= _) _ _ _
  refine wpAny_bind (wpAny_field hz rfl (x := .ref TI) rfl ?_)
  refine wpAny_bind (wpAny_seqItems hTI rfl ?_)
  show wpAny _ _ (Builtin.SmallTypes.ownedTupleIsFree (.ref z) >>= _) _ _ _
  refine wpAny_bind ?_
  unfold Builtin.SmallTypes.ownedTupleIsFree
  refine wpAny_bind (wpAny_field hz rfl (x := .none) rfl (wpAny_pure ?_))
  simp only [if_true]
  refine wpAny_bind (wpAny_rule ?_)
  refine wpAny_bind (wpAny_field hz rfl (x := .ref TO) rfl ?_)
  refine wpAny_bind (wpAny_setField_rec hz (by simp) fun h₁ hz₁ hs₁ => ?_)
  replace hz₁ : IsZip h₁ z TI TO .ellipsis := hz₁
  refine wpAny_bind ?_
  simp only [List.zipIdx_cons, List.zipIdx_nil, List.forIn_cons, List.forIn_nil]
  refine wpAny_bind (wpAny_bind (wpAny_onRaise ?_))
  show wpAny _ _ (Builtin.SmallTypes.nextOf (.ref i1) >>= _) _ _ _
  refine wpAny_bind (nextOf_tup_item (h1.extBut hs₁.extBut D.i1z) (hl1.extBut hs₁.extBut D.l1z) hx fun h₂ h1₂ hs₂ => wpAny_pure ?_)
  have hTO₂ : IsPair h₂ TO a b := hs₂.extBut _ _ D.TOi1 (hs₁.extBut _ _ D.TOz hTO)
  refine wpAny_bind (wpAny_seqItems hTO₂ rfl ?_)
  refine wpAny_bind (wpAny_updateSeq_pair hTO₂ fun h₃ hTO₃ hs₃ => ?_)
  replace hTO₃ : IsPair h₃ TO x b := hTO₃
  refine wpAny_bind (wpAny_letGo (wpAny_pure ?_))
  refine wpAny_bind (wpAny_bind (wpAny_onRaise ?_))
  show wpAny _ _ (Builtin.SmallTypes.nextOf (.ref i2) >>= _) _ _ _
  refine wpAny_bind (nextOf_tup_item (((h2.extBut hs₁.extBut D.i2z).extBut hs₂.extBut D.i12.symm).extBut hs₃.extBut D.TOi2.symm)
    (((hl2.extBut hs₁.extBut D.l2z).extBut hs₂.extBut D.l2i1).extBut hs₃.extBut D.l2TO) hy fun h₄ h2₄ hs₄ => wpAny_pure ?_)
  have hTO₄ : IsPair h₄ TO x b := hs₄.extBut _ _ D.TOi2 hTO₃
  refine wpAny_bind (wpAny_seqItems hTO₄ rfl ?_)
  refine wpAny_bind (wpAny_updateSeq_pair hTO₄ fun h₅ hTO₅ hs₅ => ?_)
  replace hTO₅ : IsPair h₅ TO x y := hTO₅
  refine wpAny_bind (wpAny_letGo (wpAny_pure (wpAny_pure ?_)))
  refine wpAny_bind (wpAny_seqItems hTO₅ rfl ?_)
  refine wpAny_bind (wpAny_newTuple ?_)
  have hsz : h₅.objs.size = s.heap.objs.size := by rw [hs₅.1, hs₄.1, hs₃.1, hs₂.1, hs₁.1]
  have hz₅ : IsZip h₅ z TI TO .ellipsis := hs₅.extBut _ _ D.TOz.symm (hs₄.extBut _ _ D.i2z.symm (hs₃.extBut _ _ D.TOz.symm (hs₂.extBut _ _ D.i1z.symm hz₁)))
  have hk₅ : ∀ c o, c ≠ z → c ≠ TO → c ≠ i1 → c ≠ i2 → s.heap.get? c = some o → h₅.get? c = some o := fun c o c1 c2 c3 c4 e =>
    hs₅.extBut _ _ c2 (hs₄.extBut _ _ c4 (hs₃.extBut _ _ c2 (hs₂.extBut _ _ c3 (hs₁.extBut _ _ c1 e))))
  have h1₅ : IsTupIter h₅ i1 l1 (k + 1) := ((h1₂.extBut hs₃.extBut D.TOi1.symm).extBut hs₄.extBut D.i12).extBut hs₅.extBut D.TOi1.symm
  have h2₅ : IsTupIter h₅ i2 l2 (k + 1) := h2₄.extBut hs₅.extBut D.TOi2.symm
  have hzlt : z < h₅.objs.size := Heap.lt_size hz₅
  show wpAny _ _ (Builtin.SmallTypes.ownedTupleHandOut (.ref z) (.ref h₅.objs.size) >>= _) _ _ _
  refine wpAny_bind ?_
  unfold Builtin.SmallTypes.ownedTupleHandOut
  have hz₆ : IsZip (h₅.push { cls := .type "tuple", data := .seq #[x, y] }) z TI TO .ellipsis := Heap.get?_push_of_some _ hz₅
  refine wpAny_bind (wpAny_setField_rec hz₆ (by simp) fun h₇ hz₇ hs₇ => ?_)
  replace hz₇ : IsZip h₇ z TI TO (rawInt h₅.objs.size) := hz₇
  refine wpAny_setField_rec hz₇ (by simp) fun h₈ hz₈ hs₈ => ?_
  replace hz₈ : IsZip h₈ z TI TO (rawInt h₅.objs.size) := hz₈
  have up : ∀ c o, c ≠ z → h₅.get? c = some o → h₈.get? c = some o := fun c o c1 e => hs₈.extBut _ _ c1 (hs₇.extBut _ _ c1 (Heap.get?_push_of_some _ e))
  have hT₈ : IsPair h₈ h₅.objs.size x y := hs₈.extBut _ _ (Nat.ne_of_gt hzlt) (hs₇.extBut _ _ (Nat.ne_of_gt hzlt) (Heap.get?_push_size _ rfl))
  rw [hsz] at hz₈ hT₈
  refine wpAny_pure ⟨_, rfl, ?_⟩
  show Q (.ref h₅.objs.size) _
  rw [hsz]
  obtain ⟨o1, e1, r1⟩ := h1₅
  obtain ⟨o2, e2, r2⟩ := h2₅
  obtain ⟨p1, f1, q1⟩ := hl1
  obtain ⟨p2, f2, q2⟩ := hl2
  refine hQ h₈ hz₈ (fun h'' hz'' hs'' => ⟨hz'', ?_, ⟨x, y, ?_⟩, ⟨o1, ?_, r1⟩, ⟨o2, ?_, r2⟩, ⟨p1, ?_, q1⟩, ⟨p2, ?_, q2⟩⟩) hT₈ fun c o c1 c2 c3 c4 e => up c o c1 (hk₅ c o c1 c2 c3 c4 e)
  · exact hs''.extBut _ _ D.TIz (up _ _ D.TIz (hk₅ _ _ D.TIz D.TITO D.TIi1 D.TIi2 hTI))
  · exact hs''.extBut _ _ D.TOz (up _ _ D.TOz hTO₅)
  · exact hs''.extBut _ _ D.i1z (up _ _ D.i1z e1)
  · exact hs''.extBut _ _ D.i2z (up _ _ D.i2z e2)
  · exact hs''.extBut _ _ D.l1z (up _ _ D.l1z (hk₅ _ _ D.l1z D.l1TO D.l1i1 D.l1i2 f1))
  · exact hs''.extBut _ _ D.l2z (up _ _ D.l2z (hk₅ _ _ D.l2z D.l2TO D.l2i1 D.l2i2 f2))

theorem zipT_end {z TI TO i1 i2 l1 l2 : Addr} {k : Nat} {xs ys : Array Value} {Q : Fin → Shared → Prop} (hh : A.handled = none) (D : ZipApart z TI TO i1 i2 l1 l2)
    (Z : ZipSt z TI TO i1 i2 l1 l2 xs ys k s.heap) (hx : xs[k]? = none)
    (hE : ∀ h' e, (∀ c o, c ≠ z → c ≠ TO → c ≠ i1 → c ≠ i2 → s.heap.get? c = some o → h'.get? c = some o) → (∃ o, h'.get? e = some o ∧ o.cls = .type "StopIteration") → E (.ref e) { s with heap := h' }) :
    wpAny (model prog w) A (Builtin.«zip.__next__» ⟨[.ref z], []⟩) Q E s := by
  obtain ⟨hz, hTI, ⟨a, b, hTO⟩, h1, h2, hl1, hl2⟩ := Z
  show wpAny _ _ (field (.ref z) 2 >>= _) _ _ _
  refine wpAny_bind (wpAny_field hz rfl (x := .bool false) rfl ?_)
  show wpAny _ _ (field (.ref z) 3 >>= _) _ _ _
  refine wpAny_bind (wpAny_field hz rfl (x := .ref TI) rfl ?_)
  refine wpAny_bind (wpAny_seqItems hTI rfl ?_)
  show wpAny _ _ (Builtin.SmallTypes.ownedTupleIsFree (.ref z) >>= _) _ _ _
  refine wpAny_bind ?_
  unfold Builtin.SmallTypes.ownedTupleIsFree
  refine wpAny_bind (wpAny_field hz rfl (x := .none) rfl (wpAny_pure ?_))
  simp only [if_true]
  refine wpAny_bind (wpAny_rule ?_)
  refine wpAny_bind (wpAny_field hz rfl (x := .ref TO) rfl ?_)
  refine wpAny_bind (wpAny_setField_rec hz (by simp) fun h₁ hz₁ hs₁ => ?_)
  replace hz₁ : IsZip h₁ z TI TO .ellipsis := hz₁
  refine wpAny_bind ?_
  simp only [List.zipIdx_cons, List.zipIdx_nil, List.forIn_cons, List.forIn_nil]
  refine wpAny_bind (wpAny_bind (wpAny_onRaise ?_))
  show wpAny _ _ (Builtin.SmallTypes.nextOf (.ref i1) >>= _) _ _ _
  refine wpAny_bind (nextOf_tup_end hh (h1.extBut hs₁.extBut D.i1z) (hl1.extBut hs₁.extBut D.l1z) hx fun h₂ e hs₂ he => ?_)
  obtain ⟨oe, hoe, hce⟩ := he
  have hz₂ : IsZip h₂ z TI TO .ellipsis := hs₂ _ _ D.i1z.symm hz₁
  have hez : e ≠ z := fun x => by subst x; rw [hz₂] at hoe; cases hoe; simp at hce
  refine wpAny_setField_rec hz₂ (by simp) fun h₃ _ hs₃ => hE h₃ e (fun c o c1 _ c3 _ x => hs₃.extBut _ _ c1 (hs₂ _ _ c3 (hs₁.extBut _ _ c1 x))) ⟨oe, hs₃.extBut _ _ hez hoe, hce⟩

theorem pyNext_zipT_item {z TI TO i1 i2 l1 l2 : Addr} {k : Nat} {xs ys : Array Value} {x y : Value} {Q : Option Value → Shared → Prop} (D : ZipApart z TI TO i1 i2 l1 l2)
    (Z : ZipSt z TI TO i1 i2 l1 l2 xs ys k s.heap) (hx : xs[k]? = some x) (hy : ys[k]? = some y)
    (hQ : ∀ h', IsZip h' z TI TO (rawInt s.heap.objs.size) → (∀ h'', IsZip h'' z TI TO .none → Heap.SameBut z h' h'' → ZipSt z TI TO i1 i2 l1 l2 xs ys (k + 1) h'') → IsPair h' s.heap.objs.size x y →
      (∀ c o, c ≠ z → c ≠ TO → c ≠ i1 → c ≠ i2 → s.heap.get? c = some o → h'.get? c = some o) → Q (some (.ref s.heap.objs.size)) { s with heap := h' }) :
    wpAny (model prog w) A (pyNext (.ref z)) Q E s := by
  have hT : s.TypeIs (.ref z) "zip" := ⟨_, Z.z, rfl⟩
  unfold pyNext
  exact wpAny_bind (wpAny_attempt (wpAny_callSpecial?_slot (name := Str.ofString "__next__") hT F.slot_zip_next
    (wpAny_call_entry F.slot_zip_next hT F.entry_zip_next
      (zipT_next D Z hx hy fun h' a1 a2 a3 a4 => wpAny_pure (hQ h' a1 a2 a3 a4)) (F.args_zip_next_1 _))))

theorem pyNext_zipT_end {z TI TO i1 i2 l1 l2 : Addr} {k : Nat} {xs ys : Array Value} {Q : Option Value → Shared → Prop} (hh : A.handled = none) (D : ZipApart z TI TO i1 i2 l1 l2)
    (Z : ZipSt z TI TO i1 i2 l1 l2 xs ys k s.heap) (hx : xs[k]? = none)
    (hQ : ∀ h', (∀ c o, c ≠ z → c ≠ TO → c ≠ i1 → c ≠ i2 → s.heap.get? c = some o → h'.get? c = some o) → Q none { s with heap := h' }) : wpAny (model prog w) A (pyNext (.ref z)) Q E s := by
  have hT : s.TypeIs (.ref z) "zip" := ⟨_, Z.z, rfl⟩
  unfold pyNext
  refine wpAny_bind (wpAny_attempt (wpAny_callSpecial?_slot (name := Str.ofString "__next__") hT F.slot_zip_next
    (wpAny_call_entry F.slot_zip_next hT F.entry_zip_next (zipT_end hh D Z hx fun h' e hk he => ?_) (F.args_zip_next_1 _))))
  obtain ⟨o, ho, hc⟩ := he
  refine wpAny_bind (wpAny_isInstance (T := "StopIteration") (b := true) ⟨o, ho, hc⟩ isSubtype_stop ?_)
  exact wpAny_pure (hQ _ hk)
end

abbrev zt1 (h : Heap) (l1 : Addr) : Heap := h.push { cls := .type "tuple_iterator", data := .fields #[.ref l1, .int 0 0] }
abbrev zt2 (h : Heap) (l1 l2 : Addr) : Heap := (zt1 h l1).push { cls := .type "tuple_iterator", data := .fields #[.ref l2, .int 0 0] }
abbrev zt3 (h : Heap) (l1 l2 : Addr) : Heap := (zt2 h l1 l2).push { cls := .type "tuple", data := .seq #[.ref h.objs.size, .ref (zt1 h l1).objs.size] }
abbrev zt4 (h : Heap) (l1 l2 : Addr) : Heap := (zt3 h l1 l2).push { cls := .type "tuple", data := .seq #[.none, .none] }
abbrev zt5 (h : Heap) (l1 l2 : Addr) : Heap := (zt4 h l1 l2).push { cls := .type "zip", data := .fields #[.none, .bool false, .bool false, .ref (zt2 h l1 l2).objs.size, .ref (zt3 h l1 l2).objs.size] }

theorem meets_zipT (l1 l2 : Addr) (xs ys : Array Value) :
    Meets (Builtin.«zip.__new__» ⟨[.type "zip", .ref l1, .ref l2], []⟩) (fun _ R s => IsTup s.heap l1 xs ∧ IsTup s.heap l2 ys ∧
      R (.ok (.ret (.ref (zt4 s.heap l1 l2).objs.size))) { s with heap := zt5 s.heap l1 l2 }) :=
  .of_wp fun prog w A R s h => by
    obtain ⟨hp, g, d, tk, os⟩ := s; obtain ⟨hl1, hl2, h⟩ := h
    have hsub := sub_zip
    have hL1 : IsTup (Shared.heap ⟨hp, g, d, tk, os⟩) l1 xs := hl1
    have hL2 : IsTup (Shared.heap ⟨hp.push { cls := .type "tuple_iterator", data := .fields #[.ref l1, .int 0 0] }, g, d, tk, os⟩) l2 ys := IsTup.push hl2 _
    wp_walk using iter_tuple hL1, iter_tuple hL2
    exact ⟨_, rfl, h⟩

section
variable {prog : Program} {w : World} {A : Around} {E : Value → Shared → Prop} {s : Shared}
theorem call_zipT {l1 l2 : Addr} {xs ys : Array Value} {Q : Value → Shared → Prop} (hl1 : IsTup s.heap l1 xs) (hl2 : IsTup s.heap l2 ys)
    (h : ∀ h' z TI TO i1 i2, ZipApart z TI TO i1 i2 l1 l2 → ZipSt z TI TO i1 i2 l1 l2 xs ys 0 h' → (∀ c o, s.heap.get? c = some o → h'.get? c = some o) →
      (∀ b, b = z ∨ b = TI ∨ b = TO ∨ b = i1 ∨ b = i2 → s.heap.objs.size ≤ b ∧ b < h'.objs.size) → Q (.ref z) { s with heap := h' }) :
    wpAny (model prog w) A (call (.type "zip") [.ref l1, .ref l2]) Q E s := by
  refine callType_new F.called_zip (by decide) (F.typeCall_zip_2 _ _) (F.newCall_zip_2 _ _) (fun obj => F.args_object_init_3 obj _ _) F.entry_zip_new
    (meets_zipT l1 l2 xs ys) ⟨hl1, hl2, ?_⟩
  have z1 : (zt1 s.heap l1).objs.size = s.heap.objs.size + 1 := Heap.size_push ..
  have z2 : (zt2 s.heap l1 l2).objs.size = s.heap.objs.size + 2 := by rw [Heap.size_push, z1]
  have z3 : (zt3 s.heap l1 l2).objs.size = s.heap.objs.size + 3 := by rw [Heap.size_push, z2]
  have z4 : (zt4 s.heap l1 l2).objs.size = s.heap.objs.size + 4 := by rw [Heap.size_push, z3]
  have z5 : (zt5 s.heap l1 l2).objs.size = s.heap.objs.size + 5 := by rw [Heap.size_push, z4]
  have g5 : (zt5 s.heap l1 l2).get? (zt4 s.heap l1 l2).objs.size = some _ := Heap.get?_push_size _ rfl
  have g4 : (zt5 s.heap l1 l2).get? (zt3 s.heap l1 l2).objs.size = some _ := Heap.get?_push_of_some _ (Heap.get?_push_size _ rfl)
  have g3 : (zt5 s.heap l1 l2).get? (zt2 s.heap l1 l2).objs.size = some _ := Heap.get?_push_of_some _ (Heap.get?_push_of_some _ (Heap.get?_push_size _ rfl))
  have g2 : (zt5 s.heap l1 l2).get? (zt1 s.heap l1).objs.size = some _ := Heap.get?_push_of_some _ (Heap.get?_push_of_some _ (Heap.get?_push_of_some _ (Heap.get?_push_size _ rfl)))
  have g1 : (zt5 s.heap l1 l2).get? s.heap.objs.size = some _ := Heap.get?_push_of_some _ (Heap.get?_push_of_some _ (Heap.get?_push_of_some _ (Heap.get?_push_of_some _ (Heap.get?_push_size _ rfl))))
  have up : ∀ c o, s.heap.get? c = some o → (zt5 s.heap l1 l2).get? c = some o := fun c o x =>
    Heap.get?_push_of_some _ (Heap.get?_push_of_some _ (Heap.get?_push_of_some _ (Heap.get?_push_of_some _ (Heap.get?_push_of_some _ x))))
  show _ ∧ _
  rw [z2, z3, z4] at g5
  rw [z1, z2] at g3
  rw [z3] at g4
  rw [z1] at g2
  rw [z4]
  obtain ⟨p1, f1, q1⟩ := id hl1
  obtain ⟨p2, f2, q2⟩ := id hl2
  refine ⟨⟨_, g5, rfl⟩, h _ _ _ _ _ _ (zipApart_new (Heap.lt_size f1) (Heap.lt_size f2)) ⟨g5, g3, ⟨_, _, g4⟩, ⟨_, g1, rfl, rfl⟩, ⟨_, g2, rfl, rfl⟩, ⟨p1, up _ _ f1, q1⟩, ⟨p2, up _ _ f2, q2⟩⟩ up ?_⟩
  intro b hb
  rw [z5]
  rcases hb with rfl | rfl | rfl | rfl | rfl <;> first | exact ⟨Nat.le_add_right _ _, Nat.add_lt_add_left (by decide) _⟩ | exact ⟨Nat.le_refl _, Nat.lt_add_of_pos_right (by decide)⟩
end
end Md
namespace Md
section
variable {prog : Program} {w : World} {A : Around} {E : Value → Shared → Prop} {s : Shared} {env : Env} {h₀ : Heap} {x : Str} {body : List Stmt} {Q : Flow → Shared → Prop}
theorem walks_list_wr (hh : A.handled = none) (I ax : Addr) (hne : ax ≠ I) (items : Array Value) :
    Walks prog w A I [I, ax] [I, ax] items.size (fun i v => items[i]? = some v) (fun i h => h.IsListIter I ax i ∧ h.IsList ax items) :=
  let W := Walks.list (prog := prog) (w := w) hh I ax hne items
  { sub := fun _ hb => hb, frame := W.frame, self := W.self,
    item := fun i s Q E hi st hQ => W.item i s Q E hi st fun v h' tk p st' k => hQ v h' tk p st' fun b o hb e => k b o (fun hm => hb (List.mem_cons.mpr (.inl (List.mem_singleton.mp hm)))) e,
    done := fun s Q E st hQ => W.done s Q E st fun h' tk k => hQ h' tk fun b o hb e => k b o (fun hm => hb (List.mem_cons.mpr (.inl (List.mem_singleton.mp hm)))) e }
theorem list_G {ax : Addr} {vs : List Value} {ep : Nat} {m₀ : Str → Option Value} {news : List (Addr × Obj)} (J : Nat → (Str → Option Value) → List (Addr × Obj) → Prop)
    (hh : A.handled = none) (F : Fr h₀ env.locals s.heap m₀) (N : News h₀ env.locals s.heap ((ax, listOf vs.toArray ep) :: news)) (hne : ∀ p ∈ news, p.1 ≠ ax) (hj : J 0 m₀ news)
    (turn : ∀ (i : Nat) (v : Value) m₁ nx h tk own, i < vs.length → vs[i]? = some v → OwnOff own (nx.map (·.1)) → J i m₁ nx → Fr h₀ env.locals h (fun y => if y = x then some v else m₁ y) → News h₀ env.locals h (nx ++ own) →
      wpAny (model prog w) A (execs body env) (InvPostG h₀ env.locals (J (i + 1)) own { s with heap := h, toks := tk } Q) E { s with heap := h, toks := tk })
    (done : ∀ m₁ nx h tk, J vs.length m₁ nx → Fr h₀ env.locals h m₁ → News h₀ env.locals h nx → Q .next { s with heap := h, toks := tk }) :
    wpAny (model prog w) A (pyIter (.ref ax)) (fun it s₂ => LoopAtV prog w A h₀ env x body Q E it s₂) E s := by
  have hax := N _ List.mem_cons_self
  have hl : s.heap.IsList ax vs.toArray := ⟨_, hax.1, rfl, _, rfl⟩
  have hlt : ax < s.heap.objs.size := Heap.lt_size hax.1
  refine wpAny_pyIter_list hl ?_
  have W := walks_list_wr (prog := prog) (w := w) hh s.heap.objs.size ax (Nat.ne_of_lt hlt) vs.toArray
  have sz : vs.toArray.size = vs.length := List.size_toArray
  rw [sz] at W
  have up : ∀ b o, s.heap.get? b = some o → (s.heap.push { cls := .type "list_iterator", data := .fields #[.ref ax, .int 0 0] }).get? b = some o := fun b o e => Heap.get?_push_of_some _ e
  refine kdr_loop J W (fun _ h => h) (fun _ h => h) ?_ ?_ ?_ ?_ ⟨⟨_, Heap.get?_push_size _ rfl, rfl, rfl⟩, hl.push _⟩ (F.push _) (fun p hp => ⟨up _ _ (N p (List.mem_cons_of_mem _ hp)).1, (N p (List.mem_cons_of_mem _ hp)).2⟩) hj ?_ done
  · rintro i h ⟨⟨o1, e1, _⟩, o2, e2, _⟩ b hb
    rcases List.mem_cons.mp hb with rfl | hb
    · exact ⟨_, e1⟩
    · rw [List.mem_singleton.mp hb]; exact ⟨_, e2⟩
  · intro hm
    rcases List.mem_cons.mp hm with e | hm
    · exact absurd F.ns.lt (e ▸ Nat.lt_irrefl _)
    · exact hax.2.1 (List.mem_singleton.mp hm).symm
  · intro b hb
    rcases List.mem_cons.mp hb with rfl | hb
    · exact next_is_new F
    · rw [List.mem_singleton.mp hb]; exact hax.2.2
  · intro p hp hI
    rcases List.mem_cons.mp hI with e | hm
    · exact absurd (Heap.lt_size (N p (List.mem_cons_of_mem _ hp)).1) (e ▸ Nat.lt_irrefl _)
    · exact hne p hp (List.mem_singleton.mp hm)
  · rintro i v m₁ nx h tk own hi hv hoff hJ F₁ N₁
    exact turn i v m₁ nx h tk own hi (by simpa using hv) hoff hJ F₁ N₁

/-- a loop over a list of ints that keeps ints in names -/
theorem list_val {σ : Type} {ax : Addr} {vs : List Value} {ns : List Int} {ep : Nat} {m₀ : Str → Option Value} {news : List (Addr × Obj)} (ps : σ → List (Str × Value)) (P : Nat → σ → Prop) (stored : List Str) (c₁ : σ)
    (hh : A.handled = none) (F : Fr h₀ env.locals s.heap m₀) (N : News h₀ env.locals s.heap ((ax, listOf vs.toArray ep) :: news)) (hne : ∀ p ∈ news, p.1 ≠ ax) (hi : IntsAre vs ns)
    (hk : ∀ p ∈ ps c₁, m₀ p.1 = some p.2) (hp : P 0 c₁)
    (turn : ∀ (i : Nat) (k : Int) (t : Tok) c (u : Str → Option Value) h tk nl, i < ns.length → ns[i]? = some k → P i c → (∀ p ∈ news, p ∈ nl) → Fr h₀ env.locals h (fun z => if z = x then some (.int k t) else kstB (fun z => if stored.contains z then u z else m₀ z) (ps c) z) → News h₀ env.locals h nl →
      wpAny (model prog w) A (execs body env) (ValTurn h₀ env.locals ps (P (i + 1)) x stored m₀ nl { s with heap := h, toks := tk }) E { s with heap := h, toks := tk })
    (done : ∀ c (u : Str → Option Value) h tk, P ns.length c → Fr h₀ env.locals h (fun z => if z = x then u z else kstB (fun z => if stored.contains z then u z else m₀ z) (ps c) z) → News h₀ env.locals h news → Q .next { s with heap := h, toks := tk }) :
    wpAny (model prog w) A (pyIter (.ref ax)) (fun it s₂ => LoopAtV prog w A h₀ env x body Q E it s₂) E s := by
  refine list_G (fun i m nx => nx = news ∧ ∃ c, P i c ∧ (∀ p ∈ ps c, m p.1 = some p.2) ∧ ∀ z, z ≠ x → (∀ p ∈ ps c, z ≠ p.1) → stored.contains z = false → m z = m₀ z) hh F N hne ⟨rfl, c₁, hp, hk, fun _ _ _ _ => rfl⟩ ?_ ?_
  · rintro i v m₁ nx h tk own hlt hv hoff ⟨rfl, c, hP, h1, h2⟩ F₁ N₁
    obtain ⟨k, t, e, hk'⟩ := IntsAre.at hi i v hv
    subst e
    refine wpAny_mono (turn i k t c m₁ h tk _ (hi.length ▸ hlt) hk' hP (fun p hp => List.mem_append.mpr (.inl hp)) (kst_fr h1 h2 F₁) N₁) (fun f s₂ p => ?_) fun _ _ e => e
    obtain ⟨rfl, h', tk', m', c', rfl, F', N', hP', hk', hz'⟩ := p
    exact InvEndG.intro F' N' ⟨rfl, c', hP', hk', hz'⟩ hoff (fun p hp => List.mem_append.mpr (.inl hp)) (fun p hp => List.mem_append.mpr (.inr hp))
  · rintro m₁ nx h tk ⟨rfl, c, hP, h1, h2⟩ F₁ N₁
    exact done c m₁ h tk (hi.length ▸ hP) (kst_frOut h1 h2 F₁) N₁

/-- a loop over a list of ints that appends to another list -/
theorem list_app {σ : Type} {ax a : Addr} {vz : List Value} {nz : List Int} {ep : Nat} {m₀ : Str → Option Value} {news : List (Addr × Obj)} {vs₀ : List Value} {ep₀ : Nat} (ps : σ → List (Str × Value)) (ls : σ → List Int) (P : Nat → σ → Prop) (stored : List Str) (c₁ : σ)
    (hh : A.handled = none) (F : Fr h₀ env.locals s.heap m₀) (N : News h₀ env.locals s.heap ((ax, listOf vz.toArray ep) :: (a, listOf vs₀.toArray ep₀) :: news)) (hne : ∀ p ∈ news, p.1 ≠ a) (hna : a ≠ ax) (hnx : ∀ p ∈ news, p.1 ≠ ax) (hiz : IntsAre vz nz)
    (hi₀ : IntsAre vs₀ (ls c₁)) (hk : ∀ p ∈ ps c₁, m₀ p.1 = some p.2) (hp : P 0 c₁)
    (turn : ∀ (i : Nat) (k : Int) (t : Tok) c (u : Str → Option Value) h tk nl vs ep, i < nz.length → nz[i]? = some k → P i c → IntsAre vs (ls c) → (∀ p ∈ news, p ∈ nl) → (∀ p ∈ nl, p.1 ≠ a) → Fr h₀ env.locals h (fun z => if z = x then some (.int k t) else kstB (fun z => if stored.contains z then u z else m₀ z) (ps c) z) → News h₀ env.locals h ((a, listOf (List.toArray vs) ep) :: nl) →
      wpAny (model prog w) A (execs body env) (AppTurn h₀ env.locals a ps ls (P (i + 1)) x stored m₀ nl { s with heap := h, toks := tk }) E { s with heap := h, toks := tk })
    (done : ∀ c (u : Str → Option Value) h tk vs ep, P nz.length c → IntsAre vs (ls c) → Fr h₀ env.locals h (fun z => if z = x then u z else kstB (fun z => if stored.contains z then u z else m₀ z) (ps c) z) → News h₀ env.locals h ((a, listOf (List.toArray vs) ep) :: news) → Q .next { s with heap := h, toks := tk }) :
    wpAny (model prog w) A (pyIter (.ref ax)) (fun it s₂ => LoopAtV prog w A h₀ env x body Q E it s₂) E s := by
  refine list_G (fun i m nx => ∃ c vs ep, nx = (a, listOf (List.toArray vs) ep) :: news ∧ IntsAre vs (ls c) ∧ P i c ∧ (∀ p ∈ ps c, m p.1 = some p.2) ∧ ∀ z, z ≠ x → (∀ p ∈ ps c, z ≠ p.1) → stored.contains z = false → m z = m₀ z) hh F N (fun p hp => by
    rcases List.mem_cons.mp hp with rfl | hp
    · exact hna
    · exact hnx p hp) ⟨c₁, vs₀, ep₀, rfl, hi₀, hp, hk, fun _ _ _ _ => rfl⟩ ?_ ?_
  · rintro i v m₁ nx h tk own hlt hv hoff ⟨c, vs, ep, rfl, hI, hP, h1, h2⟩ F₁ N₁
    obtain ⟨k, t, e, hk'⟩ := IntsAre.at hiz i v hv
    subst e
    have hoa : ∀ p ∈ own, p.1 ≠ a := fun p hp => hoff p hp a (List.mem_map.mpr ⟨_, .head _, rfl⟩)
    have hon : ∀ p ∈ own, ∀ q ∈ news, p.1 ≠ q.1 := fun p hp q hq => hoff p hp _ (List.mem_map.mpr ⟨q, .tail _ hq, rfl⟩)
    refine wpAny_mono (turn i k t c m₁ h tk (news ++ own) vs ep (hiz.length ▸ hlt) hk' hP hI (fun p hp => List.mem_append.mpr (.inl hp)) (fun p hp => (List.mem_append.mp hp).elim (hne p) (hoa p)) (kst_fr h1 h2 F₁) N₁) (fun f s₂ p => ?_) fun _ _ e => e
    obtain ⟨rfl, h', tk', m', c', vs', ep', rfl, F', N', hI', hP', hk', hz'⟩ := p
    refine InvEndG.intro (nx := (a, listOf vs'.toArray ep') :: news) F' N' ⟨c', vs', ep', rfl, hI', hP', hk', hz'⟩ ?_ ?_ (fun p hp => .tail _ (List.mem_append.mpr (.inr hp)))
    · intro p hp b hb
      rcases List.mem_cons.mp hb with rfl | hb
      · exact hoa p hp
      · obtain ⟨q, hq, rfl⟩ := List.mem_map.mp hb
        exact hon p hp q hq
    · intro p hp
      rcases List.mem_cons.mp hp with rfl | hp
      · exact .head _
      · exact .tail _ (List.mem_append.mpr (.inl hp))
  · rintro m₁ nx h tk ⟨c, vs, ep, rfl, hI, hP, h1, h2⟩ F₁ N₁
    exact done c m₁ h tk vs ep (hiz.length ▸ hP) hI (kst_frOut h1 h2 F₁) N₁
end
end Md
namespace Md
noncomputable def IsL4 (v : Int × Int × Int × Int) (o : Obj) : Prop := ∃ (u1 u2 u3 u4 : Tok) (ep : Nat), o = listOf [Value.int v.1 u1, .int v.2.1 u2, .int v.2.2.1 u3, .int v.2.2.2 u4].toArray ep
section
variable {prog : Program} {w : World} {A : Around} {E : Value → Shared → Prop} {s : Shared} {env : Env} {h₀ : Heap} {x : Str} {body : List Stmt} {Q : Flow → Shared → Prop}

/-- what a turn must hand back: the cell c holds a fresh list of four ints -/
noncomputable def CellTurn (h₀ : Heap) (L c : Addr) (ex : List (Addr × Obj) → Prop) (v : Int × Int × Int × Int) (x : Str) (stored : List Str) (m₀ : Str → Option Value) (nl : List (Addr × Obj)) (s₁ : Shared) (f : Flow) (s₂ : Shared) : Prop :=
  f = .next ∧ ∃ h' tk m' r o oc xs, s₂ = { s₁ with heap := h', toks := tk } ∧ Fr h₀ L h' m' ∧ News h₀ L h' ((c, oc) :: (r, o) :: (xs ++ nl)) ∧ oc.data = .cell (some (.ref r)) ∧ ex xs ∧ (∀ p ∈ nl, p.1 ≠ r) ∧ (∀ p ∈ xs, p.1 ≠ r) ∧ r ≠ c ∧ IsL4 v o ∧ ∀ z, z ≠ x → stored.contains z = false → m' z = m₀ z
theorem CellTurn.intro {L c : Addr} {ex : List (Addr × Obj) → Prop} {v : Int × Int × Int × Int} {x : Str} {stored : List Str} {m₀ m' : Str → Option Value} {nl news' : List (Addr × Obj)} {s₁ : Shared} {h' : Heap} {tk : Nat} {r : Addr} {o oc : Obj} (xs : List (Addr × Obj))
    (F : Fr h₀ L h' m') (N : News h₀ L h' news') (hc : (c, oc) ∈ news') (hr : (r, o) ∈ news') (hx : ∀ p ∈ xs, p ∈ news') (hs : ∀ p ∈ nl, p ∈ news') (hd : oc.data = .cell (some (.ref r))) (he : ex xs) (hne : ∀ p ∈ nl, p.1 ≠ r) (hnx : ∀ p ∈ xs, p.1 ≠ r) (hrc : r ≠ c) (hrel : IsL4 v o)
    (hz : ∀ z, z ≠ x → stored.contains z = false → m' z = m₀ z) :
    CellTurn h₀ L c ex v x stored m₀ nl s₁ .next { s₁ with heap := h', toks := tk } :=
  ⟨rfl, h', tk, m', r, o, oc, xs, rfl, F, fun p hp => by
    rcases List.mem_cons.mp hp with rfl | hp
    · exact N _ hc
    · rcases List.mem_cons.mp hp with rfl | hp
      · exact N _ hr
      · exact (List.mem_append.mp hp).elim (fun h => N _ (hx p h)) fun h => N _ (hs p h), hd, he, hne, hnx, hrc, hrel, hz⟩

/-- a loop over a range whose state is the list that the cell c holds; ex tells of further objects that a turn may change, all at addresses of ad -/
theorem cell_loop {r : Addr} {a₀ b₀ c₀ : Int} {t₀ u₀ v₀ : Tok} {n : Nat} {m₀ : Str → Option Value} {news xs₀ : List (Addr × Obj)} {c r₀ : Addr} {oc₀ o₀ : Obj} (ex : List (Addr × Obj) → Prop) (ad : List Addr) (st : Nat → Int × Int × Int × Int) (stored : List Str)
    (hex : ∀ xs, ex xs → ∀ p ∈ xs, p.1 ∈ ad) (had : ∀ xs, ex xs → ∀ a ∈ ad, ∃ p ∈ xs, p.1 = a)
    (hh : A.handled = none) (hr : IsRange s.heap r a₀ b₀ c₀ t₀ u₀ v₀) (hsmall : Builtin.Range.small a₀ b₀ c₀ = true) (hsz : Builtin.Range.rangeSize a₀ b₀ c₀ = (n : Int)) (F : Fr h₀ env.locals s.heap m₀) (N : News h₀ env.locals s.heap ((c, oc₀) :: (r₀, o₀) :: (xs₀ ++ news)))
    (hd : oc₀.data = .cell (some (.ref r₀))) (he : ex xs₀) (hr₀ : IsL4 (st 0) o₀) (hcn : ∀ p ∈ news, p.1 ≠ c) (hrn : ∀ p ∈ news, p.1 ≠ r₀) (han : ∀ p ∈ news, p.1 ∉ ad) (hca : c ∉ ad) (hra : r₀ ∉ ad) (hrc : r₀ ≠ c)
    (turn : ∀ (i : Nat) (t : Tok) r o oc xs (u : Str → Option Value) h tk nl, i < n → IsL4 (st i) o → oc.data = .cell (some (.ref r)) → ex xs → (∀ p ∈ news, p ∈ nl) → (∀ p ∈ nl, p.1 ≠ c) → (∀ p ∈ nl, p.1 ∉ ad) → (r, o) ∈ nl →
      Fr h₀ env.locals h (fun z => if z = x then some (.int (a₀ + i * c₀) t) else if stored.contains z then u z else m₀ z) → News h₀ env.locals h ((c, oc) :: (xs ++ nl)) →
      wpAny (model prog w) A (execs body env) (CellTurn h₀ env.locals c ex (st (i + 1)) x stored m₀ nl { s with heap := h, toks := tk }) E { s with heap := h, toks := tk })
    (done : ∀ r o oc xs (u : Str → Option Value) h tk, IsL4 (st n) o → oc.data = .cell (some (.ref r)) → ex xs → (∀ p ∈ news, p.1 ≠ r) → r ∉ ad → r ≠ c → Fr h₀ env.locals h (fun z => if z = x then u z else if stored.contains z then u z else m₀ z) → News h₀ env.locals h ((c, oc) :: (r, o) :: (xs ++ news)) → Q .next { s with heap := h, toks := tk }) :
    wpAny (model prog w) A (pyIter (.ref r)) (fun it s₂ => LoopAtV prog w A h₀ env x body Q E it s₂) E s := by
  refine range_G (fun i m nx => (∀ z, z ≠ x → stored.contains z = false → m z = m₀ z) ∧ ∃ r o oc xs, nx = (c, oc) :: (r, o) :: (xs ++ news) ∧ IsL4 (st i) o ∧ oc.data = .cell (some (.ref r)) ∧ ex xs ∧ (∀ p ∈ news, p.1 ≠ r) ∧ r ∉ ad ∧ r ≠ c) hh hr hsmall hsz F N ⟨fun _ _ _ => rfl, r₀, o₀, oc₀, xs₀, rfl, hr₀, hd, he, hrn, hra, hrc⟩ ?_ ?_
  · rintro i t m₁ nx h tk own hi hoff ⟨hm, r, o, oc, xs, rfl, hrel, hd, he, hrn, hra, hrc⟩ F₁ N₁
    have hox : ∀ p ∈ own, ∀ b ∈ ((c, oc) :: (r, o) :: (xs ++ news)).map (·.1), p.1 ≠ b := fun p hp b hb => hoff p hp b hb
    have hoc : ∀ p ∈ own, p.1 ≠ c := fun p hp => hox p hp c (List.mem_map.mpr ⟨_, .head _, rfl⟩)
    have hor : ∀ p ∈ own, p.1 ≠ r := fun p hp => hox p hp r (List.mem_map.mpr ⟨_, .tail _ (.head _), rfl⟩)
    have hoa : ∀ p ∈ own, p.1 ∉ ad := fun p hp hm => by
      obtain ⟨q, hq, e⟩ := had xs he p.1 hm
      exact hox p hp q.1 (List.mem_map.mpr ⟨q, .tail _ (.tail _ (List.mem_append.mpr (.inl hq))), rfl⟩) e.symm
    have hon : ∀ p ∈ own, ∀ q ∈ news, p.1 ≠ q.1 := fun p hp q hq => hox p hp q.1 (List.mem_map.mpr ⟨q, .tail _ (.tail _ (List.mem_append.mpr (.inr hq))), rfl⟩)
    have em : (fun z => if z = x then some (Value.int (a₀ + i * c₀) t) else m₁ z) = fun z => if z = x then some (Value.int (a₀ + i * c₀) t) else if stored.contains z then m₁ z else m₀ z := by
      funext z
      by_cases h1 : z = x
      · simp only [if_pos h1]
      · simp only [if_neg h1]
        by_cases h3 : stored.contains z = true
        · rw [if_pos h3]
        · rw [if_neg h3]; exact hm z h1 (by simpa using h3)
    rw [em] at F₁
    refine wpAny_mono (turn i t r o oc xs m₁ h tk ((r, o) :: (news ++ own)) hi hrel hd he (fun p hp => .tail _ (List.mem_append.mpr (.inl hp))) ?_ ?_ (.head _) F₁ (fun p hp => N₁ p ?_)) (fun f s₂ q => ?_) fun _ _ e => e
    · intro p hp
      rcases List.mem_cons.mp hp with rfl | hp
      · exact hrc
      · exact (List.mem_append.mp hp).elim (hcn p) (hoc p)
    · intro p hp
      rcases List.mem_cons.mp hp with rfl | hp
      · exact hra
      · exact (List.mem_append.mp hp).elim (han p) (hoa p)
    · rcases List.mem_cons.mp hp with rfl | hp
      · exact .head _
      · rcases List.mem_append.mp hp with hp | hp
        · exact .tail _ (.tail _ (List.mem_append.mpr (.inl (List.mem_append.mpr (.inl hp)))))
        · rcases List.mem_cons.mp hp with rfl | hp
          · exact .tail _ (.head _)
          · rcases List.mem_append.mp hp with hp | hp
            · exact .tail _ (.tail _ (List.mem_append.mpr (.inl (List.mem_append.mpr (.inr hp)))))
            · exact List.mem_append.mpr (.inr hp)
    · obtain ⟨rfl, h', tk', m', r', o', oc', xs', rfl, F', N', hd', he', hne', hnx', hrc', hrel', hz'⟩ := q
      refine InvEndG.intro (nx := (c, oc') :: (r', o') :: (xs' ++ news)) F' N' ⟨hz', r', o', oc', xs', rfl, hrel', hd', he', fun p hp => hne' p (.tail _ (List.mem_append.mpr (.inl hp))), fun hm => ?_, hrc'⟩ ?_ ?_ ?_
      · obtain ⟨q, hq, e⟩ := had xs' he' r' hm
        exact hnx' q hq e
      · intro p hp b hb
        rcases List.mem_cons.mp hb with rfl | hb
        · exact hoc p hp
        · rcases List.mem_cons.mp hb with rfl | hb
          · exact hne' p (.tail _ (List.mem_append.mpr (.inr hp)))
          · obtain ⟨q, hq, rfl⟩ := List.mem_map.mp hb
            rcases List.mem_append.mp hq with hq | hq
            · exact fun e => hoa p hp (e ▸ hex xs' he' q hq)
            · exact hon p hp q hq
      · intro p hp
        rcases List.mem_cons.mp hp with rfl | hp
        · exact .head _
        · rcases List.mem_cons.mp hp with rfl | hp
          · exact .tail _ (.head _)
          · rcases List.mem_append.mp hp with hp | hp
            · exact .tail _ (.tail _ (List.mem_append.mpr (.inl hp)))
            · exact .tail _ (.tail _ (List.mem_append.mpr (.inr (.tail _ (List.mem_append.mpr (.inl hp))))))
      · intro p hp
        exact .tail _ (.tail _ (List.mem_append.mpr (.inr (.tail _ (List.mem_append.mpr (.inr hp))))))
  · rintro m₁ nx h tk ⟨hm, r, o, oc, xs, rfl, hrel, hd, he, hrn, hra, hrc⟩ F₁ N₁
    have em : m₁ = fun z => if z = x then m₁ z else if stored.contains z then m₁ z else m₀ z := by
      funext z
      by_cases h1 : z = x
      · simp only [if_pos h1]
      · simp only [if_neg h1]
        by_cases h3 : stored.contains z = true
        · rw [if_pos h3]
        · rw [if_neg h3]; exact hm z h1 (by simpa using h3)
    rw [em] at F₁
    exact done r o oc xs m₁ h tk hrel hd he hrn hra hrc F₁ N₁
end
end Md
namespace Md
open LCg
section
variable {prog : Program} {w : World} {A : Around} {E : Value → Shared → Prop} {s : Shared} {h₀ : Heap} {L : Addr} {m : Str → Option Value} {env : Env}

/-- the element of a comprehension over pairs, at the place i: it reads and makes no object -/
noncomputable def ZElt (prog : Program) (w : World) (A : Around) (h₀ : Heap) (L : Addr) (m : Str → Option Value) (env : Env) (elt : PySem.Expr) (x x₂ : Str) (scope : Scope) (cl : List (Str × Addr)) (s : Shared) (xs ys : Array Value) (R : Nat → Value → Prop) : Prop :=
  ∀ (i : Nat) (a b : Value) (C : Addr) (m₂ : Str → Option Value) (h : Heap) (tk : Nat) (E' : Value → Shared → Prop), xs[i]? = some a → ys[i]? = some b → h.Ns C m₂ → m₂ x = some a → m₂ x₂ = some b → Fr h₀ L h m →
    wpAny (model prog w) A (eval elt (compEnvC scope cl C env)) (fun v s' => ∃ tk', s' = { s with heap := h, toks := tk' } ∧ R i v) E' { s with heap := h, toks := tk }

theorem block_Z {elt iter : PySem.Expr} {x x₂ : Str} {px px₂ tp : Pos} {tk} {scope : Scope} {cl : List (Str × Addr)} {pos : Pos} {s₂ : Shared} {z TI TO i1 i2 l1 l2 : Addr} {xs ys : Array Value} {news : List (Addr × Obj)} {R : Nat → Value → Prop}
    {RR : Value → Addr → Result → Shared → Prop}
    (D0 : ZipApart z TI TO i1 i2 l1 l2) (hsz : xs.size ≤ sizeLine) (hxy : xs.size = ys.size)
    (hcell : ∀ y ∈ scope.names, y.2 ≠ .cell) (hkind : scope.kind = .function) (hx : scope.names.lookup x = some .local) (hx₂ : scope.names.lookup x₂ = some .local) (hxx : x ≠ x₂) (hh : A.handled = none) (Z : ZipSt z TI TO i1 i2 l1 l2 xs ys 0 s₂.heap)
    (hnew : ∀ b, b = z ∨ b = TO ∨ b = i1 ∨ b = i2 → L ≠ b ∧ h₀.get? b = none ∧ ∀ p ∈ news, p.1 ≠ b)
    (F : Fr h₀ L s₂.heap m) (N : News h₀ L s₂.heap news)
    (T : ZElt prog w A h₀ L m env elt x x₂ scope cl s₂ xs ys R)
    (hRR : ∀ D C h tk m' vs, Fr h₀ L h m → News h₀ L h ((D, lst vs) :: news) → h.Ns C m' → h₀.get? C = none → h₀.get? D = none → C ≠ L → D ≠ L → C ≠ D → (∀ p ∈ news, p.1 ≠ C) → (∀ p ∈ news, p.1 ≠ D) → vs.length = xs.size → (∀ i v, vs[i]? = some v → R i v) → RR (.ref D) C (.ok .next) { s₂ with heap := h, toks := tk }) :
    wpAny (model prog w) A (newList []) (fun acc s₃ => wpAny (model prog w) A (newFunctionEnv scope env.globals cl [] env.qual none .none (some env)) (fun cenv s₄ =>
      codeAny (model prog w) A (.compStart (.ListComp elt [⟨.Tuple [.Name x px, .Name x₂ px₂] tk tp, iter, [], 0⟩] scope pos) 0 (.ref z) acc { cenv with scope := relabel scope env }) (RR acc cenv.locals) s₄) E s₃) E s₂ := by
  refine wpAny_newObj_type (wpAny_newFunctionEnv hcell (by intro y hy; simp at hy) (fun h₁ hns₁ hsb₁ => ?_) hkind)
  dsimp only at hns₁ hsb₁ ⊢
  generalize hH2 : s₂.heap.push { cls := .type "list", dict := none, data := .seq ([] : List Value).toArray } = H2 at hns₁ hsb₁ ⊢
  generalize hDa : s₂.heap.objs.size = D at *
  generalize hCa : H2.objs.size = C at *
  have hC : C = D + 1 := by rw [← hCa, ← hH2, Heap.size_push, hDa]
  have hCD : C ≠ D := by rw [hC]; exact Nat.succ_ne_self _
  have below : ∀ b, b < D → b ≠ C ∧ b ≠ D := fun b hb => ⟨by rw [hC]; exact Nat.ne_of_lt (Nat.lt_succ_of_lt hb), Nat.ne_of_lt hb⟩
  have old : ∀ b o, s₂.heap.get? b = some o → h₁.get? b = some o := fun b o e => hsb₁.extBut b o (below b (hDa ▸ Heap.lt_size e)).1 (Heap.get?_push_of_some _ (by rw [← hH2]; exact Heap.get?_push_of_some _ e))
  have hacc : h₁.get? D = some (lst []) := hsb₁.extBut _ _ (Ne.symm hCD) (Heap.get?_push_of_some _ (by rw [← hH2, ← hDa]; exact Heap.get?_push_size _ rfl))
  have fresh : ∀ a, D ≤ a → s₂.heap.get? a = none := fun a ha => by
    cases e : s₂.heap.get? a with
    | none => rfl
    | some o' => exact absurd (Heap.lt_size e) (Nat.not_lt.mpr (hDa ▸ ha))
  have fresh₀ : ∀ a, D ≤ a → h₀.get? a = none := fun a ha => by
    cases e : h₀.get? a with
    | none => rfl
    | some o' => have := F.keep a o' e; rw [fresh a ha] at this; cases this
  have hD₀ : h₀.get? D = none := fresh₀ _ (Nat.le_refl _)
  have hC₀ : h₀.get? C = none := fresh₀ _ (by rw [hC]; exact Nat.le_succ _)
  have hLlt : L < D := hDa ▸ F.ns.lt
  have hDL : D ≠ L := Ne.symm (below L hLlt).2
  have hCL : C ≠ L := Ne.symm (below L hLlt).1
  have zlt : ∀ b, b = z ∨ b = TI ∨ b = TO ∨ b = i1 ∨ b = i2 ∨ b = l1 ∨ b = l2 → b < D := by
    obtain ⟨hz, hti, ⟨a, b, hto⟩, ⟨o1, e1, r1⟩, ⟨o2, e2, r2⟩, ⟨p1, f1, q1⟩, ⟨p2, f2, q2⟩⟩ := Z
    rintro b (rfl | rfl | rfl | rfl | rfl | rfl | rfl)
    · exact hDa ▸ Heap.lt_size hz
    · exact hDa ▸ Heap.lt_size hti
    · exact hDa ▸ Heap.lt_size hto
    · exact hDa ▸ Heap.lt_size e1
    · exact hDa ▸ Heap.lt_size e2
    · exact hDa ▸ Heap.lt_size f1
    · exact hDa ▸ Heap.lt_size f2
  have zoff : ∀ b, b = z ∨ b = TI ∨ b = TO ∨ b = i1 ∨ b = i2 ∨ b = l1 ∨ b = l2 → b ≠ C ∧ b ≠ D := fun b hb => below b (zlt b hb)
  have wr : ∀ c, (c = C ∨ c = D ∨ c = L ∨ (∃ o, (c, o) ∈ news) ∨ ∃ o, h₀.get? c = some o) → c ≠ z ∧ c ≠ TO ∧ c ≠ i1 ∧ c ≠ i2 := by
    have one : ∀ b, (b = z ∨ b = TO ∨ b = i1 ∨ b = i2) → ∀ c, (c = C ∨ c = D ∨ c = L ∨ (∃ o, (c, o) ∈ news) ∨ ∃ o, h₀.get? c = some o) → c ≠ b := by
      intro b hb c hc e
      have hb' : b = z ∨ b = TI ∨ b = TO ∨ b = i1 ∨ b = i2 ∨ b = l1 ∨ b = l2 := by rcases hb with h | h | h | h <;> simp [h]
      obtain ⟨n1, n2, n3⟩ := hnew b hb
      rcases hc with rfl | rfl | rfl | ⟨o, hc⟩ | ⟨o, hc⟩
      · exact (zoff b hb').1 e.symm
      · exact (zoff b hb').2 e.symm
      · exact n1 e
      · exact n3 _ hc e
      · rw [e, n2] at hc; cases hc
    exact fun c hc => ⟨one z (by simp) c hc, one TO (by simp) c hc, one i1 (by simp) c hc, one i2 (by simp) c hc⟩
  have ZK : ∀ {k h h'}, ZipSt z TI TO i1 i2 l1 l2 xs ys k h → (∀ c o, c ≠ C → c ≠ D → h.get? c = some o → h'.get? c = some o) → ZipSt z TI TO i1 i2 l1 l2 xs ys k h' := fun Z' hk => Z'.keeps fun b hb o e => hk b o (zoff b hb).1 (zoff b hb).2 e
  have loop : ∀ s₃ : Shared, s₃ = { s₂ with heap := h₁, toks := s₂.toks + ([] : List (Str × Value)).length } →
      codeAny (model prog w) A (.compLoop (.ListComp elt [⟨.Tuple [.Name x px, .Name x₂ px₂] tk tp, iter, [], 0⟩] scope pos) 0 (.ref z) (.ref D) (compEnvC scope cl C env)) (RR (.ref D) C) s₃ := by
    rintro s₃ rfl
    refine LCp.codeAny_compLoop_pair
      (fun k s' => ∃ h' tk i vs m', s' = { s₂ with heap := h', toks := tk } ∧ i ≤ xs.size ∧ k = xs.size + 1 - i ∧ vs.length = i ∧ ZipSt z TI TO i1 i2 l1 l2 xs ys i h' ∧ Fr h₀ L h' m ∧ h'.Ns C m' ∧ News h₀ L h' ((D, lst vs) :: news) ∧ ∀ j v, vs[j]? = some v → R j v) ?_ (xs.size + 1)
      ⟨h₁, _, 0, [], _, rfl, Nat.zero_le _, rfl, rfl, ZK Z (fun c o c1 c2 e => old c o e), F.keeps old, hns₁, fun p hp => ?_, fun j v hv => by simp at hv⟩
    · rintro k s' ⟨h', tk', i, vs, m', rfl, hi, rfl, hvl, Z', F', hn', N', hR⟩
      by_cases hlt : i < xs.size
      · have hlt2 : i < ys.size := hxy ▸ hlt
        refine pyNext_zipT_item D0 Z' (Array.getElem?_eq_getElem hlt) (Array.getElem?_eq_getElem hlt2) fun h₂ hz₂ hZ₂ hT₂ hk₂ => ?_
        refine wpAny_letOwnedTupleGo_zip hz₂ fun h₃ hz₃ hs₃ => ?_
        have Z₃ := hZ₂ h₃ hz₃ hs₃
        have hTz : h'.objs.size ≠ z := Nat.ne_of_gt (Heap.lt_size Z'.z)
        have k₃ : ∀ c o, c ≠ z → c ≠ TO → c ≠ i1 → c ≠ i2 → h'.get? c = some o → h₃.get? c = some o := fun c o c1 c2 c3 c4 e => hs₃.extBut _ _ c1 (hk₂ c o c1 c2 c3 c4 e)
        have hT₃ : IsTup h₃ h'.objs.size #[xs[i], ys[i]] := ⟨_, hs₃.extBut _ _ hTz hT₂, rfl, _, rfl⟩
        have F₃ : Fr h₀ L h₃ m := ⟨F'.ns.at' (fun o e => k₃ _ o (wr L (by simp)).1 (wr L (by simp)).2.1 (wr L (by simp)).2.2.1 (wr L (by simp)).2.2.2 e), fun b o e => by
          have q := wr b (.inr (.inr (.inr (.inr ⟨o, e⟩))))
          exact k₃ b o q.1 q.2.1 q.2.2.1 q.2.2.2 (F'.keep b o e), F'.above⟩
        have N₃ : News h₀ L h₃ ((D, lst vs) :: news) := fun p hp => by
          have q : p.1 ≠ z ∧ p.1 ≠ TO ∧ p.1 ≠ i1 ∧ p.1 ≠ i2 := by
            rcases List.mem_cons.mp hp with rfl | hp
            · exact wr D (by simp)
            · exact wr p.1 (.inr (.inr (.inr (.inl ⟨p.2, hp⟩))))
          exact ⟨k₃ _ _ q.1 q.2.1 q.2.2.1 q.2.2.2 (N' p hp).1, (N' p hp).2⟩
        have hn₃ : h₃.Ns C m' := hn'.at' (fun o e => k₃ _ o (wr C (by simp)).1 (wr C (by simp)).2.1 (wr C (by simp)).2.2.1 (wr C (by simp)).2.2.2 e)
        refine assign_Tuple_tuple hh hT₃ rfl rfl fun h₅ he => ?_
        have he' : ∀ b o, h₃.get? b = some o → h₅.get? b = some o := fun b o e => he b o (Nat.ne_of_lt (Heap.lt_size e)) e
        refine assignInOrder_cons (wpAny_assign_Name (wpAny_storeName_local (lookup_relabel_local hx) (hn₃.at' fun o e => he' _ o e) (fun h₆ hn₆ hs₆ => ?_) (by simp [compEnvC, relabel, hkind])))
        refine assignInOrder_cons (wpAny_assign_Name (wpAny_storeName_local (lookup_relabel_local hx₂) hn₆ (fun h₇ hn₇ hs₇ => ?_) (by simp [compEnvC, relabel, hkind])))
        refine assignInOrder_nil ?_
        have old7 : ∀ b o, b ≠ C → h₃.get? b = some o → h₇.get? b = some o := fun b o hb e => hs₇.extBut b o hb (hs₆.extBut b o hb (he' b o e))
        have Z₇ := ZK Z₃ (fun c o c1 _ e => old7 c o c1 e)
        have F₇ : Fr h₀ L h₇ m := ((F₃.keeps he').change hs₆ hCL hC₀).change hs₇ hCL hC₀
        refine wpAny_mono (T i xs[i] ys[i] C _ h₇ _ _ (Array.getElem?_eq_getElem hlt) (Array.getElem?_eq_getElem hlt2) hn₇ (by simp [hxx]) (by simp) F₇) (fun y s₄ h₄ => ?_) fun _ _ e => e
        obtain ⟨tk₄, rfl, hRy⟩ := h₄
        have hDoff : D ≠ C := Ne.symm hCD
        have zD : h₇.get? D = some (lst vs) := old7 _ _ hDoff (N₃ (D, lst vs) List.mem_cons_self).1
        refine append_at (hsz := by show vs.toArray.size ≤ sizeLine; rw [List.size_toArray, hvl]; exact Nat.le_trans hi hsz) zD fun h₈ hs₈ hD₈ => ?_
        refine ⟨xs.size + 1 - (i + 1), by omega, h₈, tk₄, i + 1, vs ++ [y], _, rfl, hlt, rfl, by rw [List.length_append, List.length_singleton, hvl], ZK Z₇ (fun c o _ c2 e => hs₈.extBut c o c2 e), F₇.change hs₈ hDL hD₀, hn₇.sameBut hs₈ hDoff.symm, fun p hp => ?_, ?_⟩
        · rcases List.mem_cons.mp hp with rfl | hp
          · exact ⟨hD₈.trans (congrArg some (lst_snoc vs y)), hDL, hD₀⟩
          · have hpD : p.1 ≠ D := fun e => by
              have := (N p hp).1
              rw [e, fresh D (Nat.le_refl _)] at this; cases this
            have hpC : p.1 ≠ C := fun e => by
              have := (N p hp).1
              rw [e, fresh C (by rw [hC]; exact Nat.le_succ _)] at this; cases this
            exact ⟨hs₈.extBut _ _ hpD (old7 _ _ hpC (N₃ p (List.mem_cons_of_mem _ hp)).1), (N p hp).2⟩
        · intro j v hv
          by_cases hj : j < vs.length
          · rw [List.getElem?_append_left hj] at hv
            exact hR j v hv
          · rw [List.getElem?_append_right (by omega)] at hv
            have hj0 : j - vs.length = 0 := by
              cases hq : j - vs.length with
              | zero => rfl
              | succ q => rw [hq] at hv; simp at hv
            rw [hj0] at hv
            have : j = i := by omega
            subst this
            simp at hv
            exact hv ▸ hRy
      · obtain rfl : i = xs.size := Nat.le_antisymm hi (Nat.not_lt.mp hlt)
        refine pyNext_zipT_end hh D0 Z' (Array.getElem?_eq_none (Nat.le_refl _)) fun h₂ hk₂ => ?_
        have F₂ : Fr h₀ L h₂ m := ⟨F'.ns.at' (fun o e => hk₂ _ o (wr L (by simp)).1 (wr L (by simp)).2.1 (wr L (by simp)).2.2.1 (wr L (by simp)).2.2.2 e), fun b o e => by
          have q := wr b (.inr (.inr (.inr (.inr ⟨o, e⟩))))
          exact hk₂ b o q.1 q.2.1 q.2.2.1 q.2.2.2 (F'.keep b o e), F'.above⟩
        refine hRR D C h₂ tk' m' vs F₂ (fun p hp => ?_) (hn'.at' (fun o e => hk₂ _ o (wr C (by simp)).1 (wr C (by simp)).2.1 (wr C (by simp)).2.2.1 (wr C (by simp)).2.2.2 e)) hC₀ hD₀ hCL hDL hCD ?_ ?_ hvl hR
        · have q : p.1 ≠ z ∧ p.1 ≠ TO ∧ p.1 ≠ i1 ∧ p.1 ≠ i2 := by
            rcases List.mem_cons.mp hp with rfl | hp
            · exact wr D (by simp)
            · exact wr p.1 (.inr (.inr (.inr (.inl ⟨p.2, hp⟩))))
          exact ⟨hk₂ _ _ q.1 q.2.1 q.2.2.1 q.2.2.2 (N' p hp).1, (N' p hp).2⟩
        · intro p hp e
          have := (N p hp).1
          rw [e, fresh C (by rw [hC]; exact Nat.le_succ _)] at this; cases this
        · intro p hp e
          have := (N p hp).1
          rw [e, fresh D (Nat.le_refl _)] at this; cases this
    · rcases List.mem_cons.mp hp with rfl | hp
      · exact ⟨hacc, hDL, hD₀⟩
      · exact ⟨old _ _ (N p hp).1, (N p hp).2⟩
  exact codeAny_compStart_list (loop _ rfl) (wpAny_pyIter_zip (ZK Z (fun c o _ _ e => old c o e)).z (loop _ rfl))

noncomputable def ZSrc (prog : Program) (w : World) (A : Around) (h₀ : Heap) (L : Addr) (m : Str → Option Value) (env : Env) (elt : PySem.Expr) (x x₂ : Str) (scope : Scope) (cl : List (Str × Addr)) (Q : Value → Shared → Prop) (xv : Value) (s₁ : Shared) : Prop :=
  ∃ z TI TO i1 i2 l1 l2 xs ys news R, xv = .ref z ∧ A.handled = none ∧ ZipApart z TI TO i1 i2 l1 l2 ∧ ZipSt z TI TO i1 i2 l1 l2 xs ys 0 s₁.heap ∧ xs.size ≤ sizeLine ∧ xs.size = ys.size ∧
    (∀ b, b = z ∨ b = TO ∨ b = i1 ∨ b = i2 → L ≠ b ∧ h₀.get? b = none ∧ ∀ p ∈ news, p.1 ≠ b) ∧ Fr h₀ L s₁.heap m ∧ News h₀ L s₁.heap news ∧
    ZElt prog w A h₀ L m env elt x x₂ scope cl s₁ xs ys R ∧
    ∀ D h tk vs, Fr h₀ L h m → News h₀ L h ((D, lst vs) :: news) → (∀ p ∈ news, p.1 ≠ D) → vs.length = xs.size → (∀ i v, vs[i]? = some v → R i v) → Q (.ref D) { s₁ with heap := h, toks := tk }

theorem comp_Z {elt iter : PySem.Expr} {x x₂ : Str} {px px₂ tp : Pos} {tk} {scope : Scope} {cl : List (Str × Addr)} {pos : Pos} {Q : Value → Shared → Prop} (_F₀ : Fr h₀ L s.heap m)
    (hclos : closureFor scope env = pure cl) (hcell : ∀ y ∈ scope.names, y.2 ≠ .cell) (hkind : scope.kind = .function)
    (hnames : ∀ y ∈ scope.names, y.2 = .local → scope.names.lookup y.1 = some .local) (hx : scope.names.lookup x = some .local) (hx₂ : scope.names.lookup x₂ = some .local) (hxx : x ≠ x₂)
    (h : wpAny (model prog w) A (eval iter env) (ZSrc prog w A h₀ L m env elt x x₂ scope cl Q) E s)
    (hs : ∀ x, foldedSetIterable iter env x = pure x := by intro _; rfl) :
    wpAny (model prog w) A (eval (.ListComp elt [⟨.Tuple [.Name x px, .Name x₂ px₂] tk tp, iter, [], 0⟩] scope pos) env) Q E s := by
  rw [eval_ListComp]
  refine wpAny_comprehension_free (use := none) rfl hs hclos hkind hnames (wpAny_mono h (fun xv s₁ h₁ => ?_) fun _ _ e => e)
  obtain ⟨z, TI, TO, i1, i2, l1, l2, xs, ys, news, R, rfl, hh, D0, Z, hsz, hxy, hnew, F, N, T, fin⟩ := h₁
  refine wpAny_pyIter_zip Z.z ?_
  refine block_Z D0 hsz hxy hcell hkind hx hx₂ hxx hh Z hnew F N T ?_
  intro D C h' tk' m' vs F' N' hn hC₀ hD₀ hCL hDL hCD offC offD hvl hR
  refine ⟨m', hn, fun h'' hs'' => fin D h'' tk' vs (F'.change hs'' hCL hC₀) (fun p hp => ?_) offD hvl hR⟩
  refine ⟨hs''.extBut _ _ ?_ (N' p hp).1, (N' p hp).2⟩
  rcases List.mem_cons.mp hp with rfl | hp
  · exact Ne.symm hCD
  · exact offC p hp
end
end Md
namespace Md
theorem bb_bytes : typeLookup (.type "bytes") "__bytes__" = pure (some (.builtin "bytes.__bytes__")) := by rw [typeLookup_type, builtinLookup_eq_fast]; kernel_rfl
section
variable {prog : Program} {w : World} {A : Around} {E : Value → Shared → Prop} {s : Shared}
theorem bb_new {b : Array UInt8} {t : Tok} {Q : Value → Shared → Prop} (hQ : Q (.bytes b t) s) :
    codeAny (model prog w) A (.call (.builtin "bytes.__new__") ⟨[.type "bytes", .bytes b t], []⟩) (wants Q E) s := by
  refine codeAny_of_tree ?_
  show wpAny _ A.in1 (do checkBuiltinCall "bytes.__new__" ⟨[.type "bytes", .bytes b t], []⟩; again (.builtin "bytes.__new__" ⟨[.type "bytes", .bytes b t], []⟩)) _ _ s
  refine wpAny_bind (wpAny_of_eq (F.bm_newCall _) (wpAny_pure ⟨plainId_quiet F.bm_plain _, codeAny_builtin F.bm_entry ?_⟩))
  rw [Around.under_plainId F.bm_plain _]
  have hT : s.TypeIs (.bytes b t) "bytes" := typeIs_bytes _ _ _
  unfold Builtin.«bytes.__new__»
  refine wpAny_bind (wpAny_of_eq (a := true) rfl ?_)
  refine bm_if_false rfl ?_
  refine wpAny_bind (wpAny_of_eq F.bm_sub ?_)
  refine bm_if_false rfl ?_
  refine wpAny_bind (wpAny_of_eq (F.bm_bind _) ?_)
  refine wpAny_bind (wpAny_of_eq (a := ()) rfl ?_)
  refine wpAny_bind (wpAny_of_eq (a := ()) rfl ?_)
  refine bm_if_false rfl ?_
  refine wpAny_bind (wpAny_specialOf hT bb_bytes ?_)
  refine wpAny_bind (wpAny_rule ?_)
  refine wpAny_bind (wpAny_typeOf hT ?_)
  refine bm_if_true (by decide) ?_
  show wpAny _ _ (if (Value.type "bytes" == Value.type "bytes") = true then _ else _) _ _ _
  refine bm_if_true (by decide) ?_
  first
    | exact wpAny_pure hQ
    | exact wpAny_bind (wpAny_pure (wpAny_pure hQ))
theorem call_bytes_bytes {b : Array UInt8} {t : Tok} {Q : Value → Shared → Prop} (hQ : ∀ k, Q (.bytes b t) { s with toks := k }) : wpAny (model prog w) A (call (.type "bytes") [.bytes b t]) Q E s := by
  refine callType_codes (Q₁ := fun obj s₁ => s₁.TypeIs obj "bytes" ∧ Q obj s₁) F.bm_called (F.bm_typeCall _) F.entry_object_init
    (bb_new ⟨typeIs_bytes _ _ _, hQ s.toks⟩) fun obj s₁ h₁ => ?_
  exact ⟨h₁.1, F.args_object_init_2 obj _, object_init_meets F.bm_called.init.lookup F.bm_called.made (by decide) prog w A.in1 _ s₁ ⟨h₁.1, rfl, h₁.2⟩⟩
end
end Md
namespace Md
open PySem.W.FB
theorem slot_bytes_join : Slot "bytes" "join" "bytes.join" :=
  .of (owner := "bytes") (n := "join") (by rw [typeLookup_type, builtinLookup_eq_fast]; kernel_rfl) (by decide +kernel) (by decide +kernel) (by decide +kernel)
    (by first | exact .inl (by decide +kernel) | exact .inr (by decide +kernel)) (by rw [isSubtype_type]; kernel_rfl)
theorem type_bytes_join : typeOf (.builtin "bytes.join") = pure (.type "method_descriptor") := by show builtinType _ = _; rw [builtinType_eq_fast]; kernel_rfl
theorem entry_bytes_join : entryFor table "bytes.join" = some Builtin.«bytes.join» := entryFor_of_tree (by kernel_rfl)
theorem args_bytes_join_2 (a b : Value) : argsOk "bytes.join" ⟨[a, b], []⟩ := by
  unfold argsOk; rw [signature?_of (id := "bytes.join") (n := ['n', 'i', 'o', 'j']) (o := ['s', 'e', 't', 'y', 'b']) (by kernel_rfl) owner_bytes]; kernel_rfl
open Builtin
theorem buffer_eqF {id : String} {b : Array UInt8} {t : Tok} : Bytes.buffer? id (.bytes b t) (0 == Bytes.fullReadOnly) = pure (some b) := KBy.buffer_eq
theorem take0 {id : String} {b : Array UInt8} {t : Tok} : Bytes.takeBuffer? id (.bytes b t) 0 = pure (some (b, none)) := by
  unfold Bytes.takeBuffer?
  rw [KBy.special_eq KBy.look_buffer, KBy.own_buffer]
  show (Bytes.buffer? id (.bytes b t) (0 == Bytes.fullReadOnly) >>= fun r => pure (r.map (·, none))) = _
  rw [buffer_eqF]
  rfl
theorem take_eq {id : String} {b : Array UInt8} {t : Tok} : Bytes.takeBufferQuiet? id (.bytes b t) 0 = pure (some (b, none)) := by
  unfold Bytes.takeBufferQuiet?
  rw [take0]
  rfl
theorem wp_loop4 {M : Model} {A : Around} {E : Value → Shared → Prop} {s : Shared} {β : Type} {n : Nat} {i : β} {f : Nat → β → Sem (ForInStep β)} {Q : β → Shared → Prop} (hn : n = 4) (h : wpAny M A (forIn [0,1,2,3] i f) Q E s) : wpAny M A (forIn [0:n] i f : Sem β) Q E s := by
  subst hn
  rw [Std.Legacy.Range.forIn_eq_forIn_range']
  exact h
theorem loop4 {β : Type} (i : β) (f : Nat → β → Sem (ForInStep β)) : (forIn [0:4] i f : Sem β) = forIn [0,1,2,3] i f := by
  rw [Std.Legacy.Range.forIn_eq_forIn_range']
  rfl
section
variable {prog : Program} {w : World} {A : Around} {E : Value → Shared → Prop} {s : Shared} {b0 b1 b2 b3 : Array UInt8} {t0 t1 t2 t3 t : Tok}
theorem wp_joinLetGo {M : Model} {l : List (Value × Option Value)} {keep : List Value} {Q : Unit → Shared → Prop} (hl : l.all (fun p => p.2.isNone) = true) (h : Q () s) : wpAny M A (Bytes.joinLetGo l keep) Q E s := by
  induction l with
  | nil => exact wpAny_pure h
  | cons p r ih =>
    obtain ⟨x, v⟩ := p
    simp only [List.all_cons, Bool.and_eq_true] at hl
    cases v with
    | some v => cases hl.1
    | none =>
      unfold Bytes.joinLetGo
      exact wpAny_bind (wpAny_letGo (ih hl.2))
theorem meets_join4 (D : Addr) (hsz : b0.size + b1.size + b2.size + b3.size ≤ 1000) :
    Meets (Builtin.«bytes.join» ⟨[.bytes #[] t, .ref D], []⟩) (fun _ R s => s.heap.IsList D #[.bytes b0 t0, .bytes b1 t1, .bytes b2 t2, .bytes b3 t3] ∧ R (.ok (.ret (.bytes (b0 ++ b1 ++ b2 ++ b3) s.toks))) { s with toks := s.toks + 1 }) := by
  intro prog w A R s ⟨hl, hR⟩
  have hT := hl.typeIs
  obtain ⟨o, ho, hc, n, hd⟩ := hl
  unfold Builtin.«bytes.join» Builtin.Bytes.joinM
  refine wpAny_bind (wpAny_of_eq (a := (Value.bytes #[] t, Value.ref D)) rfl ?_)
  dsimp only
  have items : ∀ {Q : Option (Array Value) → Shared → Prop} {E'} {A'} {s' : Shared}, s'.heap = s.heap → Q (some #[.bytes b0 t0, .bytes b1 t1, .bytes b2 t2, .bytes b3 t3]) s' → wpAny (model prog w) A' (seqItems? (.ref D)) Q E' s' := fun e h =>
    wpAny_seqItems (by rw [e]; exact ho) hd h
  have one : ∀ {id : String} {vs : List Value} {b : Array UInt8} {u : Tok} {Q : Option (Array UInt8 × Option Value) → Shared → Prop} {E'} {A'} {s' : Shared}, Q (some (b, none)) s' → wpAny (model prog w) A' (holding vs (Bytes.takeBufferQuiet? id (.bytes b u) 0)) Q E' s' := fun h =>
    wpAny_holding (wpAny_of_eq take_eq h)
  refine wpAny_bind ?_
  show wpAny _ _ (Bytes.joinItems (Value.ref D)) _ _ _
  unfold Bytes.joinItems
  refine wpAny_bind (wpAny_typeOf hT ?_)
  refine bm_if_true (by rfl) ?_
  refine wpAny_pure ?_
  refine wpAny_bind (items rfl ?_)
  refine bm_if_true (by rfl) ?_
  refine wpAny_bind (wp_loop4 rfl ?_)
  iterate 4
    rw [List.forIn_cons]
    refine wpAny_bind ?_
    refine wpAny_bind (items rfl ?_)
    refine bm_if_false (by rfl) ?_
    refine wpAny_bind (one ?_)
    refine wpAny_bind (items rfl ?_)
    refine bm_if_false (by rfl) ?_
    refine wpAny_pure ?_
    show wpAny _ _ (forIn (_ : List Nat) _ _) _ _ _
  rw [List.forIn_nil]
  refine wpAny_pure ?_
  refine wpAny_bind (wpAny_of_eq (a := (#[] : Array UInt8)) rfl ?_)
  refine bm_if_false (KBy.tooLong_not (by simp; omega)) ?_
  refine wpAny_bind (wpAny_mkBytes ?_ ?_)
  · refine wpAny_bind (wpAny_holding (wpAny_point ?_))
    refine wpAny_bind (wp_joinLetGo (by rfl) ?_)
    refine wpAny_pure ?_
    have e : Bytes.joined #[] [b0, b1, b2, b3] = b0 ++ b1 ++ b2 ++ b3 := by simp [Bytes.joined, List.zipIdx]
    rw [← e] at hR
    exact hR
  · show (Bytes.joined #[] [b0, b1, b2, b3]).size ≤ _
    have e : Bytes.joined #[] [b0, b1, b2, b3] = b0 ++ b1 ++ b2 ++ b3 := by simp [Bytes.joined, List.zipIdx]
    rw [e, sizeLine_eq]
    simp only [Array.size_append]
    omega
theorem call_join4 {D : Addr} {Q : Value → Shared → Prop} (hl : s.heap.IsList D #[.bytes b0 t0, .bytes b1 t1, .bytes b2 t2, .bytes b3 t3]) (hsz : b0.size + b1.size + b2.size + b3.size ≤ 1000)
    (h : ∀ t' k, Q (.bytes (b0 ++ b1 ++ b2 ++ b3) t') { s with toks := k }) : wpAny (model prog w) A (call (.builtin "bytes.join") [.bytes #[] t, .ref D]) Q E s :=
  call_meets slot_bytes_join (typeIs_bytes _ _ _) entry_bytes_join (args_bytes_join_2 _ _) (meets_join4 D hsz) ⟨hl, h _ _⟩
theorem get_join {M : Model} {b : Array UInt8} {pl : Sem Bool} {Q : Value × List Value → Shared → Prop} (h : Q (.builtin "bytes.join", [.bytes b t]) s) : wpAny M A (getMethod (.bytes b t) "join" pl) Q E s := by
  with_reducible exact KBd.method_of (.bytes b t) (typeIs_bytes _ _ _) slot_bytes_join type_bytes_join KBd.noRef h
end
end Md
namespace Md
section
variable {prog : Program} {w : World} {A : Around} {E : Value → Shared → Prop} {s : Shared}
noncomputable def OctAt (b : Array UInt8) (i : Nat) (v : Value) : Prop := ∃ c u, b[i]? = some c ∧ v = .int ((c.toNat : Nat) : Int) u
theorem extend_bytes {R : Result → Shared → Prop} (hh : A.handled = none) (x : Array UInt8) (t : Tok) (S : Addr) (res : Value) (c₀ : Nat) (hS : s.heap.get? S = some { cls := .type "list", data := .seq #[] c₀ })
    (hR : ∀ h' tk acc' c', (∀ b o, b ≠ S → s.heap.get? b = some o → h'.get? b = some o) → h'.get? S = some { cls := .type "list", dict := none, data := .seq acc' c', slots := #[] } →
      ItemsOf (OctAt x) acc' x.size → R (.ok (.ret res)) { s with heap := h', toks := tk }) (hn : x.size ≤ sizeLine) :
    wpAny (model prog w) A.in1 (Builtin.List.listExtendWith (.ref S) (.bytes x t) res)
      (fun fin s' => match fin with | .done f => R (.ok f) s' | .again c' => c'.quiet = true ∧ codeAny (model prog w) A c' R s') (fun e s' => R (.error e) s') s := by
  have hSI : S ≠ s.heap.objs.size := Nat.ne_of_lt (Heap.lt_size hS)
  have hSf : S ∉ [s.heap.objs.size] := fun hm => hSI (List.mem_singleton.mp hm)
  unfold Builtin.List.listExtendWith
  refine wpAny_bind (wpAny_typeOf (T := "bytes") (v := .bytes x t) rfl ?_)
  have h1 : Builtin.List.listSameRef (.ref S) (.bytes x t) = false := rfl
  have h2 : (Value.type "bytes" == Value.type "list") = false := by decide
  have h3 : (Value.type "bytes" == Value.type "tuple") = false := by decide
  simp only [h1, h2, h3, Bool.or_false, Bool.false_eq_true, if_false]
  refine wpAny_bind (KBw.pyIter_bytes ?_)
  refine wpAny_bind (wpAny_holding ?_)
  unfold Builtin.List.listLengthHint
  refine wpAny_bind (wpAny_specialOf (T := "bytes") (v := .bytes x t) rfl FB.slot_bytes_len.lookup ?_)
  wp_delta
  refine wpAny_bind (wpAny_isInstance (T := "bytes") (v := .bytes x t) (b := true) rfl (by rw [isSubtype_type]; kernel_rfl) ?_)
  show wpAny _ _ (typeOf (Value.bytes x t) >>= _) _ _ _
  refine wpAny_bind (wpAny_typeOf (T := "bytes") (v := .bytes x t) rfl ?_)
  refine wpAny_pure ?_
  rw [if_neg (by decide)]
  refine wpAny_pure ⟨plainId_quiet F.plain_extend_loop _, codeAny_extend_loopS (KBw.walks (A := A.in1) hh s.heap.objs.size x t).toS hn _ hSf _ x.size 0 _ _ _ rfl (Nat.zero_le _) ⟨_, Heap.get?_push_size _ rfl, rfl, rfl⟩ (Heap.get?_push_of_some _ hS) (ItemsOf.nil _) fun s' acc' c' hm hS' hacc => ?_⟩
  rw [Moved.eq_with hm]
  refine hR s'.heap s'.toks acc' c' (fun b ob hb e => hm.heap b ob (fun hmem => ?_) (Heap.get?_push_of_some _ e)) hS' hacc
  rcases List.mem_cons.mp hmem with e' | hmem
  · exact hb e'
  · exact absurd (Heap.lt_size e) (by rw [List.mem_singleton.mp hmem]; exact Nat.lt_irrefl _)

theorem list_init_bytes {R : Result → Shared → Prop} (hh : A.handled = none) (x : Array UInt8) (t : Tok) (S : Addr) (hS : s.heap.get? S = some { cls := .type "list", data := .seq #[] })
    (hR : ∀ h' tk acc' c', (∀ b o, b ≠ S → s.heap.get? b = some o → h'.get? b = some o) → h'.get? S = some { cls := .type "list", dict := none, data := .seq acc' c', slots := #[] } →
      ItemsOf (OctAt x) acc' x.size → R (.ok (.ret .none)) { s with heap := h', toks := tk }) (hn : x.size ≤ sizeLine) :
    wpAny (model prog w) A.in1 (Builtin.«list.__init__» ⟨[.ref S, .bytes x t], []⟩)
      (fun fin s' => match fin with | .done f => R (.ok f) s' | .again c' => c'.quiet = true ∧ codeAny (model prog w) A c' R s') (fun e s' => R (.error e) s') s := by
  show wpAny _ _ (do let old ← Builtin.List.listItems (.ref S); Builtin.List.listUpdate (.ref S) (fun _ => #[]); letGo old.toList.reverse; Builtin.List.listExtendWith (.ref S) (.bytes x t) .none) _ _ s
  refine wpAny_bind ?_
  unfold Builtin.List.listItems
  refine wpAny_bind (wpAny_seqItems hS rfl (wpAny_pure ?_))
  show wpAny _ _ (updateSeq S (fun _ => #[]) >>= fun _ => letGo (#[] : Array Value).toList.reverse >>= fun _ => Builtin.List.listExtendWith (.ref S) (.bytes x t) .none) _ _ s
  refine wpAny_bind (wpAny_updateSeq hS rfl ?_)
  have hS₂ := Heap.get?_update_self (Obj.mapSeq (fun _ => (#[] : Array Value))) hS rfl
  have oth : ∀ b o, b ≠ S → s.heap.get? b = some o → (s.heap.update S (Obj.mapSeq (fun _ => (#[] : Array Value)))).get? b = some o :=
    fun b o hb e => (Heap.get?_update_other _ _ (Ne.symm hb)).trans e
  refine wpAny_bind (wpAny_letGo ?_)
  refine extend_bytes (hn := hn) hh x t S .none _ hS₂ fun h' tk acc' c' hk hS' hacc => ?_
  exact hR h' tk acc' c' (fun b o hb e => hk b o hb (oth b o hb e)) hS' hacc

theorem call_list_bytes {Q : Value → Shared → Prop} (hh : A.handled = none) (x : Array UInt8) (t : Tok)
    (hQ : ∀ h' tk acc' c', (∀ b o, s.heap.get? b = some o → h'.get? b = some o) →
      h'.get? s.heap.objs.size = some { cls := .type "list", dict := none, data := .seq acc' c', slots := #[] } → ItemsOf (OctAt x) acc' x.size → Q (.ref s.heap.objs.size) { s with heap := h', toks := tk }) (hn : x.size ≤ sizeLine) :
    wpAny (model prog w) A (call (.type "list") [.bytes x t]) Q E s := by
  refine callType_codes (Q₁ := fun obj s₁ => obj = .ref s.heap.objs.size ∧ s₁ = { s with heap := s.heap.push { cls := .type "list", data := .seq #[] } }) F.called_list (F.typeCall_list_1 _) F.entry_list_init
    (code_list_new _ ⟨rfl, rfl⟩) fun obj s₁ h₁ => ?_
  obtain ⟨rfl, rfl⟩ := h₁
  have hS : (s.heap.push { cls := .type "list", data := .seq #[] }).get? s.heap.objs.size = some { cls := .type "list", data := .seq #[] } := Heap.get?_push_size _ rfl
  refine ⟨⟨_, hS, rfl⟩, F.args_list_init_2 _ _, list_init_bytes (A := A.in1) (hn := hn) hh x t _ hS fun h' tk acc' c' hk hS' hacc => ?_⟩
  exact ⟨rfl, hQ h' tk acc' c' (fun b o e => hk b o (Nat.ne_of_lt (Heap.lt_size e)) (Heap.get?_push_of_some _ e)) hS' hacc⟩

/-- list(octets): a new list of their numbers in the ledger -/
theorem list_bytes {h₀ : Heap} {L : Addr} {m : Str → Option Value} {news : List (Addr × Obj)} {Q : Value → Shared → Prop} {x : Array UInt8} {t : Tok} {ks : List Int} (hh : A.handled = none) (F : Fr h₀ L s.heap m) (N : News h₀ L s.heap news) (hb : KBw.bInts x = ks) (hn : ks.length ≤ 1000)
    (hQ : ∀ r h' tk vs ep, Fr h₀ L h' m → News h₀ L h' ((r, listOf (List.toArray vs) ep) :: news) → (∀ p ∈ news, p.1 < r) → IntsAre vs ks → Q (.ref r) { s with heap := h', toks := tk }) :
    wpAny (model prog w) A (call (.type "list") [.bytes x t]) Q E s := by
  refine call_list_bytes hh x t (fun h' tk acc' c' hk hS' hacc => ?_) (by rw [← KBw.ints_length, hb, sizeLine_eq]; omega)
  have hi : ∀ (l : List Value) (bs : List UInt8), l.length = bs.length → (∀ (j : Nat) v, l[j]? = some v → ∃ c u, bs[j]? = some c ∧ v = .int ((c.toNat : Nat) : Int) u) → IntsAre l (bs.map fun c => (c.toNat : Int)) := by
    intro l
    induction l with
    | nil => intro bs hl _; cases bs with
      | nil => exact .nil
      | cons c r => simp at hl
    | cons v l ih => intro bs hl h; cases bs with
      | nil => simp at hl
      | cons c r =>
        obtain ⟨c', u, hc, rfl⟩ := h 0 v (by simp)
        simp at hc
        subst hc
        exact .cons _ u (ih r (by simpa using hl) fun j v' hv => h (j + 1) v' (by simpa using hv))
  refine hQ _ h' tk acc'.toList c' (F.keeps hk) (fun p hp => ?_) (fun p hp => Heap.lt_size (N p hp).1) (hb ▸ hi acc'.toList x.toList ?_ ?_)
  · rcases List.mem_cons.mp hp with rfl | hp
    · exact ⟨hS', Nat.ne_of_gt F.ns.lt, next_is_new F⟩
    · exact ⟨hk _ _ (N p hp).1, (N p hp).2⟩
  · simpa using hacc.1
  · intro j v hv
    obtain ⟨c, u, hc, e⟩ := hacc.2 j v (by simpa using hv)
    exact ⟨c, u, by simpa using hc, e⟩
end
end Md
namespace Md
open LCg
noncomputable def TupAt (h₀ : Heap) (ax : Addr) (its : Array Value) (news : List (Addr × Obj)) : Prop := h₀.IsTuple ax its ∨ ∃ o, (ax, o) ∈ news ∧ o.cls = .type "tuple" ∧ ∃ n, o.data = .seq its n
theorem TupAt.tup {h₀ h : Heap} {L ax : Addr} {its : Array Value} {news : List (Addr × Obj)} (x : TupAt h₀ ax its news) (k : ∀ b o, h₀.get? b = some o → h.get? b = some o) (N : News h₀ L h news) : h.IsTuple ax its := by
  rcases x with ⟨o, e, r⟩ | ⟨o, hm, r⟩
  · exact ⟨o, k _ _ e, r⟩
  · exact ⟨o, (N _ hm).1, r⟩
theorem tup_st {h₀ : Heap} {L ax I : Addr} {its : Array Value} : ∀ i (h h' : Heap) (o : Obj) (nw : List (Addr × Obj)), (h.IsTupleIter I ax i ∧ h.IsTuple ax its) → h.get? I = some o → h'.get? I = some o → (∀ b o, h₀.get? b = some o → h'.get? b = some o) → News h₀ L h' nw → TupAt h₀ ax its nw → (h'.IsTupleIter I ax i ∧ h'.IsTuple ax its) :=
  fun i h h' o nw st e e' k N S => ⟨by obtain ⟨o', q, r⟩ := st.1; rw [e] at q; cases q; exact ⟨o, e', r⟩, S.tup k N⟩
section
variable {prog : Program} {w : World} {A : Around} {E : Value → Shared → Prop} {s : Shared} {h₀ : Heap} {L : Addr} {m : Str → Option Value} {env : Env}
noncomputable def TSrc (prog : Program) (w : World) (A : Around) (h₀ : Heap) (L : Addr) (m : Str → Option Value) (env : Env) (elt : PySem.Expr) (x : Str) (scope : Scope) (cl : List (Str × Addr)) (Fin : Shared → List Value → List (Addr × Obj) → Prop) (xv : Value) (s₁ : Shared) : Prop :=
  ∃ ax its news, xv = .ref ax ∧ A.handled = none ∧ Fr h₀ L s₁.heap m ∧ News h₀ L s₁.heap news ∧ TupAt h₀ ax its news ∧ its.size ≤ sizeLine ∧
    ∀ s₂ : Shared, (∃ h, s₂ = { s₁ with heap := h }) → CompRest prog w A h₀ L m env elt x scope cl s₂ (TupAt h₀ ax its) (fun i v => its[i]? = some v) (Fin s₂) its.size 0 [] news
theorem TSrc.ledger {elt : PySem.Expr} {x : Str} {scope : Scope} {cl : List (Str × Addr)} {Fin : Shared → List Value → List (Addr × Obj) → Prop} {ax : Addr} {its : Array Value} {k : Nat} {news : List (Addr × Obj)} {s₁ : Shared}
    (hh : A.handled = none) (F : Fr h₀ L s₁.heap m) (N : News h₀ L s₁.heap news) (hm : (ax, ({ cls := .type "tuple", data := .seq its k } : Obj)) ∈ news) (hsz : its.size ≤ sizeLine)
    (h : ∀ g, CompRest prog w A h₀ L m env elt x scope cl { s₁ with heap := g } (TupAt h₀ ax its) (fun i v => its[i]? = some v) (Fin { s₁ with heap := g }) its.size 0 [] news) :
    TSrc prog w A h₀ L m env elt x scope cl Fin (.ref ax) s₁ := ⟨ax, its, news, rfl, hh, F, N, .inr ⟨_, hm, rfl, _, rfl⟩, hsz, fun _ ⟨g, e⟩ => e ▸ h g⟩

theorem ListComp_UT {elt iter : PySem.Expr} {x : Str} {px : Pos} {scope : Scope} {cl : List (Str × Addr)} {pos : Pos} {Q : Value → Shared → Prop} (F₀ : Fr h₀ L s.heap m)
    (hclos : closureFor scope env = pure cl) (hcell : ∀ y ∈ scope.names, y.2 ≠ .cell) (hkind : scope.kind = .function)
    (hnames : ∀ y ∈ scope.names, y.2 = .local → scope.names.lookup y.1 = some .local) (hx : scope.names.lookup x = some .local)
    (h : wpAny (model prog w) A (eval iter env) (TSrc prog w A h₀ L m env elt x scope cl (fun s₂ => FinE h₀ L m s₂ Q)) E s)
    (hs : ∀ x, foldedSetIterable iter env x = pure x := by intro _; rfl) :
    wpAny (model prog w) A (eval (.ListComp elt [⟨.Name x px, iter, [], 0⟩] scope pos) env) Q E s := by
  rw [eval_ListComp]
  refine wpAny_comprehension_free (use := none) rfl hs hclos hkind hnames (wpAny_mono h (fun xv s₁ h₁ => ?_) fun _ _ e => e)
  obtain ⟨ax, its, news, rfl, hh, F, N, S, hsz, R⟩ := h₁
  have hl := S.tup F.keep N
  have hlt : ax < s₁.heap.objs.size := by obtain ⟨_, e, _⟩ := hl; exact Heap.lt_size e
  refine wpAny_pyIter_tuple hl ?_
  have up : ∀ b o, s₁.heap.get? b = some o → (s₁.heap.push { cls := .type "tuple_iterator", data := .fields #[.ref ax, .int 0 0] }).get? b = some o := fun b o e => Heap.get?_push_of_some _ e
  refine block_U (Walks.tuple hh s₁.heap.objs.size ax (Nat.ne_of_lt hlt) its) hsz (fun i h st => by obtain ⟨o, e, _⟩ := st.1; exact ⟨o, e⟩) tup_st hcell hkind hx ⟨⟨_, Heap.get?_push_size _ rfl, rfl, rfl⟩, hl.push _⟩ (fun b hb => ?_)
    (F.keeps up) (N.grown up) (Nat.ne_of_lt F.ns.lt) (next_is_new F) (fun p hp => Nat.ne_of_lt (Heap.lt_size (N p hp).1)) S (R _ ⟨_, rfl⟩) ?_
  · show b < (s₁.heap.push _).objs.size
    rw [Heap.size_push]
    rcases List.mem_cons.mp hb with rfl | hb
    · exact Nat.lt_succ_self _
    · rw [List.mem_singleton.mp hb]; exact Nat.lt_succ_of_lt hlt
  · intro D C h tk m' ys news' F' N' o1 hn hC₀ hD₀ hCL hDL hCD offC fin
    refine ⟨m', hn, fun h'' hs'' => fin D h'' tk (F'.change hs'' hCL hC₀) (fun p hp => ?_) o1⟩
    refine ⟨hs''.extBut _ _ ?_ (N' p hp).1, (N' p hp).2⟩
    rcases List.mem_cons.mp hp with rfl | hp
    · exact Ne.symm hCD
    · exact offC p hp
end
end Md
namespace Md
open LCg
section
variable {prog : Program} {w : World} {A : Around} {E : Value → Shared → Prop} {s : Shared} {h₀ : Heap} {L : Addr} {m : Str → Option Value} {env : Env}
noncomputable def BSrc (prog : Program) (w : World) (A : Around) (h₀ : Heap) (L : Addr) (m : Str → Option Value) (env : Env) (elt : PySem.Expr) (x : Str) (scope : Scope) (cl : List (Str × Addr)) (Fin : Shared → List Value → List (Addr × Obj) → Prop) (xv : Value) (s₁ : Shared) : Prop :=
  ∃ b t news, xv = .bytes b t ∧ A.handled = none ∧ Fr h₀ L s₁.heap m ∧ News h₀ L s₁.heap news ∧ b.size ≤ sizeLine ∧
    ∀ s₂ : Shared, (∃ h, s₂ = { s₁ with heap := h }) → CompRest prog w A h₀ L m env elt x scope cl s₂ (fun _ => True) (fun i v => ∃ c u, b[i]? = some c ∧ v = .int (c.toNat : Int) u) (Fin s₂) b.size 0 [] news
theorem BSrc.intro {elt : PySem.Expr} {x : Str} {scope : Scope} {cl : List (Str × Addr)} {Fin : Shared → List Value → List (Addr × Obj) → Prop} {b : Array UInt8} {t : Tok} {news : List (Addr × Obj)} {s₁ : Shared}
    (hh : A.handled = none) (F : Fr h₀ L s₁.heap m) (N : News h₀ L s₁.heap news) (hsz : b.size ≤ sizeLine)
    (h : ∀ g, CompRest prog w A h₀ L m env elt x scope cl { s₁ with heap := g } (fun _ => True) (fun i v => ∃ c u, b[i]? = some c ∧ v = .int (c.toNat : Int) u) (Fin { s₁ with heap := g }) b.size 0 [] news) :
    BSrc prog w A h₀ L m env elt x scope cl Fin (.bytes b t) s₁ := ⟨b, t, news, rfl, hh, F, N, hsz, fun _ ⟨g, e⟩ => e ▸ h g⟩
theorem byt_st {b : Array UInt8} {t : Tok} {I : Addr} {h₀ : Heap} {L : Addr} : ∀ i (h h' : Heap) (o : Obj) (nw : List (Addr × Obj)), KBw.IsBytesIter h I b t i → h.get? I = some o → h'.get? I = some o → (∀ b o, h₀.get? b = some o → h'.get? b = some o) → News h₀ L h' nw → True → KBw.IsBytesIter h' I b t i :=
  fun i h h' o nw st e e' k N S => by obtain ⟨o', q, r⟩ := st; rw [e] at q; cases q; exact ⟨o, e', r⟩
theorem ListComp_UB {elt iter : PySem.Expr} {x : Str} {px : Pos} {scope : Scope} {cl : List (Str × Addr)} {pos : Pos} {Q : Value → Shared → Prop} (F₀ : Fr h₀ L s.heap m)
    (hclos : closureFor scope env = pure cl) (hcell : ∀ y ∈ scope.names, y.2 ≠ .cell) (hkind : scope.kind = .function)
    (hnames : ∀ y ∈ scope.names, y.2 = .local → scope.names.lookup y.1 = some .local) (hx : scope.names.lookup x = some .local)
    (h : wpAny (model prog w) A (eval iter env) (BSrc prog w A h₀ L m env elt x scope cl (fun s₂ => FinE h₀ L m s₂ Q)) E s)
    (hs : ∀ x, foldedSetIterable iter env x = pure x := by intro _; rfl) :
    wpAny (model prog w) A (eval (.ListComp elt [⟨.Name x px, iter, [], 0⟩] scope pos) env) Q E s := by
  rw [eval_ListComp]
  refine wpAny_comprehension_free (use := none) rfl hs hclos hkind hnames (wpAny_mono h (fun xv s₁ h₁ => ?_) fun _ _ e => e)
  obtain ⟨b, t, news, rfl, hh, F, N, hsz, R⟩ := h₁
  refine KBw.pyIter_bytes ?_
  have up : ∀ c o, s₁.heap.get? c = some o → (s₁.heap.push { cls := .type "bytes_iterator", data := .fields #[.bytes b t, .int 0 0] }).get? c = some o := fun b o e => Heap.get?_push_of_some _ e
  refine block_U (KBw.walks hh s₁.heap.objs.size b t) hsz (fun i h st => by obtain ⟨o, e, _⟩ := st; exact ⟨o, e⟩) byt_st hcell hkind hx ⟨_, Heap.get?_push_size _ rfl, rfl, rfl⟩ (fun b hb => ?_)
    (F.keeps up) (N.grown up) (Nat.ne_of_lt F.ns.lt) (next_is_new F) (fun p hp => Nat.ne_of_lt (Heap.lt_size (N p hp).1)) trivial (R _ ⟨_, rfl⟩) ?_
  · rw [List.mem_singleton.mp hb]
    show s₁.heap.objs.size < (s₁.heap.push _).objs.size
    rw [Heap.size_push]; exact Nat.lt_succ_self _
  · intro D C h tk m' ys news' F' N' o1 hn hC₀ hD₀ hCL hDL hCD offC fin
    refine ⟨m', hn, fun h'' hs'' => fin D h'' tk (F'.change hs'' hCL hC₀) (fun p hp => ?_) o1⟩
    refine ⟨hs''.extBut _ _ ?_ (N' p hp).1, (N' p hp).2⟩
    rcases List.mem_cons.mp hp with rfl | hp
    · exact Ne.symm hCD
    · exact offC p hp
end
end Md
namespace Md
theorem nat_and_not {b c d : Nat} (hb : b < 4294967296) : (b &&& c) &&& ((4294967295 - b) &&& d) = 0 := by
  apply Nat.eq_of_testBit_eq
  intro i
  have e : (4294967295 - b) = 2 ^ 32 - (b + 1) := by omega
  rw [Nat.testBit_and, Nat.testBit_and, Nat.testBit_and, e, Nat.testBit_two_pow_sub_succ hb, Nat.zero_testBit]
  cases b.testBit i <;> simp
theorem and_not {b c d : Int} (h0 : 0 ≤ b) (h1 : b < 4294967296) (hc : 0 ≤ c) (hd : 0 ≤ d) : Builtin.bitAnd (Builtin.bitAnd b c) (Builtin.bitAnd (4294967295 - b) d) = 0 := by
  rw [bitAnd_pp h0 hc, bitAnd_pp (show (0 : Int) ≤ 4294967295 - b by omega) hd, bitAnd_pp (Int.natCast_nonneg _) (Int.natCast_nonneg _), Int.toNat_natCast, Int.toNat_natCast]
  have e : (4294967295 - b).toNat = 4294967295 - b.toNat := by omega
  rw [e, nat_and_not (by omega)]
  rfl
theorem nat_rot {x n : Nat} (hx : x < 4294967296) (hn : n ≤ 32) : (x * 2 ^ n % 4294967296) &&& (x / 2 ^ (32 - n)) = 0 := by
  apply Nat.eq_of_testBit_eq
  intro i
  rw [Nat.testBit_and, show (4294967296 : Nat) = 2 ^ 32 from rfl, Nat.testBit_mod_two_pow, Nat.testBit_mul_two_pow, Nat.testBit_div_two_pow, Nat.zero_testBit]
  by_cases h : n ≤ i
  · have h2 : x.testBit (i + (32 - n)) = false := Nat.testBit_lt_two_pow (Nat.lt_of_lt_of_le (show x < 2 ^ 32 from hx) (Nat.pow_le_pow_right (by decide) (by omega)))
    simp [h2]
  · simp [h]
theorem rot_sum {x : Int} {n : Nat} (h0 : 0 ≤ x) (h1 : x < 4294967296) (hn : n ≤ 32) :
    Builtin.bitOr (Builtin.bitAnd (x * 2 ^ n) 4294967295) (x.fdiv (2 ^ (32 - n))) = (x * 2 ^ n).fmod 4294967296 + (x * 2 ^ n).fdiv 4294967296 := by
  obtain ⟨m, rfl⟩ := Int.eq_ofNat_of_zero_le h0
  have hm : m < 4294967296 := by omega
  have e1 : ((m : Int) * 2 ^ n) = ((m * 2 ^ n : Nat) : Int) := by simp
  have e2 : ((m : Int).fdiv (2 ^ (32 - n))) = ((m / 2 ^ (32 - n) : Nat) : Int) := by
    rw [Int.fdiv_eq_ediv_of_nonneg _ (Int.le_of_lt (Int.pow_pos (by decide)))]
    simp
  have e3 : ((m * 2 ^ n : Nat) : Int) % 4294967296 = ((m * 2 ^ n % 4294967296 : Nat) : Int) := by simp
  have e4 : ((m * 2 ^ n : Nat) : Int) / 4294967296 = ((m * 2 ^ n / 4294967296 : Nat) : Int) := by simp
  have e5 : m * 2 ^ n / 4294967296 = m / 2 ^ (32 - n) := by
    have e6 : 4294967296 = 2 ^ (32 - n) * 2 ^ n := by rw [← Nat.pow_add, show 32 - n + n = 32 by omega]
    rw [e6, Nat.mul_div_mul_right _ _ (Nat.pow_pos (by decide))]
  rw [bitOr_and, bitAnd_m32, Int.fmod_eq_emod_of_nonneg _ (by decide), Int.fdiv_eq_ediv_of_nonneg _ (show (0 : Int) ≤ 4294967296 by decide), e1, e2, e3, e4, e5,
    bitAnd_pp (Int.natCast_nonneg _) (Int.natCast_nonneg _), Int.toNat_natCast, Int.toNat_natCast, nat_rot hm hn]
  simp
end Md
namespace Md
open PySem.NumText
theorem typeCall_int_2 (a b : Value) : checkTypeCall "int" ⟨[a, b], []⟩ = pure () := by kernel_rfl
theorem newCall_int_2 (a b : Value) : checkBuiltinCall "int.__new__" ⟨[.type "int", a, b], []⟩ = pure () := by kernel_rfl
theorem args_init_3 (o a b : Value) : argsOk "object.__init__" ⟨[o, a, b], []⟩ := by
  first | exact PySem.F.args_object_init_3 o a b | kernel_rfl
theorem wp_text16 {M : Model} {A : Around} {E : Value → Shared → Prop} {s : Shared} {Q : Value → Shared → Prop} {v : Value} {text : List Nat} {n : Int}
    (hs : (text.takeWhile (· != 0)).length ≤ 640) (hr : (int_private% "readNumeral") 0 16 (text.takeWhile (· != 0)) = (int_private% "Numeral.value") n)
    (ha : ((text.takeWhile (· != 0)).length == text.length) = true) (h : Q (.int n s.toks) { s with toks := s.toks + 1 }) :
    wpAny M A ((int_private% "intFromText") v text 16) Q E s := by
  obtain ⟨hp, g, d, tk, os⟩ := s
  repeat (any_goals (first
    | assumption
    | (with_reducible refine wpAny_ite_true (decide_eq_true hs) ?_)
    | (with_reducible refine wpAny_ite_true (decide_eq_true ha) ?_)
    | wp_step))
  all_goals (try rw [hr])
  all_goals (try dsimp only)
  repeat (any_goals (first
    | assumption
    | (with_reducible refine wpAny_ite_true (decide_eq_true hs) ?_)
    | (with_reducible refine wpAny_ite_true (decide_eq_true ha) ?_)
    | wp_step))
/-- what int(text, 16) reads -/
structure Reads16 (x : PySem.Str) (n : Int) : Prop where
  hs : (numSeenOf x).length ≤ 640
  hr : (int_private% "readNumeral") 0 16 (numSeenOf x) = (int_private% "Numeral.value") n
  ha : ((numSeenOf x).length == (numTextOf x).length) = true
theorem gives_text16 {x : PySem.Str} {u u2 : Tok} {n : Int} (hx : Reads16 x n) : Gives (Builtin.«int.__new__» ⟨[.type "int", .str x u, .int 16 u2], []⟩) (.int n) :=
  .of_wp fun M A E s Q h => by
    obtain ⟨hp, g, d, tk, os⟩ := s
    have f1 := F.conv_sub_int
    have f2 := F.madeHere_int
    repeat (any_goals (first
      | assumption
      | ((with_reducible show wpAny _ _ ((int_private% "intFromText") _ _ _) _ _ _); refine wp_text16 hx.hs hx.hr hx.ha ?_)
      | wp_step))
    all_goals first | exact ⟨_, rfl, h⟩ | skip
section
variable {prog : Program} {w : World} {A : Around} {E : Value → Shared → Prop} {s : Shared} {Q : Value → Shared → Prop} {x : PySem.Str} {t u : Tok} {n : Int}
theorem call_text16 (hx : Reads16 x n) (h : Q (.int n s.toks) { s with toks := s.toks + 1 }) : wpAny (model prog w) A (call (.type "int") [.str x t, .int 16 u]) Q E s :=
  callType_new F.called_int F.newNe_int (typeCall_int_2 _ _) (newCall_int_2 _ _) (fun obj => args_init_3 obj _ _) F.entry_int_new (gives_text16 hx).meets (show (Made.int n).post _ s from ⟨rfl, h⟩)
end
noncomputable def ok16 (x : PySem.Str) (n : Nat) : Bool :=
  decide ((numSeenOf x).length ≤ 640) && ((numSeenOf x).length == (numTextOf x).length) && ((sign ((numSeenOf x).dropWhile blank)).1 == false) &&
  ((based 16 (sign ((numSeenOf x).dropWhile blank)).2).1 == 16) && ((based 16 (sign ((numSeenOf x).dropWhile blank)).2).2.1 == false) &&
  match digits? 16 (((based 16 (sign ((numSeenOf x).dropWhile blank)).2).2.2.reverse.dropWhile blank).reverse) with
  | some ds => ds.toList.foldl (fun acc d => acc * 16 + d) 0 == n
  | none => false
theorem Reads16.of {x : PySem.Str} {n : Nat} (h : ok16 x n = true) : Reads16 x n := by
  unfold ok16 at h
  simp only [Bool.and_eq_true, decide_eq_true_eq, beq_iff_eq] at h
  obtain ⟨⟨⟨⟨⟨h1, h2⟩, h3⟩, h4⟩, h5⟩, h6⟩ := h
  refine ⟨h1, ?_, by simpa using h2⟩
  rw [readNumeral_eq, h3, h4, h5]
  split at h6
  · rename_i ds e
    rw [e]
    unfold judge
    have h7 : ds.foldl (fun acc d => acc * 16 + d) 0 = n := by rw [← Array.foldl_toList]; simpa using h6
    simp [h7]
  · cases h6
end Md
open_top hd for PySem.Challenge.rw_pb0470_01
local macro_rules | `(tactic| walk_at $s:str) => `(tactic| k_extra $s)
local macro_rules | `(tactic| k_mem) => `(tactic| (first | with_reducible assumption | assumption))
namespace Md
noncomputable abbrev LOO : List Str := looseW hd.view_39 [Str.ofString "SCALE"]
noncomputable abbrev PR : Program := PySem.Challenge.rw_pb0470_01.row.prog
theorem fill1 : hd.heap_39 = hd.heap_39 ∧ PySem.Challenge.rw_pb0470_01 = PySem.Challenge.rw_pb0470_01 := by
  w_top off
  k_fill
  exact ⟨rfl, rfl⟩

noncomputable def wordAt (lap step : Int) : Int := ([step, 5 * step + 1, 3 * step + 5, 7 * step].getD lap.toNat 0).fmod 16
noncomputable def mixedV (lap b c d : Int) : Int :=
  if lap = 0 then Builtin.bitOr (Builtin.bitAnd b c) (Builtin.bitAnd (4294967296 - 1 - b) d)
  else if lap = 1 then Builtin.bitOr (Builtin.bitAnd b d) (Builtin.bitAnd c (4294967296 - 1 - d))
  else if lap = 2 then Builtin.bitXor (Builtin.bitXor b c) d
  else Builtin.bitXor c (Builtin.bitOr b (4294967296 - 1 - d))
noncomputable def rotV (x n : Int) : Int := Builtin.bitOr (Builtin.bitAnd (x * 2 ^ n.toNat) (4294967296 - 1)) (x.fdiv (2 ^ (32 - n).toNat))
noncomputable def wordIn (l : List Int) : Int := l.getD 0 0 + 256 * (l.getD 1 0 + 256 * (l.getD 2 0 + 256 * l.getD 3 0))
section
variable {w : World} {mean : ExcName → Option Value} {mg mb : Str → Option Value} {dp un : Nat} {gd : Option (List Code)} {cn : Str} {cs : Scope} {ca : Addr} {ccd : Value} {cl : List (Str × Addr)} {outer : List Env} {A₀ : Around} {base h₀ : Heap} {L : Addr} {m : Str → Option Value} {news : List (Addr × Obj)} {s : Shared} {Q E : Value → Shared → Prop}
theorem word_at_ok (B : Below A₀ base outer h₀) (F : Fr h₀ L s.heap m) (X : (hd.heap_39 w.params).In h₀) (N : News h₀ L s.heap news) (T : Top hd.view_39 LOO mean mg mb h₀) (hk : cs.kind = .function) (hdp : dp + 1 < recursionLimit) (hun : un + 8 < cLine)
    {lap step : Int} {t1 t2 : Tok} (h0 : 0 ≤ lap) (h1 : lap ≤ 3)
    (hret : ∀ (t : Tok) (h' : Heap) (tk' : Nat), Fr h₀ L h' m → News h₀ L h' news → Q (.int (wordAt lap step) t) { s with heap := h', toks := tk' }) :
    wpAny (model PR w) (ktrTop dp un gd cn cs L ca ccd cl outer) (call (.ref 72) [.int lap t1, .int step t2]) Q E s := by
  refine wpAny_call ?_
  k_dflt cell_enter
  k_steps
  all_goals exact cb_retI (Q := Q) hret (by rfl) (by assumption) (cb_drop (by assumption) (by kcj_all))
theorem mixed_ok (B : Below A₀ base outer h₀) (F : Fr h₀ L s.heap m) (X : (hd.heap_39 w.params).In h₀) (N : News h₀ L s.heap news) (T : Top hd.view_39 LOO mean mg mb h₀) (hk : cs.kind = .function) (hdp : dp + 1 < recursionLimit) (hun : un + 8 < cLine)
    {lap b c d : Int} {t1 t2 t3 t4 : Tok}
    (hret : ∀ (t : Tok) (h' : Heap) (tk' : Nat), Fr h₀ L h' m → News h₀ L h' news → Q (.int (mixedV lap b c d) t) { s with heap := h', toks := tk' }) :
    wpAny (model PR w) (ktrTop dp un gd cn cs L ca ccd cl outer) (call (.ref 65) [.int lap t1, .int b t2, .int c t3, .int d t4]) Q E s := by
  refine wpAny_call ?_
  k_dflt cell_enter
  k_steps
  all_goals refine cb_retI (Q := Q) hret ?_ (by assumption) (cb_drop (by assumption) (by kcj_all))
  all_goals (unfold mixedV; simp_all)
theorem rotated_ok (B : Below A₀ base outer h₀) (F : Fr h₀ L s.heap m) (X : (hd.heap_39 w.params).In h₀) (N : News h₀ L s.heap news) (T : Top hd.view_39 LOO mean mg mb h₀) (hk : cs.kind = .function) (hdp : dp + 1 < recursionLimit) (hun : un + 8 < cLine)
    {x n : Int} {t1 t2 : Tok} (h0 : 0 ≤ n) (h1 : n ≤ 32) (h2 : 0 ≤ x) (h3 : x < 4294967296)
    (hret : ∀ (t : Tok) (h' : Heap) (tk' : Nat), Fr h₀ L h' m → News h₀ L h' news → Q (.int (rotV x n) t) { s with heap := h', toks := tk' }) :
    wpAny (model PR w) (ktrTop dp un gd cn cs L ca ccd cl outer) (call (.ref 79) [.int x t1, .int n t2]) Q E s := by
  refine wpAny_call ?_
  k_dflt cell_enter
  k_steps
  all_goals exact cb_retI (Q := Q) hret (by rfl) (by assumption) (cb_drop (by assumption) (by kcj_all))
theorem word_in_ok (B : Below A₀ base outer h₀) (F : Fr h₀ L s.heap m) (X : (hd.heap_39 w.params).In h₀) (N : News h₀ L s.heap news) (T : Top hd.view_39 LOO mean mg mb h₀) (hk : cs.kind = .function) (hdp : dp + 1 < recursionLimit) (hun : un + 8 < cLine)
    {b : Array UInt8} {ks : List Int} {t1 : Tok} (hb : KBw.bInts b = ks) (h0 : ks.length = 4)
    (hret : ∀ (t : Tok) (h' : Heap) (tk' : Nat), Fr h₀ L h' m → News h₀ L h' news → Q (.int (wordIn ks) t) { s with heap := h', toks := tk' }) :
    wpAny (model PR w) (ktrTop dp un gd cn cs L ca ccd cl outer) (call (.ref 53) [.bytes b t1]) Q E s := by
  refine wpAny_call ?_
  k_dflt cell_enter
  k_steps
  all_goals exact cb_retI (Q := Q) hret (by rfl) (by assumption) (cb_drop (by assumption) (by kcj_all))
end
end Md
namespace Md
theorem freshC2 : True := by
  w_top off
  k_with_none
  exact True.intro

abbrev tupO (vs : List Value) : Obj := { cls := .type "tuple", data := .seq vs.toArray }
noncomputable def turnAt (lap step : Int) : Int := ([[7, 12, 17, 22], [5, 9, 14, 20], [4, 11, 16, 23], [6, 10, 15, 21]].getD lap.toNat []).getD (step.fmod 4).toNat 0
noncomputable def totalV (a b c d : Int) (ws : List Int) (step added : Int) : Int := (a + mixedV (step.fdiv 16) b c d + ws.getD (wordAt (step.fdiv 16) step).toNat 0 + added).fmod 4294967296
noncomputable def newB (a b c d : Int) (ws : List Int) (step added : Int) : Int := (b + rotV (totalV a b c d ws step added) (turnAt (step.fdiv 16) step)).fmod 4294967296
theorem turn_lo {a b c d : Nat} {k : Nat} : (0 : Int) ≤ [(a : Int), b, c, d].getD k 0 := by
  rcases k with _ | _ | _ | _ | k <;> simp
theorem turn_hi {a b c d : Nat} {k : Nat} (ha : a ≤ 32) (hb : b ≤ 32) (hc : c ≤ 32) (hd : d ≤ 32) : [(a : Int), b, c, d].getD k 0 ≤ 32 := by
  rcases k with _ | _ | _ | _ | k <;> simp <;> omega
section
variable {w : World} {mean : ExcName → Option Value} {mg mb : Str → Option Value} {dp un : Nat} {gd : Option (List Code)} {cn : Str} {cs : Scope} {ca : Addr} {ccd : Value} {cl : List (Str × Addr)} {outer : List Env} {A₀ : Around} {base h₀ : Heap} {L : Addr} {m : Str → Option Value} {news : List (Addr × Obj)} {s : Shared} {Q E : Value → Shared → Prop}

theorem stepped_end {x : Int} {a b c d step added : Int} {u2 u3 u4 t : Tok} {ws : List Int} {r : Addr} {h' : Heap} {tk' : Nat}
    (hret : ∀ (r : Addr) (t : Tok) (h' : Heap) (tk' : Nat), Fr h₀ L h' m → News h₀ L h' ((r, tupO [.int d u4, .int (newB a b c d ws step added) t, .int b u2, .int c u3]) :: news) → (∀ p ∈ news, p.1 < r) → Q (.ref r) { s with heap := h', toks := tk' })
    (F : Fr h₀ L h' m) (N : News h₀ L h' ((r, tupO [.int d u4, .int x t, .int b u2, .int c u3]) :: news)) (l : ∀ p ∈ news, p.1 < r) (e : x = newB a b c d ws step added) : Q (.ref r) { s with heap := h', toks := tk' } := by
  subst e
  exact hret _ _ _ _ F N l
theorem stepped_ok (B : Below A₀ base outer h₀) (F : Fr h₀ L s.heap m) (X : (hd.heap_39 w.params).In h₀) (N : News h₀ L s.heap news) (T : Top hd.view_39 LOO mean mg mb h₀) (hk : cs.kind = .function) (hdp : dp + 2 < recursionLimit) (hun : un + 16 < cLine)
    {a4 aw : Addr} {a b c d step added : Int} {u1 u2 u3 u4 t1 t2 : Tok} {vw : List Value} {ws : List Int} {nw : Nat} (h4 : (a4, tupO [.int a u1, .int b u2, .int c u3, .int d u4]) ∈ news) (hw : (aw, listOf vw.toArray nw) ∈ news) (hi : IntsAre vw ws) (hl : ws.length = 16) (h0 : 0 ≤ step) (h1 : step < 64)
    (hret : ∀ (r : Addr) (t : Tok) (h' : Heap) (tk' : Nat), Fr h₀ L h' m → News h₀ L h' ((r, tupO [.int d u4, .int (newB a b c d ws step added) t, .int b u2, .int c u3]) :: news) → (∀ p ∈ news, p.1 < r) → Q (.ref r) { s with heap := h', toks := tk' }) :
    wpAny (model PR w) (ktrTop dp un gd cn cs L ca ccd cl outer) (call (.ref 86) [.ref a4, .ref aw, .int step t1, .int added t2]) Q E s := by
  k_with_none
  k_with "call ref" => (k_here; (with_reducible show wpAny _ _ (call (Value.ref 72) _) _ _ _); k_dflt (refine' Md.word_at_ok ?k1 ?k2 ?k3 ?k4 ?k5 ?kK ?kd ?ku ?a1 ?a2 ?_; (case k1 => k_asm); (case k2 => k_asm); (case k3 => k_asm); (case k4 => k_asm); (case k5 => k_asm); (case kK => first | exact rfl | assumption); (case kd => ktr_room); (case ku => ktr_units); (case a1 => first | omega | l_fact); (case a2 => first | omega | l_fact); k_whole; intro t9 h9 tk9 F9 N9; (try dsimp only); (try k_fold)))
  k_with "call ref" => (k_here; (with_reducible show wpAny _ _ (call (Value.ref 65) _) _ _ _); k_dflt (refine' Md.mixed_ok ?k1 ?k2 ?k3 ?k4 ?k5 ?kK ?kd ?ku  ?_; (case k1 => k_asm); (case k2 => k_asm); (case k3 => k_asm); (case k4 => k_asm); (case k5 => k_asm); (case kK => first | exact rfl | assumption); (case kd => ktr_room); (case ku => ktr_units); k_whole; intro t9 h9 tk9 F9 N9; (try dsimp only); (try k_fold)))
  k_with "call ref" => (k_here; (with_reducible show wpAny _ _ (call (Value.ref 79) _) _ _ _); k_dflt (refine' Md.rotated_ok ?k1 ?k2 ?k3 ?k4 ?k5 ?kK ?kd ?ku ?a1 ?a2 ?a3 ?a4 ?_; (case k1 => k_asm); (case k2 => k_asm); (case k3 => k_asm); (case k4 => k_asm); (case k5 => k_asm); (case kK => first | exact rfl | assumption); (case kd => ktr_room); (case ku => ktr_units); (case a1 => exact Md.turn_lo); (case a2 => exact Md.turn_hi (by decide) (by decide) (by decide) (by decide)); (case a3 => exact fmod_lo _ (by decide)); (case a4 => exact fmod_hi _ (by decide)); k_whole; intro t9 h9 tk9 F9 N9; (try dsimp only); (try k_fold)))
  refine wpAny_call ?_
  k_dflt cell_enter
  k_steps
  all_goals refine stepped_end (Q := Q) hret (by assumption) (by assumption) (by assumption) ?_
  all_goals (rename step.fdiv 16 = _ => hE; simp only [newB, totalV, turnAt, hE]; rfl)
end
end Md
namespace Md
theorem freshC3 : True := by
  w_top off
  k_with_none
  exact True.intro

noncomputable def lawBlend (at' b c d : Int) : Int := if at' < 16 then Builtin.bitAnd b c + Builtin.bitAnd (4294967295 - b) d
  else if at' < 32 then Builtin.bitAnd d b + Builtin.bitAnd (4294967295 - d) c
  else if at' < 48 then b + c - 2 * Builtin.bitAnd b c + d - 2 * Builtin.bitAnd (b + c - 2 * Builtin.bitAnd b c) d
  else Builtin.bitOr b (4294967295 - d) + c - 2 * Builtin.bitAnd (Builtin.bitOr b (4294967295 - d)) c
noncomputable def lawSpot (at' : Int) : Int := if at' < 16 then at' else if at' < 32 then (5 * at' + 1).fmod 16 else if at' < 48 then (3 * at' + 5).fmod 16 else (7 * at').fmod 16
noncomputable def lawTurn (at' : Int) : Int := if at' < 16 then [7, 12, 17, 22].getD (at'.fmod 4).toNat 0 else if at' < 32 then [5, 9, 14, 20].getD (at'.fmod 4).toNat 0
  else if at' < 48 then [4, 11, 16, 23].getD (at'.fmod 4).toNat 0 else [6, 10, 15, 21].getD (at'.fmod 4).toNat 0
noncomputable def lawTotal (a b c d : Int) (ws : List Int) (at' : Int) (add : List Int) : Int := (a + lawBlend at' b c d + ws.getD (lawSpot at').toNat 0 + add.getD at'.toNat 0).fmod 4294967296
noncomputable def lawUp (a b c d : Int) (ws : List Int) (at' : Int) (add : List Int) : Int := lawTotal a b c d ws at' add * 2 ^ (lawTurn at').toNat
noncomputable def lawB (a b c d : Int) (ws : List Int) (at' : Int) (add : List Int) : Int := (b + (lawUp a b c d ws at' add).fmod 4294967296 + (lawUp a b c d ws at' add).fdiv 4294967296).fmod 4294967296
theorem lawSpot_in {x : Int} (h0 : 0 ≤ x) (h1 : x < 64) : 0 ≤ lawSpot x ∧ lawSpot x < 16 := by
  unfold lawSpot
  split
  · omega
  · split
    · exact ⟨fmod_lo _ (by decide), fmod_hi _ (by decide)⟩
    · split
      · exact ⟨fmod_lo _ (by decide), fmod_hi _ (by decide)⟩
      · exact ⟨fmod_lo _ (by decide), fmod_hi _ (by decide)⟩
theorem lawTurn_in {x : Int} (_h : 0 ≤ lawTurn x) : 0 ≤ lawTurn x ∧ lawTurn x ≤ 32 := by
  refine ⟨_h, ?_⟩
  unfold lawTurn
  split
  · exact turn_hi (a := 7) (b := 12) (c := 17) (d := 22) (by decide) (by decide) (by decide) (by decide)
  · split
    · exact turn_hi (a := 5) (b := 9) (c := 14) (d := 20) (by decide) (by decide) (by decide) (by decide)
    · split
      · exact turn_hi (a := 4) (b := 11) (c := 16) (d := 23) (by decide) (by decide) (by decide) (by decide)
      · exact turn_hi (a := 6) (b := 10) (c := 15) (d := 21) (by decide) (by decide) (by decide) (by decide)
theorem lawTurn_lo (x : Int) : 0 ≤ lawTurn x := by
  unfold lawTurn
  split
  · exact turn_lo (a := 7) (b := 12) (c := 17) (d := 22)
  · split
    · exact turn_lo (a := 5) (b := 9) (c := 14) (d := 20)
    · split
      · exact turn_lo (a := 4) (b := 11) (c := 16) (d := 23)
      · exact turn_lo (a := 6) (b := 10) (c := 15) (d := 21)
theorem up_ok {x k : Int} (h : k ≤ 32) : IntMulOk (x.fmod 4294967296) (2 ^ k.toNat) := by
  refine IntMulOk.of_le (m := 40) (n := 40) (intBits_le_iff.mpr ?_) (intBits_le_iff.mpr ?_) (by decide)
  · have h0 := fmod_lo x (n := 4294967296) (by decide)
    have h1 := fmod_hi x (n := 4294967296) (by decide)
    omega
  · have e : ((2 : Int) ^ k.toNat).natAbs = 2 ^ k.toNat := by rw [Int.natAbs_pow]; rfl
    rw [e]
    exact Nat.pow_lt_pow_right (by decide) (by omega)
/-- a cut ahead of a statement: what stands behind it is walked once -/
theorem cut_val {σ : Type} {M : Model} {A : Around} {T : Sem Flow} {h₁ : Heap} {L₁ : Addr} {m₁ : Str → Option Value} {nl : List (Addr × Obj)} {s₁ : Shared} {Q₁ : Flow → Shared → Prop} {E₁ : Value → Shared → Prop} (ps : σ → List (Str × Value)) (P : σ → Prop) (x : Str) (stored : List Str)
    (F : Fr h₁ L₁ s₁.heap m₁) (N : News h₁ L₁ s₁.heap nl) (hif : wpAny M A T (ValTurn h₁ L₁ ps P x stored m₁ nl s₁) E₁ s₁)
    (rest : ∀ c (u : Str → Option Value) h tk, P c → Fr h₁ L₁ h (fun z => if z = x then u z else kstB (fun z => if stored.contains z then u z else m₁ z) (ps c) z) → News h₁ L₁ h nl → Q₁ .next { s₁ with heap := h, toks := tk }) : wpAny M A T Q₁ E₁ s₁ := by
  refine wpAny_mono hif (fun f s₂ q => ?_) fun _ _ e => e
  obtain ⟨rfl, h', tk', m', c, rfl, F', N', hP, h1, h2⟩ := q
  exact rest c m' h' tk' hP (kst_frOut h1 h2 F') N'
noncomputable def blendPs (c : (Int × Int × Int) × (Tok × Tok × Tok)) : List (Str × Value) := [(Str.ofString "blend", .int c.1.1 c.2.1), (Str.ofString "spot", .int c.1.2.1 c.2.2.1), (Str.ofString "turn", .int c.1.2.2 c.2.2.2)]
section
variable {w : World} {mean : ExcName → Option Value} {mg mb : Str → Option Value} {dp un : Nat} {gd : Option (List Code)} {cn : Str} {cs : Scope} {ca : Addr} {ccd : Value} {cl : List (Str × Addr)} {outer : List Env} {A₀ : Around} {base h₀ : Heap} {L : Addr} {m : Str → Option Value} {news : List (Addr × Obj)} {s : Shared} {Q E : Value → Shared → Prop}

theorem item_ok {prog : Program} {A : Around} {aw : Addr} {vw : List Value} {ws : List Int} {nw : Nat} {k : Int} {u : Tok} {value slice : PySem.Expr} {nl : List (Addr × Obj)} (N : News h₀ L s.heap nl) (hm : (aw, listOf vw.toArray nw) ∈ nl) (hi : IntsAre vw ws) (h0 : 0 ≤ k) (h1 : k < ws.length) (hf : ws.length ≤ 1000000)
    (h : ∀ t, Q (.int (ws.getD k.toNat 0) t) s) (hs : subscripted slice false (.ref aw) (.int k u) = operate [.ref aw, .int k u] (getItem (.ref aw) (.int k u)) := by with_unfolding_all rfl) :
    wpAny (model prog w) A (subscriptTail value slice (.ref aw) (.int k u)) Q E s := by
  have hL : s.heap.IsList aw vw.toArray := ⟨_, (N _ hm).1, rfl, nw, rfl⟩
  have hk : k.toNat < ws.length := by omega
  obtain ⟨t, hx⟩ := hi.get k.toNat _ (List.getElem?_eq_getElem hk)
  have e : ws.getD k.toNat 0 = ws[k.toNat] := by rw [List.getD_eq_getElem?_getD, List.getElem?_eq_getElem hk]; rfl
  have h' := h t
  rw [e] at h'
  exact tail_any hL.typeIs slot_list_getitem.lookup (wpAny_getItem_list hL h0 (by omega) (by simpa using hx) h') hs

theorem round_end {x : Int} {a b c d at' : Int} {u2 u3 u4 t : Tok} {ws add : List Int} {r : Addr} {h' : Heap} {tk' : Nat}
    (hret : ∀ (r : Addr) (t : Tok) (h' : Heap) (tk' : Nat), Fr h₀ L h' m → News h₀ L h' ((r, listOf [Value.int d u4, .int (lawB a b c d ws at' add) t, .int b u2, .int c u3].toArray 0) :: news) → (∀ p ∈ news, p.1 < r) → Q (.ref r) { s with heap := h', toks := tk' })
    (F : Fr h₀ L h' m) (N : News h₀ L h' ((r, listOf [Value.int d u4, .int x t, .int b u2, .int c u3].toArray 0) :: news)) (l : ∀ p ∈ news, p.1 < r) (e : x = lawB a b c d ws at' add) : Q (.ref r) { s with heap := h', toks := tk' } := by
  subst e
  exact hret _ _ _ _ F N l
theorem law_round_ok (B : Below A₀ base outer h₀) (F : Fr h₀ L s.heap m) (X : (hd.heap_39 w.params).In h₀) (N : News h₀ L s.heap news) (T : Top hd.view_39 LOO mean mg mb h₀) (hk : cs.kind = .function) (hdp : dp + 2 < recursionLimit) (hun : un + 16 < cLine)
    {a4 aw aa : Addr} {a b c d at' : Int} {u1 u2 u3 u4 t1 : Tok} {vw va : List Value} {ws add : List Int} {n4 nw na : Nat} (h4 : (a4, listOf [Value.int a u1, .int b u2, .int c u3, .int d u4].toArray n4) ∈ news) (hw : (aw, listOf vw.toArray nw) ∈ news) (hi : IntsAre vw ws) (hl : ws.length = 16) (ha : (aa, listOf va.toArray na) ∈ news) (hia : IntsAre va add) (hla : add.length = 64) (h0 : 0 ≤ at') (h1 : at' < 64)
    (hret : ∀ (r : Addr) (t : Tok) (h' : Heap) (tk' : Nat), Fr h₀ L h' m → News h₀ L h' ((r, listOf [Value.int d u4, .int (lawB a b c d ws at' add) t, .int b u2, .int c u3].toArray 0) :: news) → (∀ p ∈ news, p.1 < r) → Q (.ref r) { s with heap := h', toks := tk' }) :
    wpAny (model PR w) (ktrTop dp un gd cn cs L ca ccd cl outer) (call (.ref 122) [.ref a4, .int at' t1, .ref aw, .ref aa]) Q E s := by
  k_with_none
  k_with "subscriptTail" => (k_here; (with_reducible show wpAny _ _ (subscriptTail _ _ (Value.ref _) (Value.int _ _)) _ _ _); k_dflt (refine' Md.item_ok ?N ?m ?i ?lo ?hi ?f ?_ ?s; (case N => k_asm); (case m => k_mem); (case i => assumption); (case f => omega); (case lo => first | omega | ((try k_fmods); omega)); (case hi => first | omega | ((try k_fmods); omega)); (case s => with_unfolding_all rfl); k_whole); intro _)
  k_with "binaryOp Pow int int" => (k_here; (with_reducible refine pow_int_small ?kb1 ?kb2 ?kb3 ?_); (case kb1 => assumption); (case kb2 => k_dflt (exact Int.le_trans (Md.lawTurn_in (by assumption)).2 (by decide))); (case kb3 => decide))
  k_with "binaryOp Mult int int" => (k_here; (with_reducible show wpAny _ _ (binaryOp _ (Value.int (Int.fmod _ _) _) (Value.int (_ ^ _) _)) _ _ _); (with_reducible refine' mul_int ?_ ?ok); (case ok => k_dflt (exact Md.up_ok (Md.lawTurn_in (by assumption)).2)))
  k_with "exec If" => (k_here; (with_reducible show wpAny _ _ (exec (PySem.Stmt.If (PySem.Expr.Compare _ _ [PySem.Expr.Constant (PySem.Const.int 16) _ _] _) _ _ _) _) _ _ _); refine Md.stop_of ?_)
  refine wpAny_call ?_
  k_dflt cell_enter
  k_steps
  refine stop_in ?_
  (with_reducible rename Fr _ _ _ _ => lF)
  (with_reducible rename News _ _ _ _ => lN)
  refine cut_val blendPs (fun v => v.1 = (lawBlend at' b c d, lawSpot at', lawTurn at')) (Str.ofString "other") [] lF lN ?_ ?_
  · refine wpAny_If ?_
    k_steps
    all_goals
      (with_reducible rename Fr _ _ _ _ => Fz)
      (with_reducible rename News _ _ _ _ => Nz)
      dsimp only at Fz Nz ⊢
      refine' ValTurn.intro ((_, _, _), (_, _, _)) Fz Nz (fun p hp => by simp [hp]) ?p1 ?k1 ?z1
      case k1 => (refine List.forall_mem_cons.mpr ⟨?ka3, ?kr3⟩; (case ka3 => exact rfl); (case kr3 => (refine List.forall_mem_cons.mpr ⟨?ka2, ?kr2⟩; (case ka2 => exact rfl); (case kr2 => (refine List.forall_mem_cons.mpr ⟨?ka1, ?kr1⟩; (case ka1 => exact rfl); (case kr1 => exact List.forall_mem_nil _))))))
      case z1 =>
        intro z h1 h2 h3
        have a0 := h2 _ (.head _)
        have a1 := h2 _ (.tail _ (.head _))
        have a2 := h2 _ (.tail _ (.tail _ (.head _)))
        dsimp only at a0 a1 a2
        simp only [h1, a0, a1, a2, if_false]
      case p1 =>
        unfold lawBlend lawSpot lawTurn
        first
          | (rename at' < 16 => q1; simp only [if_pos q1] <;> rfl)
          | (rename ¬ at' < 16 => q1; rename at' < 32 => q2; simp only [if_neg q1, if_pos q2] <;> rfl)
          | (rename ¬ at' < 16 => q1; rename ¬ at' < 32 => q2; rename at' < 48 => q3; simp only [if_neg q1, if_neg q2, if_pos q3] <;> rfl)
          | (rename ¬ at' < 16 => q1; rename ¬ at' < 32 => q2; rename ¬ at' < 48 => q3; simp only [if_neg q1, if_neg q2, if_neg q3] <;> rfl)
  · clear lF lN
    rintro ⟨⟨bl, sp, tu⟩, ⟨x1, x2, x3⟩⟩ u h tk hP F N
    obtain ⟨rfl, rfl, rfl⟩ : bl = _ ∧ sp = _ ∧ tu = _ := ⟨congrArg (·.1) hP, congrArg (·.2.1) hP, congrArg (·.2.2) hP⟩
    have hs := lawSpot_in h0 h1
    have ht := lawTurn_lo at'
    dsimp only [blendPs] at F
    dsimp only at F N ⊢
    try k_fold
    k_steps
    all_goals refine' round_end hret (by k_asm) (by first | k_asm | exact cb_drop (by assumption) (by kcj_all)) (by first | assumption | exact ktn_ltOf (by assumption) | exact ktn_ltOf (And.right (by assumption)) | exact ktn_ltOf (And.right (And.right (by assumption)))) (by exact (by rfl))
end
end Md
namespace Md
theorem freshC4 : True := by
  w_top off
  k_with_none
  exact True.intro

noncomputable def wordsV (ks : List Int) : List Int := (rangeKs 0 (16 - 0 : Int).toNat).map fun k' => wordIn (List.take ((4 * k' + 4).toNat - (4 * k').toNat) (List.drop (4 * k').toNat ks))
theorem wordsV_length (ks : List Int) : (wordsV ks).length = 16 := by simp [wordsV, rangeKs]
section
variable {w : World} {mean : ExcName → Option Value} {mg mb : Str → Option Value} {dp un : Nat} {gd : Option (List Code)} {cn : Str} {cs : Scope} {ca : Addr} {ccd : Value} {cl : List (Str × Addr)} {outer : List Env} {A₀ : Around} {base h₀ : Heap} {L : Addr} {m : Str → Option Value} {news : List (Addr × Obj)} {s : Shared} {Q E : Value → Shared → Prop}

theorem slice_ok {A : Around} {value : PySem.Expr} {sl : PySem.Expr} {b : Array UInt8} {ks : List Int} {i j : Int} {t ti tj : Tok} {nl : List (Addr × Obj)} (F : Fr h₀ L s.heap m) (N : News h₀ L s.heap nl) (hb : KBw.bInts b = ks) (h0 : 0 ≤ i) (h1 : i ≤ j) (h2 : j ≤ ks.length) (hz : ks.length ≤ 16777216)
    (h : ∀ b' h' t' k, Fr h₀ L h' m → News h₀ L h' nl → KBw.bInts b' = (ks.drop i.toNat).take (j.toNat - i.toNat) → Q (.bytes b' t') { s with heap := h', toks := k })
    (hs : subscripted sl false (.bytes b t) (.ref s.heap.objs.size) = operate [.ref s.heap.objs.size, .bytes b t] (getItem (.bytes b t) (.ref s.heap.objs.size)) := by with_unfolding_all rfl)
    (ht : ∀ r, letTemporaryGo value (.bytes b t) r = pure () := by intro _; with_unfolding_all rfl) :
    wpAny (model PR w) A (subscriptTail value sl (.bytes b t) (.ref s.heap.objs.size)) Q E { s with heap := s.heap.push { cls := .type "slice", data := .fields #[.int i ti, .int j tj, .none] } } := by
  refine KBc.slice_K F N hb (.int i ti) (.int j tj) hz (fun h' t' k F' N' e => h _ h' t' k F' N' (e.trans ?_)) hs ht
  have e1 : clipAt ks.length i = i.toNat := by rw [show i = ((i.toNat : Nat) : Int) by omega, clipAt_nat]; omega
  have e2 : clipAt ks.length j = j.toNat := by rw [show j = ((j.toNat : Nat) : Int) by omega, clipAt_nat]; omega
  simp only [Option.elim, e1, e2]

theorem list_end {ls : List Int} {vs : List Value} {n : Nat} {r : Addr} {h' : Heap} {tk' : Nat}
    (hret : ∀ (r : Addr) (vs : List Value) (n : Nat) (h' : Heap) (tk' : Nat), Fr h₀ L h' m → News h₀ L h' ((r, listOf vs.toArray n) :: news) → IntsAre vs ls → Q (.ref r) { s with heap := h', toks := tk' })
    (F : Fr h₀ L h' m) (N : News h₀ L h' ((r, listOf vs.toArray n) :: news)) (l : IntsAre vs ls) (_e : True) : Q (.ref r) { s with heap := h', toks := tk' } := hret _ _ _ _ _ F N l
theorem words_in_ok (B : Below A₀ base outer h₀) (F : Fr h₀ L s.heap m) (X : (hd.heap_39 w.params).In h₀) (N : News h₀ L s.heap news) (T : Top hd.view_39 LOO mean mg mb h₀) (hk : cs.kind = .function) (hdp : dp + 2 < recursionLimit) (hun : un + 16 < cLine)
    {b : Array UInt8} {ks : List Int} {t1 : Tok} (hb : KBw.bInts b = ks) (h0 : ks.length = 64)
    (hret : ∀ (r : Addr) (vs : List Value) (n : Nat) (h' : Heap) (tk' : Nat), Fr h₀ L h' m → News h₀ L h' ((r, listOf vs.toArray n) :: news) → IntsAre vs (wordsV ks) → Q (.ref r) { s with heap := h', toks := tk' }) :
    wpAny (model PR w) (ktrTop dp un gd cn cs L ca ccd cl outer) (call (.ref 58) [.bytes b t1]) Q E s := by
  k_with_none
  k_with "call ref" => (k_here; (with_reducible show wpAny _ _ (call (Value.ref 53) _) _ _ _); k_dflt (refine' Md.word_in_ok ?k1 ?k2 ?k3 ?k4 ?k5 ?kK ?kd ?ku ?a1 ?a2 ?_; (case k1 => k_asm); (case k2 => k_asm); (case k3 => k_asm); (case k4 => k_asm); (case k5 => k_asm); (case kK => first | exact rfl | assumption); (case kd => ktr_room); (case ku => ktr_units); (case a1 => assumption); (case a2 => simp only [List.length_take, List.length_drop]; omega); k_whole; intro t9 h9 tk9 F9 N9; (try dsimp only); (try k_fold)))
  k_with "subscriptTail" => (k_here; (with_reducible show wpAny _ _ (subscriptTail _ (Expr.Slice _ _ none _) (Value.bytes _ _) (Value.ref _)) _ _ _); (with_reducible rename Fr _ _ _ _ => F'); (with_reducible rename News _ _ _ _ => N'); k_dflt (refine' Md.slice_ok (s := ⟨_, _, _, _, _⟩) F' N' ?b ?a0 ?a1 ?a2 ?z ?_ ?hs ?ht; (case b => assumption); (case a0 => omega); (case a1 => omega); (case a2 => omega); (case z => omega); (case hs => with_unfolding_all rfl); (case ht => intro _; with_unfolding_all rfl)); intro _ _ _ _ F' N' _)
  refine wpAny_call ?_
  k_dflt (refine' code_defC ?k1 ?k2 ?k3 ?k4 ?k5 ?kA ?kF ?kK ?k6 ?k7 ?k8 ?k9 ?kB ?kD ?_ ?c2 ?c3 ?c4; (case kA => exact rfl); (case kF => exact rfl); (case kK => assumption); (case k1 => k_asm); (case k2 => k_asm); (case k3 => k_asm); (case k4 => k_asm); (case k5 => k_asm); (case k6 => k_is); (case k7 => k_is); (case k8 => ktr_room); (case k9 => exact BindsTo.of_eq rfl); (case kB => exact rfl); (case kD => decide +kernel); (case c2 => exact rfl); (case c3 => exact rfl); (case c4 => exact rfl); k_whole; intro g' L' h' tk' cells' FG' F' N' Y' B' X' T' l1; (try k_lt l1); k_cells Y'; (try simp only [List.cons_append, List.nil_append] at N'); (try dsimp only); (try k_lift B'); (try k_fold))
  k_steps
  all_goals refine' list_end hret (by k_asm) (by first | k_asm | exact cb_drop (by assumption) (by kcj_all)) (by first | assumption | (with_unfolding_all assumption)) (by exact trivial)
end
end Md
namespace Md
theorem freshC5 : True := by
  w_top off
  k_with_none
  exact True.intro

abbrev Four := Int × Int × Int × Int
noncomputable def fourNext (ws add : List Int) (i : Nat) (v : Four) : Four := (v.2.2.2, newB v.1 v.2.1 v.2.2.1 v.2.2.2 ws i (add.getD i 0), v.2.1, v.2.2.1)
noncomputable def fourAt (ws add : List Int) (v : Four) : Nat → Four
  | 0 => v
  | i + 1 => fourNext ws add i (fourAt ws add v i)
noncomputable def IsTup4 (v : Four) (o : Obj) : Prop := ∃ u1 u2 u3 u4 : Tok, o = tupO [.int v.1 u1, .int v.2.1 u2, .int v.2.2.1 u3, .int v.2.2.2 u4]

noncomputable def fourSum (v q : Four) : Four := ((v.1 + q.1).fmod 4294967296, (v.2.1 + q.2.1).fmod 4294967296, (v.2.2.1 + q.2.2.1).fmod 4294967296, (v.2.2.2 + q.2.2.2).fmod 4294967296)
noncomputable def blockV (v : Four) (ks add : List Int) : Four := fourSum v (fourAt (wordsV ks) add v 64)
/-- what the closing comprehension makes at the place i -/
noncomputable def SumAt (xs ys : Array Value) (i : Nat) (y : Value) : Prop := ∃ (p q : Int) (tp tq t : Tok), xs[i]? = some (.int p tp) ∧ ys[i]? = some (.int q tq) ∧ y = .int ((p + q).fmod 4294967296) t
theorem ints4 {p0 p1 p2 p3 : Int} {t0 t1 t2 t3 : Tok} {i : Nat} {y : Value} (h : (#[Value.int p0 t0, .int p1 t1, .int p2 t2, .int p3 t3] : Array Value)[i]? = some y) : ∃ p t, y = .int p t := by
  rcases i with _ | _ | _ | _ | i
  · simp at h; exact ⟨_, _, h.symm⟩
  · simp at h; exact ⟨_, _, h.symm⟩
  · simp at h; exact ⟨_, _, h.symm⟩
  · simp at h; exact ⟨_, _, h.symm⟩
  · simp at h
theorem SumAt.val {xs ys : Array Value} {i : Nat} {y : Value} {p q : Int} {tp tq : Tok} (h : SumAt xs ys i y) (hx : xs[i]? = some (.int p tp)) (hy : ys[i]? = some (.int q tq)) : ∃ t, y = .int ((p + q).fmod 4294967296) t := by
  obtain ⟨p', q', tp', tq', t, e, f, rfl⟩ := h
  rw [hx] at e
  rw [hy] at f
  cases e
  cases f
  exact ⟨t, rfl⟩
theorem list4 {α : Type} : ∀ {l : List α}, l.length = 4 → ∃ a b c d, l = [a, b, c, d]
  | l, h => by
    cases l with | nil => cases h | cons a l => cases l with | nil => cases h | cons b l => cases l with | nil => cases h | cons c l => cases l with | nil => cases h | cons d l => cases l with | nil => exact ⟨a, b, c, d, rfl⟩ | cons e l => cases h
theorem sums4 {v q : Four} {u1 u2 u3 u4 w1 w2 w3 w4 : Tok} {vs : List Value} (hl : vs.length = 4)
    (h : ∀ i y, vs[i]? = some y → SumAt #[.int v.1 u1, .int v.2.1 u2, .int v.2.2.1 u3, .int v.2.2.2 u4] #[.int q.1 w1, .int q.2.1 w2, .int q.2.2.1 w3, .int q.2.2.2 w4] i y) :
    ∃ t1 t2 t3 t4 : Tok, vs = [.int (fourSum v q).1 t1, .int (fourSum v q).2.1 t2, .int (fourSum v q).2.2.1 t3, .int (fourSum v q).2.2.2 t4] := by
  obtain ⟨a, b, c, d, rfl⟩ := list4 hl
  obtain ⟨t1, rfl⟩ := (h 0 a rfl).val rfl rfl
  obtain ⟨t2, rfl⟩ := (h 1 b rfl).val rfl rfl
  obtain ⟨t3, rfl⟩ := (h 2 c rfl).val rfl rfl
  obtain ⟨t4, rfl⟩ := (h 3 d rfl).val rfl rfl
  exact ⟨t1, t2, t3, t4, rfl⟩

noncomputable def v0 : Four := (1732584193, 4023233417, 2562383102, 271733878)
section S1
variable {w : World} {mean : ExcName → Option Value} {mg mb : Str → Option Value} {dp un : Nat} {gd : Option (List Code)} {cn : Str} {cs : Scope} {ca : Addr} {ccd : Value} {cl : List (Str × Addr)} {outer : List Env} {A₀ : Around} {base h₀ : Heap} {L : Addr} {m : Str → Option Value} {news : List (Addr × Obj)} {s : Shared} {Q E : Value → Shared → Prop}

theorem tup4_end {v : Four} {x1 x2 x3 x4 : Int} {t1 t2 t3 t4 : Tok} {r : Addr} {h' : Heap} {tk' : Nat}
    (hret : ∀ (r : Addr) (t1 t2 t3 t4 : Tok) (h' : Heap) (tk' : Nat), Fr h₀ L h' m → News h₀ L h' ((r, tupO [.int (v).1 t1, .int (v).2.1 t2, .int (v).2.2.1 t3, .int (v).2.2.2 t4]) :: news) → (∀ p ∈ news, p.1 < r) → Q (.ref r) { s with heap := h', toks := tk' })
    (F : Fr h₀ L h' m) (N : News h₀ L h' ((r, tupO [.int x1 t1, .int x2 t2, .int x3 t3, .int x4 t4]) :: news)) (l : ∀ p ∈ news, p.1 < r) (e : x1 = v.1 ∧ x2 = v.2.1 ∧ x3 = v.2.2.1 ∧ x4 = v.2.2.2) : Q (.ref r) { s with heap := h', toks := tk' } := by
  obtain ⟨rfl, rfl, rfl, rfl⟩ := e
  exact hret _ _ _ _ _ _ _ F N l
theorem stepped_ok0 (B : Below A₀ base outer h₀) (F : Fr h₀ L s.heap m) (X : (hd.heap_39 w.params).In h₀) (N : News h₀ L s.heap news) (T : Top hd.view_39 LOO mean mg mb h₀) (hk : cs.kind = .function) (hdp : dp + 2 < recursionLimit) (hun : un + 16 < cLine)
    {aw : Addr} {step added : Int} {t1 t2 : Tok} {vw : List Value} {ws : List Int} {nw : Nat} (hw : (aw, listOf vw.toArray nw) ∈ news) (hi : IntsAre vw ws) (hl : ws.length = 16) (h0 : 0 ≤ step) (h1 : step < 64)
    (hret : ∀ (r : Addr) (t1 t2 t3 t4 : Tok) (h' : Heap) (tk' : Nat), Fr h₀ L h' m → News h₀ L h' ((r, tupO [.int ((v0.2.2.2, newB v0.1 v0.2.1 v0.2.2.1 v0.2.2.2 ws step added, v0.2.1, v0.2.2.1)).1 t1, .int ((v0.2.2.2, newB v0.1 v0.2.1 v0.2.2.1 v0.2.2.2 ws step added, v0.2.1, v0.2.2.1)).2.1 t2, .int ((v0.2.2.2, newB v0.1 v0.2.1 v0.2.2.1 v0.2.2.2 ws step added, v0.2.1, v0.2.2.1)).2.2.1 t3, .int ((v0.2.2.2, newB v0.1 v0.2.1 v0.2.2.1 v0.2.2.2 ws step added, v0.2.1, v0.2.2.1)).2.2.2 t4]) :: news) → (∀ p ∈ news, p.1 < r) → Q (.ref r) { s with heap := h', toks := tk' }) :
    wpAny (model PR w) (ktrTop dp un gd cn cs L ca ccd cl outer) (call (.ref 86) [.ref 20, .ref aw, .int step t1, .int added t2]) Q E s := by
  k_with_none
  k_with "call ref" => (k_here; (with_reducible show wpAny _ _ (call (Value.ref 72) _) _ _ _); k_dflt (refine' Md.word_at_ok ?k1 ?k2 ?k3 ?k4 ?k5 ?kK ?kd ?ku ?a1 ?a2 ?_; (case k1 => k_asm); (case k2 => k_asm); (case k3 => k_asm); (case k4 => k_asm); (case k5 => k_asm); (case kK => first | exact rfl | assumption); (case kd => ktr_room); (case ku => ktr_units); (case a1 => first | omega | l_fact); (case a2 => first | omega | l_fact); k_whole; intro t9 h9 tk9 F9 N9; (try dsimp only); (try k_fold)))
  k_with "call ref" => (k_here; (with_reducible show wpAny _ _ (call (Value.ref 65) _) _ _ _); k_dflt (refine' Md.mixed_ok ?k1 ?k2 ?k3 ?k4 ?k5 ?kK ?kd ?ku  ?_; (case k1 => k_asm); (case k2 => k_asm); (case k3 => k_asm); (case k4 => k_asm); (case k5 => k_asm); (case kK => first | exact rfl | assumption); (case kd => ktr_room); (case ku => ktr_units); k_whole; intro t9 h9 tk9 F9 N9; (try dsimp only); (try k_fold)))
  k_with "call ref" => (k_here; (with_reducible show wpAny _ _ (call (Value.ref 79) _) _ _ _); k_dflt (refine' Md.rotated_ok ?k1 ?k2 ?k3 ?k4 ?k5 ?kK ?kd ?ku ?a1 ?a2 ?a3 ?a4 ?_; (case k1 => k_asm); (case k2 => k_asm); (case k3 => k_asm); (case k4 => k_asm); (case k5 => k_asm); (case kK => first | exact rfl | assumption); (case kd => ktr_room); (case ku => ktr_units); (case a1 => exact Md.turn_lo); (case a2 => exact Md.turn_hi (by decide) (by decide) (by decide) (by decide)); (case a3 => exact fmod_lo _ (by decide)); (case a4 => exact fmod_hi _ (by decide)); k_whole; intro t9 h9 tk9 F9 N9; (try dsimp only); (try k_fold)))
  refine wpAny_call ?_
  k_dflt cell_enter
  k_steps
  all_goals refine' tup4_end hret (by k_asm) (by first | k_asm | exact cb_drop (by assumption) (by kcj_all)) (by first | assumption | exact ktn_ltOf (by assumption) | exact ktn_ltOf (And.right (by assumption)) | exact ktn_ltOf (And.right (And.right (by assumption))) | exact ktn_ltOf (And.right (And.right (And.right (by assumption)))) | exact ktn_ltOf (And.right (And.right (And.right (And.right (by assumption)))))) (by exact (by rename step.fdiv 16 = _ => hE; exact ⟨rfl, by show _ = newB 1732584193 4023233417 2562383102 271733878 ws step added; simp only [newB, totalV, turnAt, hE]; rfl, rfl, rfl⟩))
theorem block_taken_ok (B : Below A₀ base outer h₀) (F : Fr h₀ L s.heap m) (X : (hd.heap_39 w.params).In h₀) (N : News h₀ L s.heap news) (T : Top hd.view_39 LOO mean mg mb h₀) (hk : cs.kind = .function) (hdp : dp + 3 < recursionLimit) (hun : un + 24 < cLine)
    {b : Array UInt8} {ks : List Int} {va : List Value} {add : List Int} {na : Nat} {t1 : Tok} {a4 aa : Addr} {v : Four} {u1 u2 u3 u4 : Tok} (hb : KBw.bInts b = ks) (h0 : ks.length = 64) (ha : (aa, listOf va.toArray na) ∈ news) (hia : IntsAre va add) (hla : add.length = 64) (h4 : (a4, tupO [.int v.1 u1, .int v.2.1 u2, .int v.2.2.1 u3, .int v.2.2.2 u4]) ∈ news)
    (hret : ∀ (r : Addr) (t1 t2 t3 t4 : Tok) (h' : Heap) (tk' : Nat), Fr h₀ L h' m → News h₀ L h' ((r, tupO [.int (blockV v ks add).1 t1, .int (blockV v ks add).2.1 t2, .int (blockV v ks add).2.2.1 t3, .int (blockV v ks add).2.2.2 t4]) :: news) → (∀ p ∈ news, p.1 < r) → Q (.ref r) { s with heap := h', toks := tk' }) :
    wpAny (model PR w) (ktrTop dp un gd cn cs L ca ccd cl outer) (call (.ref 91) [.ref a4, .bytes b t1, .ref aa]) Q E s := by
  k_with_none
  k_with "call ref" => (k_here; (with_reducible show wpAny _ _ (call (Value.ref 72) _) _ _ _); k_dflt (refine' Md.word_at_ok ?k1 ?k2 ?k3 ?k4 ?k5 ?kK ?kd ?ku ?a1 ?a2 ?_; (case k1 => k_asm); (case k2 => k_asm); (case k3 => k_asm); (case k4 => k_asm); (case k5 => k_asm); (case kK => first | exact rfl | assumption); (case kd => ktr_room); (case ku => ktr_units); (case a1 => first | omega | l_fact); (case a2 => first | omega | l_fact); k_whole; intro t9 h9 tk9 F9 N9; (try dsimp only); (try k_fold)))
  k_with "call ref" => (k_here; (with_reducible show wpAny _ _ (call (Value.ref 65) _) _ _ _); k_dflt (refine' Md.mixed_ok ?k1 ?k2 ?k3 ?k4 ?k5 ?kK ?kd ?ku  ?_; (case k1 => k_asm); (case k2 => k_asm); (case k3 => k_asm); (case k4 => k_asm); (case k5 => k_asm); (case kK => first | exact rfl | assumption); (case kd => ktr_room); (case ku => ktr_units); k_whole; intro t9 h9 tk9 F9 N9; (try dsimp only); (try k_fold)))
  k_with "call ref" => (k_here; (with_reducible show wpAny _ _ (call (Value.ref 79) _) _ _ _); k_dflt (refine' Md.rotated_ok ?k1 ?k2 ?k3 ?k4 ?k5 ?kK ?kd ?ku ?a1 ?a2 ?a3 ?a4 ?_; (case k1 => k_asm); (case k2 => k_asm); (case k3 => k_asm); (case k4 => k_asm); (case k5 => k_asm); (case kK => first | exact rfl | assumption); (case kd => ktr_room); (case ku => ktr_units); (case a1 => exact Md.turn_lo); (case a2 => exact Md.turn_hi (by decide) (by decide) (by decide) (by decide)); (case a3 => exact fmod_lo _ (by decide)); (case a4 => exact fmod_hi _ (by decide)); k_whole; intro t9 h9 tk9 F9 N9; (try dsimp only); (try k_fold)))
  k_with "call ref" => (k_here; (with_reducible show wpAny _ _ (call (Value.ref 58) _) _ _ _); k_dflt (refine' Md.words_in_ok ?k1 ?k2 ?k3 ?k4 ?k5 ?kK ?kd ?ku ?a1 ?a2 ?_; (case k1 => k_asm); (case k2 => k_asm); (case k3 => k_asm); (case k4 => k_asm); (case k5 => k_asm); (case kK => first | exact rfl | assumption); (case kd => ktr_room); (case ku => ktr_units); (case a1 => assumption); (case a2 => assumption); k_whole; intro r9 vs9 n9 h9 tk9 F9 N9 I9; (try dsimp only); (try k_fold)))
  k_with "call ref" => (k_here; (with_reducible show wpAny _ _ (call (Value.ref 86) _) _ _ _); k_dflt (refine' Md.stepped_ok ?k1 ?k2 ?k3 ?k4 ?k5 ?kK ?kd ?ku ?h4 ?hw ?hi ?hl ?b0 ?b1 ?_; (case k1 => k_asm); (case k2 => k_asm); (case k3 => k_asm); (case k4 => k_asm); (case k5 => k_asm); (case kK => first | exact rfl | assumption); (case kd => ktr_room); (case ku => ktr_units); (case h4 => assumption); (case hw => assumption); (case hi => assumption); (case hl => exact Md.wordsV_length _); (case b0 => first | assumption | decide | omega); (case b1 => first | assumption | decide | omega); k_whole; intro r9 t9 h9 tk9 F9 N9 l9; (try dsimp only); (try k_fold)))
  k_with "call ref" => (k_here; (with_reducible show wpAny _ _ (call (Value.ref 86) (Value.ref 20 :: _)) _ _ _); k_dflt (refine' Md.stepped_ok0 ?k1 ?k2 ?k3 ?k4 ?k5 ?kK ?kd ?ku ?hw ?hi ?hl ?b0 ?b1 ?_; (case k1 => k_asm); (case k2 => k_asm); (case k3 => k_asm); (case k4 => k_asm); (case k5 => k_asm); (case kK => first | exact rfl | assumption); (case kd => ktr_room); (case ku => ktr_units); (case hw => assumption); (case hi => assumption); (case hl => exact Md.wordsV_length _); (case b0 => first | assumption | decide | omega); (case b1 => first | assumption | decide | omega); k_whole; intro r9 x1 x2 x3 x4 h9 tk9 F9 N9 l9; (try dsimp only); (try k_fold)))
  k_with "pyIter ref" => (k_here; refine Md.stop_of ?_)
  k_with "subscriptTail" => (k_here; (with_reducible show wpAny _ _ (subscriptTail _ _ (Value.ref _) (Value.int _ _)) _ _ _); k_dflt (refine' Md.item_ok ?N ?m ?i ?lo ?hi ?f ?_ ?s; (case N => k_asm); (case m => k_mem); (case i => assumption); (case f => omega); (case lo => first | omega | ((try k_fmods); omega)); (case hi => first | omega | ((try k_fmods); omega)); (case s => with_unfolding_all rfl); k_whole); intro _)
  k_with "eval ListComp" => (k_here; (with_reducible show wpAny _ _ (eval (PySem.Expr.ListComp _ (PySem.Comprehension.mk (PySem.Expr.Tuple _ _ _) _ _ _ :: _) _ _) _) _ _ _); k_dflt (refine Md.comp_Z (by k_asm) (by with_unfolding_all rfl) (by decide) (by rfl) (by decide) (by rfl) (by rfl) (by decide) ?_))
  k_with "call type:zip" => (k_here; refine Md.stop_of ?_)
  refine wpAny_call ?_
  k_dflt cell_enter
  k_steps
  refine stop_in ?_
  (rename IsRange _ _ _ _ _ _ _ _ => hR)
  (rename Fr _ _ _ _ => lF)
  (rename News _ _ _ _ => lN)
  refine range_ref (n := 64) (y := Str.ofString "here") IsTup4 (fourAt (wordsV ks) add v) [] rfl hR (by decide) (by decide) lF lN (by decide) ?_ ?_ ?_
  all_goals clear lF lN
  · intro t h tk nl hs F N
    have hw' := hs _ (List.Mem.head _)
    have ha' := hs _ (List.Mem.tail _ ha)
    have h4' := hs _ (List.Mem.tail _ h4)
    try k_fold
    k_steps
    exact RefTurn.intro (by assumption) (by assumption) (List.Mem.head _) (fun p hp => List.Mem.tail _ hp) (fun p hp => Nat.ne_of_lt ((by assumption : ∀ p ∈ nl, p.1 < _) p hp)) ⟨_, _, _, _, rfl⟩ rfl (fun z h1 h2 h3 => by simp only [h1, h2, h3, if_false, Bool.false_eq_true])
  · intro i t a o u h tk nl hi0 hi hrel hs h4' F N
    obtain ⟨w1, w2, w3, w4, rfl⟩ := hrel
    have hw' := hs _ (List.Mem.head _)
    have ha' := hs _ (List.Mem.tail _ ha)
    have hi0' : (0 : Int) ≤ (i : Int) := by omega
    have hi' : (i : Int) < 64 := by omega
    simp only [Int.zero_add, Int.mul_one] at F
    try k_fold
    k_steps
    exact RefTurn.intro (by assumption) (by assumption) (List.Mem.head _) (fun p hp => List.Mem.tail _ hp) (fun p hp => Nat.ne_of_lt ((by assumption : ∀ p ∈ nl, p.1 < _) p hp)) ⟨_, _, _, _, rfl⟩ rfl (fun z h1 h2 h3 => by simp only [h1, h2, h3, if_false, Bool.false_eq_true])

  · intro u a o h tk hrel hne F N
    obtain ⟨w1, w2, w3, w4, rfl⟩ := hrel
    try k_fold
    k_steps
    refine stop_in ?_
    refine call_zipT (xs := #[.int v.1 u1, .int v.2.1 u2, .int v.2.2.1 u3, .int v.2.2.2 u4]) ⟨_, (N _ (.tail _ (.tail _ h4))).1, rfl, _, rfl⟩ ⟨_, (N _ (.head _)).1, rfl, _, rfl⟩ (fun hz z TI TO i1 i2 D Z hk hb => ?_)
    refine ⟨z, TI, TO, i1, i2, _, _, _, _, _, SumAt #[.int v.1 u1, .int v.2.1 u2, .int v.2.2.1 u3, .int v.2.2.2 u4] #[.int (fourAt (wordsV ks) add v 64).1 w1, .int (fourAt (wordsV ks) add v 64).2.1 w2, .int (fourAt (wordsV ks) add v 64).2.2.1 w3, .int (fourAt (wordsV ks) add v 64).2.2.2 w4], rfl, rfl, D, Z, (by show 4 ≤ sizeLine; exact Nat.le_of_ble_eq_true rfl), rfl, fun b hb' => ?_, F.keeps hk, N.grown hk, ?_, ?_⟩
    · have hb2 := (hb b (by rcases hb' with e | e | e | e <;> simp [e])).1
      refine ⟨Nat.ne_of_lt (Nat.lt_of_lt_of_le F.ns.lt hb2), ?_, fun p hp => Nat.ne_of_lt (Nat.lt_of_lt_of_le (Heap.lt_size (N p hp).1) hb2)⟩
      cases e : Heap.get? _ b with
      | none => rfl
      | some o' => exact absurd (Heap.lt_size (F.keep _ _ e)) (Nat.not_lt.mpr hb2)
    · intro i xa yb C m₂ h' tk' E' hx hy hn hmx hmy F'
      obtain ⟨p, tp, rfl⟩ := ints4 hx
      obtain ⟨q, tq, rfl⟩ := ints4 hy
      refine wpAny_BinOp (wpAny_BinOp (ldVarK hn hmx (ldVarK hn hmy (add_int ?_))))
      refine nameG_K F' (by assumption) (topRead_of (by assumption)) (by k_is) ?_ (by rfl) (by rfl) (by rfl) (by decide)
      exact mod_int' (by decide) ⟨_, rfl, p, q, tp, tq, _, hx, hy, rfl⟩
    · intro D' h' tk' vs F' N' hne' hvl hR
      obtain ⟨t1, t2, t3, t4, rfl⟩ := sums4 hvl hR
      k_steps
      all_goals refine' tup4_end hret (by k_asm) (by first | k_asm | exact cb_drop (by assumption) (by kcj_all)) (by first | assumption | exact ktn_ltOf (by assumption) | exact ktn_ltOf (And.right (by assumption)) | exact ktn_ltOf (And.right (And.right (by assumption))) | exact ktn_ltOf (And.right (And.right (And.right (by assumption)))) | exact ktn_ltOf (And.right (And.right (And.right (And.right (by assumption)))))) (by exact ⟨rfl, rfl, rfl, rfl⟩)
theorem block_taken_ok0 (B : Below A₀ base outer h₀) (F : Fr h₀ L s.heap m) (X : (hd.heap_39 w.params).In h₀) (N : News h₀ L s.heap news) (T : Top hd.view_39 LOO mean mg mb h₀) (hk : cs.kind = .function) (hdp : dp + 3 < recursionLimit) (hun : un + 24 < cLine)
    {b : Array UInt8} {ks : List Int} {va : List Value} {add : List Int} {na : Nat} {t1 : Tok} {aa : Addr} (hb : KBw.bInts b = ks) (h0 : ks.length = 64) (ha : (aa, listOf va.toArray na) ∈ news) (hia : IntsAre va add) (hla : add.length = 64)
    (hret : ∀ (r : Addr) (t1 t2 t3 t4 : Tok) (h' : Heap) (tk' : Nat), Fr h₀ L h' m → News h₀ L h' ((r, tupO [.int (blockV v0 ks add).1 t1, .int (blockV v0 ks add).2.1 t2, .int (blockV v0 ks add).2.2.1 t3, .int (blockV v0 ks add).2.2.2 t4]) :: news) → (∀ p ∈ news, p.1 < r) → Q (.ref r) { s with heap := h', toks := tk' }) :
    wpAny (model PR w) (ktrTop dp un gd cn cs L ca ccd cl outer) (call (.ref 91) [.ref 20, .bytes b t1, .ref aa]) Q E s := by
  k_with_none
  k_with "call ref" => (k_here; (with_reducible show wpAny _ _ (call (Value.ref 72) _) _ _ _); k_dflt (refine' Md.word_at_ok ?k1 ?k2 ?k3 ?k4 ?k5 ?kK ?kd ?ku ?a1 ?a2 ?_; (case k1 => k_asm); (case k2 => k_asm); (case k3 => k_asm); (case k4 => k_asm); (case k5 => k_asm); (case kK => first | exact rfl | assumption); (case kd => ktr_room); (case ku => ktr_units); (case a1 => first | omega | l_fact); (case a2 => first | omega | l_fact); k_whole; intro t9 h9 tk9 F9 N9; (try dsimp only); (try k_fold)))
  k_with "call ref" => (k_here; (with_reducible show wpAny _ _ (call (Value.ref 65) _) _ _ _); k_dflt (refine' Md.mixed_ok ?k1 ?k2 ?k3 ?k4 ?k5 ?kK ?kd ?ku  ?_; (case k1 => k_asm); (case k2 => k_asm); (case k3 => k_asm); (case k4 => k_asm); (case k5 => k_asm); (case kK => first | exact rfl | assumption); (case kd => ktr_room); (case ku => ktr_units); k_whole; intro t9 h9 tk9 F9 N9; (try dsimp only); (try k_fold)))
  k_with "call ref" => (k_here; (with_reducible show wpAny _ _ (call (Value.ref 79) _) _ _ _); k_dflt (refine' Md.rotated_ok ?k1 ?k2 ?k3 ?k4 ?k5 ?kK ?kd ?ku ?a1 ?a2 ?a3 ?a4 ?_; (case k1 => k_asm); (case k2 => k_asm); (case k3 => k_asm); (case k4 => k_asm); (case k5 => k_asm); (case kK => first | exact rfl | assumption); (case kd => ktr_room); (case ku => ktr_units); (case a1 => exact Md.turn_lo); (case a2 => exact Md.turn_hi (by decide) (by decide) (by decide) (by decide)); (case a3 => exact fmod_lo _ (by decide)); (case a4 => exact fmod_hi _ (by decide)); k_whole; intro t9 h9 tk9 F9 N9; (try dsimp only); (try k_fold)))
  k_with "call ref" => (k_here; (with_reducible show wpAny _ _ (call (Value.ref 58) _) _ _ _); k_dflt (refine' Md.words_in_ok ?k1 ?k2 ?k3 ?k4 ?k5 ?kK ?kd ?ku ?a1 ?a2 ?_; (case k1 => k_asm); (case k2 => k_asm); (case k3 => k_asm); (case k4 => k_asm); (case k5 => k_asm); (case kK => first | exact rfl | assumption); (case kd => ktr_room); (case ku => ktr_units); (case a1 => assumption); (case a2 => assumption); k_whole; intro r9 vs9 n9 h9 tk9 F9 N9 I9; (try dsimp only); (try k_fold)))
  k_with "call ref" => (k_here; (with_reducible show wpAny _ _ (call (Value.ref 86) _) _ _ _); k_dflt (refine' Md.stepped_ok ?k1 ?k2 ?k3 ?k4 ?k5 ?kK ?kd ?ku ?h4 ?hw ?hi ?hl ?b0 ?b1 ?_; (case k1 => k_asm); (case k2 => k_asm); (case k3 => k_asm); (case k4 => k_asm); (case k5 => k_asm); (case kK => first | exact rfl | assumption); (case kd => ktr_room); (case ku => ktr_units); (case h4 => assumption); (case hw => assumption); (case hi => assumption); (case hl => exact Md.wordsV_length _); (case b0 => first | assumption | decide | omega); (case b1 => first | assumption | decide | omega); k_whole; intro r9 t9 h9 tk9 F9 N9 l9; (try dsimp only); (try k_fold)))
  k_with "call ref" => (k_here; (with_reducible show wpAny _ _ (call (Value.ref 86) (Value.ref 20 :: _)) _ _ _); k_dflt (refine' Md.stepped_ok0 ?k1 ?k2 ?k3 ?k4 ?k5 ?kK ?kd ?ku ?hw ?hi ?hl ?b0 ?b1 ?_; (case k1 => k_asm); (case k2 => k_asm); (case k3 => k_asm); (case k4 => k_asm); (case k5 => k_asm); (case kK => first | exact rfl | assumption); (case kd => ktr_room); (case ku => ktr_units); (case hw => assumption); (case hi => assumption); (case hl => exact Md.wordsV_length _); (case b0 => first | assumption | decide | omega); (case b1 => first | assumption | decide | omega); k_whole; intro r9 x1 x2 x3 x4 h9 tk9 F9 N9 l9; (try dsimp only); (try k_fold)))
  k_with "pyIter ref" => (k_here; refine Md.stop_of ?_)
  k_with "subscriptTail" => (k_here; (with_reducible show wpAny _ _ (subscriptTail _ _ (Value.ref _) (Value.int _ _)) _ _ _); k_dflt (refine' Md.item_ok ?N ?m ?i ?lo ?hi ?f ?_ ?s; (case N => k_asm); (case m => k_mem); (case i => assumption); (case f => omega); (case lo => first | omega | ((try k_fmods); omega)); (case hi => first | omega | ((try k_fmods); omega)); (case s => with_unfolding_all rfl); k_whole); intro _)
  k_with "eval ListComp" => (k_here; (with_reducible show wpAny _ _ (eval (PySem.Expr.ListComp _ (PySem.Comprehension.mk (PySem.Expr.Tuple _ _ _) _ _ _ :: _) _ _) _) _ _ _); k_dflt (refine Md.comp_Z (by k_asm) (by with_unfolding_all rfl) (by decide) (by rfl) (by decide) (by rfl) (by rfl) (by decide) ?_))
  k_with "call type:zip" => (k_here; refine Md.stop_of ?_)
  refine wpAny_call ?_
  k_dflt cell_enter
  k_steps
  refine stop_in ?_
  (rename IsRange _ _ _ _ _ _ _ _ => hR)
  (rename Fr _ _ _ _ => lF)
  (rename News _ _ _ _ => lN)
  refine range_ref (n := 64) (y := Str.ofString "here") IsTup4 (fourAt (wordsV ks) add v0) [] rfl hR (by decide) (by decide) lF lN (by decide) ?_ ?_ ?_
  all_goals clear lF lN
  · intro t h tk nl hs F N
    have hw' := hs _ (List.Mem.head _)
    have ha' := hs _ (List.Mem.tail _ ha)
    try k_fold
    k_steps
    exact RefTurn.intro (by assumption) (by assumption) (List.Mem.head _) (fun p hp => List.Mem.tail _ hp) (fun p hp => Nat.ne_of_lt ((by assumption : ∀ p ∈ nl, p.1 < _) p hp)) ⟨_, _, _, _, rfl⟩ rfl (fun z h1 h2 h3 => by simp only [h1, h2, h3, if_false, Bool.false_eq_true])
  · intro i t a o u h tk nl hi0 hi hrel hs h4' F N
    obtain ⟨w1, w2, w3, w4, rfl⟩ := hrel
    have hw' := hs _ (List.Mem.head _)
    have ha' := hs _ (List.Mem.tail _ ha)
    have hi0' : (0 : Int) ≤ (i : Int) := by omega
    have hi' : (i : Int) < 64 := by omega
    simp only [Int.zero_add, Int.mul_one] at F
    try k_fold
    k_steps
    exact RefTurn.intro (by assumption) (by assumption) (List.Mem.head _) (fun p hp => List.Mem.tail _ hp) (fun p hp => Nat.ne_of_lt ((by assumption : ∀ p ∈ nl, p.1 < _) p hp)) ⟨_, _, _, _, rfl⟩ rfl (fun z h1 h2 h3 => by simp only [h1, h2, h3, if_false, Bool.false_eq_true])

  · intro u a o h tk hrel hne F N
    obtain ⟨w1, w2, w3, w4, rfl⟩ := hrel
    try k_fold
    k_steps
    refine stop_in ?_
    refine call_zipT (xs := #[.int v0.1 212, .int v0.2.1 213, .int v0.2.2.1 214, .int v0.2.2.2 215]) (tupK (l := [.int v0.1 212, .int v0.2.1 213, .int v0.2.2.1 214, .int v0.2.2.2 215]) (Frag.In.keeps (by assumption) F.keep) (by k_is)) ⟨_, (N _ (.head _)).1, rfl, _, rfl⟩ (fun hz z TI TO i1 i2 D Z hk hb => ?_)
    refine ⟨z, TI, TO, i1, i2, _, _, _, _, _, SumAt #[.int v0.1 212, .int v0.2.1 213, .int v0.2.2.1 214, .int v0.2.2.2 215] #[.int (fourAt (wordsV ks) add v0 64).1 w1, .int (fourAt (wordsV ks) add v0 64).2.1 w2, .int (fourAt (wordsV ks) add v0 64).2.2.1 w3, .int (fourAt (wordsV ks) add v0 64).2.2.2 w4], rfl, rfl, D, Z, (by show 4 ≤ sizeLine; exact Nat.le_of_ble_eq_true rfl), rfl, fun b hb' => ?_, F.keeps hk, N.grown hk, ?_, ?_⟩
    · have hb2 := (hb b (by rcases hb' with e | e | e | e <;> simp [e])).1
      refine ⟨Nat.ne_of_lt (Nat.lt_of_lt_of_le F.ns.lt hb2), ?_, fun p hp => Nat.ne_of_lt (Nat.lt_of_lt_of_le (Heap.lt_size (N p hp).1) hb2)⟩
      cases e : Heap.get? _ b with
      | none => rfl
      | some o' => exact absurd (Heap.lt_size (F.keep _ _ e)) (Nat.not_lt.mpr hb2)
    · intro i xa yb C m₂ h' tk' E' hx hy hn hmx hmy F'
      obtain ⟨p, tp, rfl⟩ := ints4 hx
      obtain ⟨q, tq, rfl⟩ := ints4 hy
      refine wpAny_BinOp (wpAny_BinOp (ldVarK hn hmx (ldVarK hn hmy (add_int ?_))))
      refine nameG_K F' (by assumption) (topRead_of (by assumption)) (by k_is) ?_ (by rfl) (by rfl) (by rfl) (by decide)
      exact mod_int' (by decide) ⟨_, rfl, p, q, tp, tq, _, hx, hy, rfl⟩
    · intro D' h' tk' vs F' N' hne' hvl hR
      obtain ⟨t1, t2, t3, t4, rfl⟩ := sums4 hvl hR
      k_steps
      all_goals refine' tup4_end hret (by k_asm) (by first | k_asm | exact cb_drop (by assumption) (by kcj_all)) (by first | assumption | exact ktn_ltOf (by assumption) | exact ktn_ltOf (And.right (by assumption)) | exact ktn_ltOf (And.right (And.right (by assumption))) | exact ktn_ltOf (And.right (And.right (And.right (by assumption)))) | exact ktn_ltOf (And.right (And.right (And.right (And.right (by assumption)))))) (by exact ⟨rfl, rfl, rfl, rfl⟩)
end S1
end Md
namespace Md
theorem freshC6 : True := by
  w_top off
  k_with_none
  exact True.intro

noncomputable def lowV (number count : Int) : List Int := (rangeKs 0 count.toNat).map fun k => (number.fdiv (256 ^ k.toNat)).fmod 256

theorem pow256_ne (k : Nat) : (256 : Int) ^ k ≠ 0 := by
  have : (0 : Int) < 256 ^ k := Int.pow_pos (by decide)
  omega
theorem pow256_py {x : Int} {k : Nat} (h : k ≤ 8) : Builtin.divisionGoesByPylong x ((256 : Int) ^ k) = false := by
  refine PyProof.noPylong_of_log2 ?_
  have e : ((256 : Int) ^ k).natAbs = 256 ^ k := by rw [Int.natAbs_pow]; rfl
  rw [e]
  have hle : (256 : Nat) ^ k ≤ 256 ^ 8 := Nat.pow_le_pow_right (by decide) h
  have hpos : (256 : Nat) ^ k ≠ 0 := Nat.ne_of_gt (Nat.pow_pos (by decide))
  have hlt : ((256 : Nat) ^ k).log2 < 65 := (Nat.log2_lt hpos).mpr (Nat.lt_of_le_of_lt hle (by decide))
  omega
section
variable {w : World} {mean : ExcName → Option Value} {mg mb : Str → Option Value} {dp un : Nat} {gd : Option (List Code)} {cn : Str} {cs : Scope} {ca : Addr} {ccd : Value} {cl : List (Str × Addr)} {outer : List Env} {A₀ : Around} {base h₀ : Heap} {L : Addr} {m : Str → Option Value} {news : List (Addr × Obj)} {s : Shared} {Q E : Value → Shared → Prop}

theorem bytes_end {ks ls : List Int} {b : Array UInt8} {t : Tok} {h' : Heap} {tk' : Nat}
    (hret : ∀ (b : Array UInt8) (t : Tok) (h' : Heap) (tk' : Nat), Fr h₀ L h' m → News h₀ L h' news → KBw.bInts b = ls → Q (.bytes b t) { s with heap := h', toks := tk' })
    (F : Fr h₀ L h' m) (N : News h₀ L h' news) (l : KBw.bInts b = ks) (e : ks = ls) : Q (.bytes b t) { s with heap := h', toks := tk' } := hret _ _ _ _ F N (l.trans e)
theorem low_first_ok (B : Below A₀ base outer h₀) (F : Fr h₀ L s.heap m) (X : (hd.heap_39 w.params).In h₀) (N : News h₀ L s.heap news) (T : Top hd.view_39 LOO mean mg mb h₀) (hk : cs.kind = .function) (hdp : dp + 2 < recursionLimit) (hun : un + 16 < cLine)
    {number count : Int} {t1 t2 : Tok} (c0 : 0 ≤ count) (c1 : count ≤ 8)
    (hret : ∀ (b : Array UInt8) (t : Tok) (h' : Heap) (tk' : Nat), Fr h₀ L h' m → News h₀ L h' news → KBw.bInts b = (lowV number count) → Q (.bytes b t) { s with heap := h', toks := tk' }) :
    wpAny (model PR w) (ktrTop dp un gd cn cs L ca ccd cl outer) (call (.ref 39) [.int number t1, .int count t2]) Q E s := by
  k_with_none
  k_with "binaryOp FloorDiv int int" => (k_here; (with_reducible refine floordiv_int ?kbe ?_ (Or.inl ?kbp)); (case kbe => exact Md.pow256_ne _); (case kbp => exact Md.pow256_py (by omega)))
  refine wpAny_call ?_
  k_dflt (refine' code_defC ?k1 ?k2 ?k3 ?k4 ?k5 ?kA ?kF ?kK ?k6 ?k7 ?k8 ?k9 ?kB ?kD ?_ ?c2 ?c3 ?c4; (case kA => exact rfl); (case kF => exact rfl); (case kK => assumption); (case k1 => k_asm); (case k2 => k_asm); (case k3 => k_asm); (case k4 => k_asm); (case k5 => k_asm); (case k6 => k_is); (case k7 => k_is); (case k8 => ktr_room); (case k9 => exact BindsTo.of_eq rfl); (case kB => exact rfl); (case kD => decide +kernel); (case c2 => exact rfl); (case c3 => exact rfl); (case c4 => exact rfl); k_whole; intro g' L' h' tk' cells' FG' F' N' Y' B' X' T' l1; (try k_lt l1); k_cells Y'; (try simp only [List.cons_append, List.nil_append] at N'); (try dsimp only); (try k_lift B'); (try k_fold))
  k_steps
  all_goals refine' bytes_end hret (by k_asm) (by first | k_asm | exact cb_drop (by assumption) (by kcj_all)) (by kba_ints2) (by exact (by unfold lowV; rw [Int.sub_zero]))
end
end Md
namespace Md
theorem freshC7 : True := by
  w_top off
  k_with_none
  exact True.intro

noncomputable def nullsV (n : Int) : Int := (55 - n).fmod 64
noncomputable def padV (ks : List Int) : List Int := ks ++ (128 :: List.replicate (nullsV ks.length).toNat 0) ++ lowV (8 * ks.length) 8

theorem lowV_length (n c : Int) : (lowV n c).length = c.toNat := by simp [lowV, rangeKs]
theorem flat0 (k : Nat) : (List.replicate k [(0 : Int)]).flatten = List.replicate k 0 := by
  induction k with
  | zero => rfl
  | succ k ih => rw [List.replicate_succ, List.flatten_cons, ih, List.replicate_succ]; rfl
theorem padV_length (ks : List Int) : (padV ks).length = ks.length + 1 + (nullsV ks.length).toNat + 8 := by
  simp only [padV, List.length_append, List.length_cons, List.length_replicate, lowV_length]; omega
section
variable {w : World} {mean : ExcName → Option Value} {mg mb : Str → Option Value} {dp un : Nat} {gd : Option (List Code)} {cn : Str} {cs : Scope} {ca : Addr} {ccd : Value} {cl : List (Str × Addr)} {outer : List Env} {A₀ : Around} {base h₀ : Heap} {L : Addr} {m : Str → Option Value} {news : List (Addr × Obj)} {s : Shared} {Q E : Value → Shared → Prop}

theorem make_pad {D : Addr} {vs : List Value} {k : Nat} {A : Around} {nl : List (Addr × Obj)} (F : Fr h₀ L s.heap m) (N : News h₀ L s.heap nl) (hh : A.handled = none) (hl : s.heap.IsList D vs.toArray)
    (hi : IntsAre vs ([128] ++ (List.replicate k [(0 : Int)]).flatten)) (hk : k ≤ 64)
    (h : ∀ b h' t' k', Fr h₀ L h' m → News h₀ L h' nl → KBw.bInts b = 128 :: List.replicate k 0 → (List.replicate k (0 : Int)).length ≤ 64 → Q (.bytes b t') { s with heap := h', toks := k' }) :
    wpAny (model PR w) A (call (.type "bytes") [.ref D]) Q E s := by
  rw [flat0] at hi
  have hin : KBa.In ([128] ++ List.replicate k (0 : Int)) := by
    intro n hn
    rcases List.mem_append.mp hn with h1 | h1
    · rw [List.mem_singleton.mp h1]; decide
    · rw [(List.mem_replicate.mp h1).2]; decide
  refine KBa.make_K F N hh hl hi hin (by simp; omega) fun h' t' k' F' N' _ => h _ h' t' k' F' N' (KBa.ints_make hin) (by rw [List.length_replicate]; exact hk)

theorem bytes_end10 {ks ls : List Int} {b : Array UInt8} {t : Tok} {h' : Heap} {tk' : Nat}
    (hret : ∀ (b : Array UInt8) (t : Tok) (h' : Heap) (tk' : Nat), Fr h₀ L h' m → News h₀ L h' news → KBw.bInts b = ls → Q (.bytes b t) { s with heap := h', toks := tk' })
    (F : Fr h₀ L h' m) (N : News h₀ L h' news) (l : KBw.bInts b = ks) (e : ks = ls) : Q (.bytes b t) { s with heap := h', toks := tk' } := hret _ _ _ _ F N (l.trans e)
theorem padded_ok (B : Below A₀ base outer h₀) (F : Fr h₀ L s.heap m) (X : (hd.heap_39 w.params).In h₀) (N : News h₀ L s.heap news) (T : Top hd.view_39 LOO mean mg mb h₀) (hk : cs.kind = .function) (hdp : dp + 3 < recursionLimit) (hun : un + 24 < cLine)
    {b : Array UInt8} {ks : List Int} {t1 : Tok} (hb : KBw.bInts b = ks) (h0 : ks.length ≤ 130)
    (hret : ∀ (b : Array UInt8) (t : Tok) (h' : Heap) (tk' : Nat), Fr h₀ L h' m → News h₀ L h' news → KBw.bInts b = (padV ks) → Q (.bytes b t) { s with heap := h', toks := tk' }) :
    wpAny (model PR w) (ktrTop dp un gd cn cs L ca ccd cl outer) (call (.ref 46) [.bytes b t1]) Q E s := by
  k_with_none
  k_with "call ref" => (k_here; (with_reducible show wpAny _ _ (call (Value.ref 39) _) _ _ _); k_dflt (refine' Md.low_first_ok ?k1 ?k2 ?k3 ?k4 ?k5 ?kK ?kd ?ku ?a1 ?a2 ?_; (case k1 => k_asm); (case k2 => k_asm); (case k3 => k_asm); (case k4 => k_asm); (case k5 => k_asm); (case kK => first | exact rfl | assumption); (case kd => ktr_room); (case ku => ktr_units); (case a1 => first | decide | omega); (case a2 => first | decide | omega); k_whole; intro b9 t9 h9 tk9 F9 N9 I9; (try dsimp only); (try k_fold)))
  k_with "call type:bytes" => (k_here; (with_reducible show wpAny _ _ (call (Value.type "bytes") [Value.ref _]) _ _ _); k_dflt (refine' Md.make_pad ?F ?N ?hh ?l ?i ?k ?_; (case F => k_asm); (case N => k_asm); (case hh => rfl); (case l => kba_isList); (case i => assumption); (case k => omega)); intro _ _ _ _ F' N' _ _)
  k_with "call type:bytes" => (k_here; (with_reducible show wpAny _ _ (call (Value.type "bytes") [Value.bytes _ _]) _ _ _); refine Md.call_bytes_bytes ?_; intro _)
  refine wpAny_call ?_
  k_dflt cell_enter
  have hL8 := lowV_length (8 * ks.length) 8
  have hpad := fmod_hi (55 - (ks.length : Int)) (n := 64) (by decide)
  k_steps
  all_goals refine' bytes_end10 hret (by k_asm) (by first | k_asm | exact cb_drop (by assumption) (by kcj_all)) (by kba_ints2) (by exact (by rfl))
end
end Md
namespace Md
theorem freshC8 : True := by
  w_top off
  k_with_none
  exact True.intro

noncomputable def oneS : Int := 841470984807896506652502321630298999622563060798371065672755
noncomputable def oneC : Int := 540302305868139717400936607442976603732310420617922227670098

noncomputable def sineNext (i : Int) (v : Int × Int × Int) : Int × Int × Int :=
  if i.fmod 4 = 0 then (v.1, v.2.1 + v.2.2, v.2.2.fdiv (i + 1))
  else if i.fmod 4 = 1 then (v.1 + v.2.2, v.2.1, v.2.2.fdiv (i + 1))
  else if i.fmod 4 = 2 then (v.1, v.2.1 - v.2.2, v.2.2.fdiv (i + 1))
  else (v.1 - v.2.2, v.2.1, v.2.2.fdiv (i + 1))
noncomputable def scaleV : Int := 1000000000000000000000000000000000000000000000000000000000000
noncomputable def sineAt : Nat → Int × Int × Int
  | 0 => (0, 0, scaleV)
  | i + 1 => sineNext i (sineAt i)
theorem sineN0 {i : Int} {v : Int × Int × Int} (h : i.fmod 4 = 0) : sineNext i v = (v.1, v.2.1 + v.2.2, v.2.2.fdiv (i + 1)) := by unfold sineNext; rw [if_pos h]
theorem sineN1 {i : Int} {v : Int × Int × Int} (h : i.fmod 4 = 1) : sineNext i v = (v.1 + v.2.2, v.2.1, v.2.2.fdiv (i + 1)) := by unfold sineNext; rw [if_neg (by omega), if_pos h]
theorem sineN2 {i : Int} {v : Int × Int × Int} (h : i.fmod 4 = 2) : sineNext i v = (v.1, v.2.1 - v.2.2, v.2.2.fdiv (i + 1)) := by unfold sineNext; rw [if_neg (by omega), if_neg (by omega), if_pos h]
theorem sineN3 {i : Int} {v : Int × Int × Int} (h0 : i.fmod 4 ≠ 0) (h1 : i.fmod 4 ≠ 1) (h2 : i.fmod 4 ≠ 2) : sineNext i v = (v.1 - v.2.2, v.2.1, v.2.2.fdiv (i + 1)) := by unfold sineNext; rw [if_neg h0, if_neg h1, if_neg h2]
theorem one_is : (sineAt 60).1 = oneS ∧ (sineAt 60).2.1 = oneC := by decide +kernel
noncomputable def sinePs (c : (Int × Int × Int) × (Tok × Tok × Tok)) : List (Str × Value) := [(Str.ofString "sine", .int c.1.1 c.2.1), (Str.ofString "cosine", .int c.1.2.1 c.2.2.1), (Str.ofString "part", .int c.1.2.2 c.2.2.2)]
section
variable {w : World} {mean : ExcName → Option Value} {mg mb : Str → Option Value} {dp un : Nat} {gd : Option (List Code)} {cn : Str} {cs : Scope} {ca : Addr} {ccd : Value} {cl : List (Str × Addr)} {outer : List Env} {A₀ : Around} {base h₀ : Heap} {L : Addr} {m : Str → Option Value} {news : List (Addr × Obj)} {s : Shared} {Q E : Value → Shared → Prop}

theorem tup2_end {v q x1 x2 : Int} {t1 t2 : Tok} {r : Addr} {h' : Heap} {tk' : Nat}
    (hret : ∀ (r : Addr) (t1 t2 : Tok) (h' : Heap) (tk' : Nat), Fr h₀ L h' m → News h₀ L h' ((r, tupO [.int v t1, .int q t2]) :: news) → (∀ p ∈ news, p.1 < r) → Q (.ref r) { s with heap := h', toks := tk' })
    (F : Fr h₀ L h' m) (N : News h₀ L h' ((r, tupO [.int x1 t1, .int x2 t2]) :: news)) (l : ∀ p ∈ news, p.1 < r) (e : x1 = v ∧ x2 = q) : Q (.ref r) { s with heap := h', toks := tk' } := by
  obtain ⟨rfl, rfl⟩ := e
  exact hret _ _ _ _ _ F N l
theorem first_sine_ok (B : Below A₀ base outer h₀) (F : Fr h₀ L s.heap m) (X : (hd.heap_39 w.params).In h₀) (N : News h₀ L s.heap news) (T : Top hd.view_39 LOO mean mg mb h₀) (hk : cs.kind = .function) (hdp : dp + 2 < recursionLimit) (hun : un + 16 < cLine)
    
    (hret : ∀ (r : Addr) (t1 t2 : Tok) (h' : Heap) (tk' : Nat), Fr h₀ L h' m → News h₀ L h' ((r, tupO [.int oneS t1, .int oneC t2]) :: news) → (∀ p ∈ news, p.1 < r) → Q (.ref r) { s with heap := h', toks := tk' }) :
    wpAny (model PR w) (ktrTop dp un gd cn cs L ca ccd cl outer) (call (.ref 27) []) Q E s := by
  k_with_none
  k_with "pyIter ref" => (k_here; refine Md.stop_of ?_)
  refine wpAny_call ?_
  k_dflt cell_enter
  k_steps
  refine stop_in ?_
  (rename IsRange _ _ _ _ _ _ _ _ => hR)
  (rename Fr _ _ _ _ => lF)
  (rename News _ _ _ _ => lN)
  refine range_val (n := 60) sinePs (fun i c => c.1 = sineAt i) [] ((0, 0, scaleV), (_, _, _)) rfl hR (by decide) (by decide) lF lN (by kst_all) rfl ?_ ?_
  all_goals clear lF lN
  · rintro i t ⟨⟨sv, cv, pv⟩, ⟨ta, tb, tc⟩⟩ u h tk nl hi hP hs F N
    dsimp only [sinePs] at F hP
    simp only [Int.zero_add, Int.mul_one] at F
    try k_fold
    k_steps
    · refine' ValTurn.intro ((sv, cv + pv, pv.fdiv ((i : Int) + 1)), (_, _, _)) ?f0 ?n0 (fun p hp => hp) ?p0 ?k0 ?z0
      case f0 => k_asm
      case n0 => k_asm
      case k0 => (refine List.forall_mem_cons.mpr ⟨?ka3, ?kr3⟩; (case ka3 => exact rfl); (case kr3 => (refine List.forall_mem_cons.mpr ⟨?ka2, ?kr2⟩; (case ka2 => exact rfl); (case kr2 => (refine List.forall_mem_cons.mpr ⟨?ka1, ?kr1⟩; (case ka1 => exact rfl); (case kr1 => exact List.forall_mem_nil _))))))
      case z0 => intro z h1 h2 h3; (have a0 := h2 _ (.head _)); (have a1 := h2 _ (.tail _ (.head _))); (have a2 := h2 _ (.tail _ (.tail _ (.head _)))); (dsimp only at a0 a1 a2); simp only [kstB, h1, a0, a1, a2, h3, if_false, Bool.false_eq_true]
      case p0 =>
        show _ = sineNext i (sineAt i)
        rw [← hP]
        exact (sineN0 (v := (sv, cv, pv)) (by assumption)).symm
    · refine' ValTurn.intro ((sv + pv, cv, pv.fdiv ((i : Int) + 1)), (_, _, _)) ?f1 ?n1 (fun p hp => hp) ?p1 ?k1 ?z1
      case f1 => k_asm
      case n1 => k_asm
      case k1 => (refine List.forall_mem_cons.mpr ⟨?ka3, ?kr3⟩; (case ka3 => exact rfl); (case kr3 => (refine List.forall_mem_cons.mpr ⟨?ka2, ?kr2⟩; (case ka2 => exact rfl); (case kr2 => (refine List.forall_mem_cons.mpr ⟨?ka1, ?kr1⟩; (case ka1 => exact rfl); (case kr1 => exact List.forall_mem_nil _))))))
      case z1 => intro z h1 h2 h3; (have a0 := h2 _ (.head _)); (have a1 := h2 _ (.tail _ (.head _))); (have a2 := h2 _ (.tail _ (.tail _ (.head _)))); (dsimp only at a0 a1 a2); simp only [kstB, h1, a0, a1, a2, h3, if_false, Bool.false_eq_true]
      case p1 =>
        show _ = sineNext i (sineAt i)
        rw [← hP]
        exact (sineN1 (v := (sv, cv, pv)) (by assumption)).symm
    · refine' ValTurn.intro ((sv, cv - pv, pv.fdiv ((i : Int) + 1)), (_, _, _)) ?f2 ?n2 (fun p hp => hp) ?p2 ?k2 ?z2
      case f2 => k_asm
      case n2 => k_asm
      case k2 => (refine List.forall_mem_cons.mpr ⟨?ka3, ?kr3⟩; (case ka3 => exact rfl); (case kr3 => (refine List.forall_mem_cons.mpr ⟨?ka2, ?kr2⟩; (case ka2 => exact rfl); (case kr2 => (refine List.forall_mem_cons.mpr ⟨?ka1, ?kr1⟩; (case ka1 => exact rfl); (case kr1 => exact List.forall_mem_nil _))))))
      case z2 => intro z h1 h2 h3; (have a0 := h2 _ (.head _)); (have a1 := h2 _ (.tail _ (.head _))); (have a2 := h2 _ (.tail _ (.tail _ (.head _)))); (dsimp only at a0 a1 a2); simp only [kstB, h1, a0, a1, a2, h3, if_false, Bool.false_eq_true]
      case p2 =>
        show _ = sineNext i (sineAt i)
        rw [← hP]
        exact (sineN2 (v := (sv, cv, pv)) (by assumption)).symm
    · refine' ValTurn.intro ((sv - pv, cv, pv.fdiv ((i : Int) + 1)), (_, _, _)) ?f3 ?n3 (fun p hp => hp) ?p3 ?k3 ?z3
      case f3 => k_asm
      case n3 => k_asm
      case k3 => (refine List.forall_mem_cons.mpr ⟨?ka3, ?kr3⟩; (case ka3 => exact rfl); (case kr3 => (refine List.forall_mem_cons.mpr ⟨?ka2, ?kr2⟩; (case ka2 => exact rfl); (case kr2 => (refine List.forall_mem_cons.mpr ⟨?ka1, ?kr1⟩; (case ka1 => exact rfl); (case kr1 => exact List.forall_mem_nil _))))))
      case z3 => intro z h1 h2 h3; (have a0 := h2 _ (.head _)); (have a1 := h2 _ (.tail _ (.head _))); (have a2 := h2 _ (.tail _ (.tail _ (.head _)))); (dsimp only at a0 a1 a2); simp only [kstB, h1, a0, a1, a2, h3, if_false, Bool.false_eq_true]
      case p3 =>
        show _ = sineNext i (sineAt i)
        rw [← hP]
        exact (sineN3 (v := (sv, cv, pv)) (by assumption) (by assumption) (by assumption)).symm
  · rintro ⟨⟨sv, cv, pv⟩, ⟨ta, tb, tc⟩⟩ u h tk hP F N
    dsimp only [sinePs] at F hP
    try k_fold
    k_steps
    all_goals refine' tup2_end hret (by k_asm) (by first | k_asm | exact cb_drop (by assumption) (by kcj_all)) (by first | assumption | exact ktn_ltOf (by assumption) | exact ktn_ltOf (And.right (by assumption)) | exact ktn_ltOf (And.right (And.right (by assumption))) | exact ktn_ltOf (And.right (And.right (And.right (by assumption)))) | exact ktn_ltOf (And.right (And.right (And.right (And.right (by assumption)))))) (by exact ⟨by rw [← one_is.1, ← hP], by rw [← one_is.2, ← hP]⟩)
end
end Md
namespace Md
theorem freshC9 : True := by
  w_top off
  k_with_none
  exact True.intro

noncomputable def angNext (v : Int × Int) : Int × Int := ((v.1 * oneC + v.2 * oneS).fdiv scaleV, (v.2 * oneC - v.1 * oneS).fdiv scaleV)
noncomputable def angAt : Nat → Int × Int
  | 0 => (oneS, oneC)
  | i + 1 => angNext (angAt i)
noncomputable def addOne (v : Int × Int) : Int := ((if v.1 < 0 then -v.1 else v.1) * 4294967296).fdiv scaleV
noncomputable def addAt (n : Nat) : List Int := (List.range n).map fun i => addOne (angAt i)
theorem addAt_succ (n : Nat) : addAt (n + 1) = addAt n ++ [addOne (angAt n)] := by simp [addAt, List.range_succ]
theorem ang_small : ∀ i, i < 64 → (angAt i).1.natAbs < 2 ^ 220 ∧ (angAt i).2.natAbs < 2 ^ 220 := by decide +kernel
noncomputable def angPs (c : ((Int × Int) × (Tok × Tok)) × List Int) : List (Str × Value) := [(Str.ofString "sine", .int c.1.1.1 c.1.2.1), (Str.ofString "cosine", .int c.1.1.2 c.1.2.2)]
theorem bits_of {x : Int} (h : x.natAbs < 2 ^ 220) : Builtin.Int.intBits x ≤ 300 := Nat.le_trans (intBits_le_iff.mpr h) (by decide)
theorem bits_S : Builtin.Int.intBits oneS ≤ 300 := bits_of (by decide +kernel)
theorem bits_C : Builtin.Int.intBits oneC ≤ 300 := bits_of (by decide +kernel)
theorem ne_of_allLt {d : Addr} {l : List (Addr × Obj)} (h : AllLt d l) : ∀ p ∈ l, p.1 ≠ d := fun p hp => Nat.ne_of_lt (ktn_ltOf h p hp)

theorem ints_snoc {vs : List Value} {ns : List Int} {n : Int} {t : Tok} (h : IntsAre vs ns) : IntsAre (vs ++ [.int n t]) (ns ++ [n]) := by
  induction h with
  | nil => exact .cons _ _ .nil
  | cons a b _ ih => exact .cons _ _ ih
section
variable {w : World} {mean : ExcName → Option Value} {mg mb : Str → Option Value} {dp un : Nat} {gd : Option (List Code)} {cn : Str} {cs : Scope} {ca : Addr} {ccd : Value} {cl : List (Str × Addr)} {outer : List Env} {A₀ : Around} {base h₀ : Heap} {L : Addr} {m : Str → Option Value} {news : List (Addr × Obj)} {s : Shared} {Q E : Value → Shared → Prop}

theorem list_end12 {ls : List Int} {vs : List Value} {n : Nat} {r : Addr} {h' : Heap} {tk' : Nat}
    (hret : ∀ (r : Addr) (vs : List Value) (n : Nat) (h' : Heap) (tk' : Nat), Fr h₀ L h' m → News h₀ L h' ((r, listOf vs.toArray n) :: news) → IntsAre vs ls → Q (.ref r) { s with heap := h', toks := tk' })
    (F : Fr h₀ L h' m) (N : News h₀ L h' ((r, listOf vs.toArray n) :: news)) (l : IntsAre vs ls) (_e : True) : Q (.ref r) { s with heap := h', toks := tk' } := hret _ _ _ _ _ F N l
local macro_rules | `(tactic| k_all) => `(tactic| (first | assumption))
theorem added_numbers_ok (B : Below A₀ base outer h₀) (F : Fr h₀ L s.heap m) (X : (hd.heap_39 w.params).In h₀) (N : News h₀ L s.heap news) (T : Top hd.view_39 LOO mean mg mb h₀) (hk : cs.kind = .function) (hdp : dp + 3 < recursionLimit) (hun : un + 24 < cLine)
    
    (hret : ∀ (r : Addr) (vs : List Value) (n : Nat) (h' : Heap) (tk' : Nat), Fr h₀ L h' m → News h₀ L h' ((r, listOf vs.toArray n) :: news) → IntsAre vs (addAt 64) → Q (.ref r) { s with heap := h', toks := tk' }) :
    wpAny (model PR w) (ktrTop dp un gd cn cs L ca ccd cl outer) (call (.ref 34) []) Q E s := by
  k_with_none
  k_with "pyIter ref" => (k_here; refine Md.stop_of ?_)
  k_with "call ref" => (k_here; (with_reducible show wpAny _ _ (call (Value.ref 27) _) _ _ _); k_dflt (refine' Md.first_sine_ok ?k1 ?k2 ?k3 ?k4 ?k5 ?kK ?kd ?ku  ?_; (case k1 => k_asm); (case k2 => k_asm); (case k3 => k_asm); (case k4 => k_asm); (case k5 => k_asm); (case kK => first | exact rfl | assumption); (case kd => ktr_room); (case ku => ktr_units); k_whole; intro r9 t9 x9 h9 tk9 F9 N9 l9; (try dsimp only); (try k_fold)))
  k_with "binaryOp Mult int int" => (k_here; (with_reducible refine' mul_int ?_ ?ok); (case ok => k_dflt (exact PySem.IntMulOk.of_le (m := 300) (n := 300) (by first | assumption | exact Md.bits_S | exact Md.bits_C | exact intBits_natAbs_le (by assumption) | decide +kernel) (by first | assumption | exact Md.bits_S | exact Md.bits_C | exact intBits_natAbs_le (by assumption) | decide +kernel) (by decide))))
  refine wpAny_call ?_
  k_dflt cell_enter
  k_steps
  refine stop_in ?_
  (rename IsRange _ _ _ _ _ _ _ _ => hR)
  (rename Fr _ _ _ _ => lF)
  (rename News _ _ _ _ => lN)
  refine range_app (n := 64) (vs₀ := []) angPs (fun c => c.2) (fun i c => c.1.1 = angAt i ∧ c.2 = addAt i) [] (((oneS, oneC), (_, _)), []) rfl hR (by decide) (by decide) lF lN (ne_of_allLt (by assumption)) .nil (by kst_all) ⟨rfl, rfl⟩ ?_ ?_
  all_goals clear lF lN
  · rintro i t ⟨⟨⟨sv, cv⟩, ⟨ta, tb⟩⟩, ls⟩ u h tk nl vs ep hi ⟨hP, hL⟩ hI hs hne F N
    have hsm := ang_small i hi
    rw [← hP] at hsm
    have hb1 := bits_of hsm.1
    have hb2 := bits_of hsm.2
    have hlen : vs.length = i := by rw [hI.length, hL]; simp [addAt]
    dsimp only [angPs] at F hP hL hI hb1 hb2
    simp only [Int.zero_add, Int.mul_one, kstB] at F
    try k_fold
    k_steps
    refine' AppTurn.intro ((((sv * oneC + cv * oneS).fdiv scaleV, (cv * oneC - sv * oneS).fdiv scaleV), (_, _)), ls ++ [addOne (sv, cv)]) (vs := vs ++ [Value.int (addOne (sv, cv)) _]) ?mqf ?mqn ?mqa ?mqs ?mqr ?mqi ?mqp ?mqk ?mqz
    case mqf => k_asm
    case mqn => k_asm
    case mqa => exact .tail _ (.head _)
    case mqs => exact fun p hp => .tail _ (.tail _ hp)
    case mqr => exact List.push_toArray _ _
    case mqi => exact ints_snoc hI
    case mqk => (refine List.forall_mem_cons.mpr ⟨?ka2, ?kr2⟩; (case ka2 => exact rfl); (case kr2 => (refine List.forall_mem_cons.mpr ⟨?ka1, ?kr1⟩; (case ka1 => exact rfl); (case kr1 => exact List.forall_mem_nil _))))
    case mqz => intro z h1 h2 h3; (have a0 := h2 _ (.head _)); (have a1 := h2 _ (.tail _ (.head _))); (dsimp only at a0 a1); simp only [kstB, h1, a0, a1, h3, if_false, Bool.false_eq_true]
    case mqp =>
      refine ⟨?_, ?_⟩
      · show _ = angNext (angAt i)
        rw [← hP]
        rfl
      · rw [addAt_succ, ← hP, ← hL]
  · rintro ⟨⟨⟨sv, cv⟩, ⟨ta, tb⟩⟩, ls⟩ u h tk vs ep ⟨hP, hL⟩ hI F N
    dsimp only [angPs] at F hP hL hI
    subst hL
    simp only [kstB] at F
    try k_fold
    k_steps
    all_goals refine' list_end12 hret (by k_asm) (by first | k_asm | exact cb_drop (by assumption) (by kcj_all)) (by first | assumption | (with_unfolding_all assumption)) (by exact trivial)
end
end Md
namespace Md
theorem freshC10 : True := by
  w_top off
  k_with_none
  exact True.intro

theorem addAt_length (n : Nat) : (addAt n).length = n := by simp [addAt]
theorem pad_blocks {ks : List Int} (h : ks.length ≤ 130) : ∃ n, 1 ≤ n ∧ n ≤ 3 ∧ (padV ks).length = 64 * n := by
  rw [padV_length]
  have h0 := fmod_lo (55 - (ks.length : Int)) (n := 64) (by decide)
  have h1 := fmod_hi (55 - (ks.length : Int)) (n := 64) (by decide)
  have h2 : (55 - (ks.length : Int)).fmod 64 = (55 - (ks.length : Int)) % 64 := Int.fmod_eq_emod_of_nonneg _ (by decide)
  unfold nullsV
  exact ⟨(ks.length + 1 + ((55 - (ks.length : Int)).fmod 64).toNat + 8) / 64, by omega, by omega, by omega⟩
theorem small64 {n : Nat} (h : n ≤ 3) : Builtin.Range.small 0 ((64 * n : Nat) : Int) 64 = true := by
  match n, h with
  | 0, _ => decide
  | 1, _ => decide
  | 2, _ => decide
  | 3, _ => decide
theorem size64 {n : Nat} (h : n ≤ 3) : Builtin.Range.rangeSize 0 ((64 * n : Nat) : Int) 64 = (n : Int) := by
  match n, h with
  | 0, _ => decide
  | 1, _ => decide
  | 2, _ => decide
  | 3, _ => decide
noncomputable def blockAt (pad : List Int) (i : Nat) : List Int := List.take (((i : Int) * 64 + 64).toNat - ((i : Int) * 64).toNat) (List.drop ((i : Int) * 64).toNat pad)
theorem blockAt_length {pad : List Int} {n i : Nat} (h : pad.length = 64 * n) (hi : i < n) : (blockAt pad i).length = 64 := by
  simp only [blockAt, List.length_take, List.length_drop]; omega
noncomputable def digAt (pad add : List Int) : Nat → Four
  | 0 => v0
  | i + 1 => blockV (digAt pad add i) (blockAt pad i) add
noncomputable def fourOut (v : Four) : List Int := lowV v.1 4 ++ lowV v.2.1 4 ++ lowV v.2.2.1 4 ++ lowV v.2.2.2 4

noncomputable def digV (ks : List Int) : List Int := fourOut (digAt (padV ks) (addAt 64) ((padV ks).length / 64))
theorem digV_eq {ks : List Int} {n : Nat} (h : (padV ks).length = 64 * n) : fourOut (digAt (padV ks) (addAt 64) n) = digV ks := by
  unfold digV; rw [h, Nat.mul_div_cancel_left _ (by decide)]
section
variable {prog : Program} {w : World} {A : Around} {E : Value → Shared → Prop} {s : Shared} {b0 b1 b2 b3 : Array UInt8} {t0 t1 t2 t3 t : Tok}
theorem low4_size {b : Array UInt8} {x : Int} (h : KBw.bInts b = lowV x 4) : b.size = 4 := by
  rw [← KBw.ints_length, h, lowV_length]; rfl
theorem call_join_low {D : Addr} {v : Four} {Q : Value → Shared → Prop} (hl : s.heap.IsList D #[.bytes b0 t0, .bytes b1 t1, .bytes b2 t2, .bytes b3 t3])
    (i0 : KBw.bInts b0 = lowV v.1 4) (i1 : KBw.bInts b1 = lowV v.2.1 4) (i2 : KBw.bInts b2 = lowV v.2.2.1 4) (i3 : KBw.bInts b3 = lowV v.2.2.2 4)
    (h : ∀ b' t' k, KBw.bInts b' = fourOut v → Q (.bytes b' t') { s with toks := k }) : wpAny (model prog w) A (call (.builtin "bytes.join") [.bytes #[] t, .ref D]) Q E s :=
  call_join4 hl (by rw [low4_size i0, low4_size i1, low4_size i2, low4_size i3]; decide) fun t' k => h _ t' k (KBw.ints_app (KBw.ints_app (KBw.ints_app i0 i1) i2) i3)
end
section
variable {w : World} {mean : ExcName → Option Value} {mg mb : Str → Option Value} {dp un : Nat} {gd : Option (List Code)} {cn : Str} {cs : Scope} {ca : Addr} {ccd : Value} {cl : List (Str × Addr)} {outer : List Env} {A₀ : Around} {base h₀ : Heap} {L : Addr} {m : Str → Option Value} {news : List (Addr × Obj)} {s : Shared} {Q E : Value → Shared → Prop}

theorem bytes_end14 {ks ls : List Int} {b : Array UInt8} {t : Tok} {h' : Heap} {tk' : Nat}
    (hret : ∀ (b : Array UInt8) (t : Tok) (h' : Heap) (tk' : Nat), Fr h₀ L h' m → News h₀ L h' news → KBw.bInts b = ls → Q (.bytes b t) { s with heap := h', toks := tk' })
    (F : Fr h₀ L h' m) (N : News h₀ L h' news) (l : KBw.bInts b = ks) (e : ks = ls) : Q (.bytes b t) { s with heap := h', toks := tk' } := hret _ _ _ _ F N (l.trans e)
theorem digest_ok (B : Below A₀ base outer h₀) (F : Fr h₀ L s.heap m) (X : (hd.heap_39 w.params).In h₀) (N : News h₀ L s.heap news) (T : Top hd.view_39 LOO mean mg mb h₀) (hk : cs.kind = .function) (hdp : dp + 5 < recursionLimit) (hun : un + 40 < cLine)
    {b : Array UInt8} {ks : List Int} {t1 : Tok} (hb : KBw.bInts b = ks) (h0 : ks.length ≤ 130)
    (hret : ∀ (b : Array UInt8) (t : Tok) (h' : Heap) (tk' : Nat), Fr h₀ L h' m → News h₀ L h' news → KBw.bInts b = (digV ks) → Q (.bytes b t) { s with heap := h', toks := tk' }) :
    wpAny (model PR w) (ktrTop dp un gd cn cs L ca ccd cl outer) (call (.ref 96) [.bytes b t1]) Q E s := by
  k_with_none
  k_with "pyIter ref" => (k_here; refine Md.stop_of ?_)
  k_with "call ref" => (k_here; (with_reducible show wpAny _ _ (call (Value.ref 34) _) _ _ _); k_dflt (refine' Md.added_numbers_ok ?k1 ?k2 ?k3 ?k4 ?k5 ?kK ?kd ?ku  ?_; (case k1 => k_asm); (case k2 => k_asm); (case k3 => k_asm); (case k4 => k_asm); (case k5 => k_asm); (case kK => first | exact rfl | assumption); (case kd => ktr_room); (case ku => ktr_units); k_whole; intro r9 vs9 n9 h9 tk9 F9 N9 I9; (try dsimp only); (try k_fold)))
  k_with "call ref" => (k_here; (with_reducible show wpAny _ _ (call (Value.ref 46) _) _ _ _); k_dflt (refine' Md.padded_ok ?k1 ?k2 ?k3 ?k4 ?k5 ?kK ?kd ?ku ?a1 ?a2 ?_; (case k1 => k_asm); (case k2 => k_asm); (case k3 => k_asm); (case k4 => k_asm); (case k5 => k_asm); (case kK => first | exact rfl | assumption); (case kd => ktr_room); (case ku => ktr_units); (case a1 => assumption); (case a2 => assumption); k_whole; intro b9 t9 h9 tk9 F9 N9 I9; (try dsimp only); (try k_fold)))
  k_with "call ref" => (k_here; (with_reducible show wpAny _ _ (call (Value.ref 39) _) _ _ _); k_dflt (refine' Md.low_first_ok ?k1 ?k2 ?k3 ?k4 ?k5 ?kK ?kd ?ku ?a1 ?a2 ?_; (case k1 => k_asm); (case k2 => k_asm); (case k3 => k_asm); (case k4 => k_asm); (case k5 => k_asm); (case kK => first | exact rfl | assumption); (case kd => ktr_room); (case ku => ktr_units); (case a1 => first | decide | omega); (case a2 => first | decide | omega); k_whole; intro b9 t9 h9 tk9 F9 N9 I9; (try dsimp only); (try k_fold)))
  k_with "call ref" => (k_here; (with_reducible show wpAny _ _ (call (Value.ref 91) _) _ _ _); k_dflt (refine' Md.block_taken_ok ?k1 ?k2 ?k3 ?k4 ?k5 ?kK ?kd ?ku ?a1 ?a2 ?a3 ?a4 ?a5 ?a6 ?_; (case k1 => k_asm); (case k2 => k_asm); (case k3 => k_asm); (case k4 => k_asm); (case k5 => k_asm); (case kK => first | exact rfl | assumption); (case kd => ktr_room); (case ku => ktr_units); (case a1 => assumption); (case a2 => first | (simp only [List.length_take, List.length_drop]; omega) | (simp only [List.length_take, List.length_drop, *]; omega)); (case a3 => assumption); (case a4 => assumption); (case a5 => exact Md.addAt_length 64); (case a6 => assumption); k_whole; intro r9 x1 x2 x3 x4 h9 tk9 F9 N9 l9; (try dsimp only); (try k_fold)))
  k_with "call ref" => (k_here; (with_reducible show wpAny _ _ (call (Value.ref 91) (Value.ref 20 :: _)) _ _ _); k_dflt (refine' Md.block_taken_ok0 ?k1 ?k2 ?k3 ?k4 ?k5 ?kK ?kd ?ku ?a1 ?a2 ?a3 ?a4 ?a5 ?_; (case k1 => k_asm); (case k2 => k_asm); (case k3 => k_asm); (case k4 => k_asm); (case k5 => k_asm); (case kK => first | exact rfl | assumption); (case kd => ktr_room); (case ku => ktr_units); (case a1 => assumption); (case a2 => first | (simp only [List.length_take, List.length_drop]; omega) | (simp only [List.length_take, List.length_drop, *]; omega)); (case a3 => assumption); (case a4 => assumption); (case a5 => exact Md.addAt_length 64); k_whole; intro r9 x1 x2 x3 x4 h9 tk9 F9 N9 l9; (try dsimp only); (try k_fold)))
  k_with "subscriptTail" => (k_here; (with_reducible show wpAny _ _ (subscriptTail _ (Expr.Slice _ _ none _) (Value.bytes _ _) (Value.ref _)) _ _ _); (with_reducible rename Fr _ _ _ _ => F'); (with_reducible rename News _ _ _ _ => N'); k_dflt (refine' Md.slice_ok (s := ⟨_, _, _, _, _⟩) F' N' ?b ?a0 ?a1 ?a2 ?z ?_ ?hs ?ht; (case b => assumption); (case a0 => omega); (case a1 => omega); (case a2 => omega); (case z => omega); (case hs => with_unfolding_all rfl); (case ht => intro _; with_unfolding_all rfl)); intro _ _ _ _ F' N' _)
  k_with "getMethod bytes" => (k_here; with_reducible refine Md.get_join ?_)
  k_with "call builtin:bytes.join" => (k_here; (with_reducible show wpAny _ _ (call (Value.builtin "bytes.join") [_, _]) _ _ _); k_dflt (refine' Md.call_join_low ?jl ?j0 ?j1 ?j2 ?j3 ?_; (case jl => exact News.isList (by assumption) (by k_mem)); (case j0 => assumption); (case j1 => assumption); (case j2 => assumption); (case j3 => assumption)); intro b8 t8 k8 I8)
  k_with "eval ListComp" => (k_here; k_dflt (refine Md.ListComp_UT (F₀ := by k_asm) (by rfl) (by decide) (by rfl) (by decide) (by rfl) ?_))
  k_with "TSrc" => (k_here; k_dflt (refine Md.TSrc.ledger (by rfl) (by k_asm) (by k_asm) (by k_mem) (by first | size_fits | exact Nat.le_of_ble_eq_true rfl) ?_; intro g'; lcg_lit))
  k_with "CompEnd" => (k_here; (with_reducible rename News _ _ _ ((_, _) :: (_, _) :: (_, LCg.lst _) :: _) => cN9); k_dflt (refine LCg.CompEnd.intro (by assumption) cN9 _ (fun p hp => hp) (by first | assumption | (simp only [LCg.Off3, and_true] at *; assumption)) (Or.inr ⟨_, by k_mem, rfl, _, rfl⟩) ?_))
  refine wpAny_call ?_
  k_dflt cell_enter
  obtain ⟨n, hn1, hn3, hlen⟩ := pad_blocks h0
  k_steps
  refine stop_in ?_
  (rename IsRange _ _ _ _ _ _ _ _ => hR)
  (rename Fr _ _ _ _ => lF)
  (rename News _ _ _ _ => lN)
  rw [hlen] at hR
  refine range_ref (n := n) (y := Str.ofString "four") IsTup4 (digAt (padV ks) (addAt 64)) [] rfl hR (small64 hn3) (size64 hn3) lF lN hn1 ?_ ?_ ?_
  all_goals clear lF lN
  · intro t h tk nl hs F N
    have hn' := hs _ (List.Mem.head _)
    try k_fold
    k_steps
    exact RefTurn.intro (by assumption) (by assumption) (List.Mem.head _) (fun p hp => List.Mem.tail _ hp) (fun p hp => Nat.ne_of_lt ((by assumption : ∀ p ∈ nl, p.1 < _) p hp)) ⟨_, _, _, _, rfl⟩ rfl (fun z h1 h2 h3 => by simp only [h1, h2, h3, if_false, Bool.false_eq_true])
  · intro i t a o u h tk nl hi0 hi hrel hs h4' F N
    obtain ⟨w1, w2, w3, w4, rfl⟩ := hrel
    have hn' := hs _ (List.Mem.head _)
    simp only [Int.zero_add] at F
    try k_fold
    k_steps
    exact RefTurn.intro (by assumption) (by assumption) (List.Mem.head _) (fun p hp => List.Mem.tail _ hp) (fun p hp => Nat.ne_of_lt ((by assumption : ∀ p ∈ nl, p.1 < _) p hp)) ⟨_, _, _, _, rfl⟩ rfl (fun z h1 h2 h3 => by simp only [h1, h2, h3, if_false, Bool.false_eq_true])
  · intro u a o h tk hrel hne F N
    obtain ⟨w1, w2, w3, w4, rfl⟩ := hrel
    try k_fold
    k_steps
    all_goals refine' bytes_end14 hret (by k_asm) (by first | k_asm | exact cb_drop (by assumption) (by kcj_all)) (by kba_ints2) (by exact (digV_eq hlen))
end
end Md
namespace Md
theorem freshC11 : True := by
  w_top off
  k_with_none
  exact True.intro

noncomputable def hexF (k : Int) : Str := Txt.item (Str.ofString "0123456789abcdef") (k.fdiv 16) ++ Txt.item (Str.ofString "0123456789abcdef") (k.fmod 16)
noncomputable def hexV (ks : List Int) : Str := Txt.join (Str.ofString "") (ks.map hexF)
section
variable {prog : Program} {w : World} {A : Around} {h₀ : Heap} {L : Addr} {m : Str → Option Value} {env : Env} {elt : PySem.Expr} {x : Str} {scope : Scope} {cl : List (Str × Addr)} {s : Shared} {S : List (Addr × Obj) → Prop} {Fin : List Value → List (Addr × Obj) → Prop} {news : List (Addr × Obj)}
theorem hex_rest {b : Array UInt8} {ks : List Int} (hb : KBw.bInts b = ks)
    (turn : ∀ k t I oI C oC D m₂ ys h tk (E' : Value → Shared → Prop), 0 ≤ k → k < 256 → LCg.NsObj oC m₂ → m₂ x = some (.int k t) → Fr h₀ L h m → News h₀ L h ((I, oI) :: (C, oC) :: (D, LCg.lst ys) :: news) → LCg.Off3 I C D news → ((@Ne Nat I C) ∧ (@Ne Nat I D) ∧ (@Ne Nat C D)) → KPfMark →
      wpAny (model prog w) A (eval elt (compEnvC scope cl C env)) (LCg.CompEnd h₀ L m { s with heap := h, toks := tk } I oI C oC D (LCg.lst ys) S (fun y news' => KCtEl news (hexF k) y news')) E' { s with heap := h, toks := tk })
    (fin : KPfDone (∀ ys, CarriedAll ys (ks.map fun k => PyData.str (hexF k)) → ks.length = b.size → Fin ys news)) :
    LCg.CompRest prog w A h₀ L m env elt x scope cl s S (fun i v => ∃ c u, b[i]? = some c ∧ v = .int (c.toNat : Int) u) Fin b.size 0 [] news :=
  kct_rest (ks := ks) hexF (by rw [← hb, KBw.ints_length]) (fun i v _ hv => by
    obtain ⟨c, u, e, hv⟩ := hv
    exact ⟨_, u, hb ▸ KBw.ints_get e, hv⟩)
    (fun k t I oI C oC D m₂ ys h tk E' hk hC hx F N off ne mk => turn k t I oI C oC D m₂ ys h tk E' (KBw.ints_in (hb ▸ hk)).1 (KBw.ints_in (hb ▸ hk)).2 hC hx F N off ne mk) fin
end
section
variable {w : World} {mean : ExcName → Option Value} {mg mb : Str → Option Value} {dp un : Nat} {gd : Option (List Code)} {cn : Str} {cs : Scope} {ca : Addr} {ccd : Value} {cl : List (Str × Addr)} {outer : List Env} {A₀ : Around} {base h₀ : Heap} {L : Addr} {m : Str → Option Value} {news : List (Addr × Obj)} {s : Shared} {Q E : Value → Shared → Prop}

theorem text_end {a b : Str} {t : Tok} {h' : Heap} {tk' : Nat}
    (hret : ∀ (t : Tok) (h' : Heap) (tk' : Nat), Fr h₀ L h' m → News h₀ L h' news → Q (.str b t) { s with heap := h', toks := tk' })
    (F : Fr h₀ L h' m) (N : News h₀ L h' news) (e : a = b) : Q (.str a t) { s with heap := h', toks := tk' } := e ▸ hret _ _ _ F N
local macro_rules | `(tactic| k_updF) => `(tactic| (refine UpdF.head ?_; intro p hp; refine Nat.ne_of_lt (Nat.lt_succ_of_lt ?_); revert p; assumption))
theorem hex_text_ok (B : Below A₀ base outer h₀) (F : Fr h₀ L s.heap m) (X : (hd.heap_39 w.params).In h₀) (N : News h₀ L s.heap news) (T : Top hd.view_39 LOO mean mg mb h₀) (hk : cs.kind = .function) (hdp : dp + 2 < recursionLimit) (hun : un + 16 < cLine)
    {b : Array UInt8} {ks : List Int} {t1 : Tok} (hb : KBw.bInts b = ks) (h0 : ks.length = 16)
    (hret : ∀ (t : Tok) (h' : Heap) (tk' : Nat), Fr h₀ L h' m → News h₀ L h' news → Q (.str (hexV ks) t) { s with heap := h', toks := tk' }) :
    wpAny (model PR w) (ktrTop dp un gd cn cs L ca ccd cl outer) (call (.ref 101) [.bytes b t1]) Q E s := by
  k_with_none
  k_with "eval ListComp" => (k_here; k_dflt (refine Md.ListComp_UB (F₀ := by k_asm) (by first | rfl | with_unfolding_all rfl) (by decide) (by rfl) (by decide) (by rfl) ?_))
  k_with "BSrc" => (k_here; k_dflt (refine Md.BSrc.intro (by rfl) (by k_asm) (by k_asm) (by rw [← KBw.ints_length, ‹KBw.bInts _ = _›, sizeLine_eq]; omega) ?_; intro g'; refine Md.hex_rest (by assumption) ?_ ?_); focus (intro k' t' I' oI' C' oC' D' m' ys' h' tk' E' klo khi hC' hx' F' N' off' ne' mk'))
  k_with "KCtEl" => ((refine kct_el ?kce (by with_unfolding_all rfl) (by with_unfolding_all rfl)); (case kce => rfl))
  k_with "CompEnd" => (k_here; (with_reducible rename News _ _ _ ((_, _) :: (_, _) :: (_, LCg.lst _) :: _) => cN9); k_dflt (refine LCg.CompEnd.intro (by assumption) cN9 _ (fun p hp => hp) (by first | assumption | (simp only [LCg.Off3, and_true] at *; assumption)) True.intro ?_))
  refine wpAny_call ?_
  k_dflt (refine' code_defC ?k1 ?k2 ?k3 ?k4 ?k5 ?kA ?kF ?kK ?k6 ?k7 ?k8 ?k9 ?kB ?kD ?_ ?c2 ?c3 ?c4; (case kA => exact rfl); (case kF => exact rfl); (case kK => assumption); (case k1 => k_asm); (case k2 => k_asm); (case k3 => k_asm); (case k4 => k_asm); (case k5 => k_asm); (case k6 => k_is); (case k7 => k_is); (case k8 => ktr_room); (case k9 => exact BindsTo.of_eq rfl); (case kB => exact rfl); (case kD => decide +kernel); (case c2 => exact rfl); (case c3 => exact rfl); (case c4 => exact rfl); k_whole; intro g' L' h' tk' cells' FG' F' N' Y' B' X' T' l1; (try k_lt l1); k_cells Y'; (try simp only [List.cons_append, List.nil_append] at N'); (try dsimp only); (try k_lift B'); (try k_fold))
  k_steps
  all_goals refine' text_end hret (by k_asm) (by first | k_asm | exact cb_drop (by assumption) (by kcj_all)) (by exact rfl)
end
end Md
namespace Md
theorem freshC12 : True := by
  w_top off
  k_with_none
  exact True.intro

theorem pen_next {c k : Int} {i : Nat} (h0 : 0 ≤ c) (hb : Builtin.Int.intBits c ≤ 1048600 + 25 * i) (hk : Builtin.Int.intBits k ≤ 1048576) (e : Int) (e0 : 0 ≤ e) (e1 : e ≤ 1) :
    0 ≤ c * 1000003 + 2 * (if k < 0 then -k else k) + e + 1 ∧ Builtin.Int.intBits (c * 1000003 + 2 * (if k < 0 then -k else k) + e + 1) ≤ 1048600 + 25 * (i + 1) := by
  refine ⟨by split <;> omega, ?_⟩
  have h1 := intBits_mul_le hb (show Builtin.Int.intBits 1000003 ≤ 20 by decide)
  have h2 := intBits_mul_le (show Builtin.Int.intBits 2 ≤ 2 by decide) (show Builtin.Int.intBits (if k < 0 then -k else k) ≤ 1048576 by split; exact intBits_neg_le hk; exact hk)
  have h3 := intBits_add_le h1 h2
  have h4 : Builtin.Int.intBits e ≤ 1 := by
    have : e = 0 ∨ e = 1 := by omega
    rcases this with rfl | rfl <;> decide
  have h5 := intBits_add_le h3 h4
  have h6 := intBits_add_le h5 (show Builtin.Int.intBits 1 ≤ 1 by decide)
  omega

structure PenP (i : Nat) (c : Int × Tok) : Prop where
  h0 : 0 ≤ c.1
  hb : Builtin.Int.intBits c.1 ≤ 1048600 + 25 * i
structure BigB (c : Int) : Prop where
  hb : Builtin.Int.intBits c ≤ 1200000
structure PenN (c k : Int) (i : Nat) : Prop where
  hn : ∀ (e : Int), 0 ≤ e → e ≤ 1 → ∀ t, PenP (i + 1) (c * 1000003 + 2 * (if k < 0 then -k else k) + e + 1, t)
theorem bigB_natAbs {k : Int} (h : BigB k) : BigB (if k < 0 then -k else k) := by
  split
  · exact ⟨intBits_neg_le h.hb⟩
  · exact h
theorem bigB_a : BigB 1000003 := ⟨by decide⟩
theorem bigB_b : BigB 2 := ⟨by decide⟩
theorem bigB_mul {a b : Int} (ha : BigB a) (hb : BigB b) : IntMulOk a b := IntMulOk.of_le ha.hb hb.hb (by decide)
noncomputable def penPs (c : Int × Tok) : List (Str × Value) := [(Str.ofString "number", .int c.1 c.2)]
section
variable {w : World} {mean : ExcName → Option Value} {mg mb : Str → Option Value} {dp un : Nat} {gd : Option (List Code)} {cn : Str} {cs : Scope} {ca : Addr} {ccd : Value} {cl : List (Str × Addr)} {outer : List Env} {A₀ : Around} {base h₀ : Heap} {L : Addr} {m : Str → Option Value} {news : List (Addr × Obj)} {s : Shared} {Q E : Value → Shared → Prop}
theorem law_pen_ok (B : Below A₀ base outer h₀) (F : Fr h₀ L s.heap m) (X : (hd.heap_39 w.params).In h₀) (N : News h₀ L s.heap news) (T : Top hd.view_39 LOO mean mg mb h₀) (hk : cs.kind = .function) (hdp : dp + 2 < recursionLimit) (hun : un + 16 < cLine)
    {as : Addr} {vs : List Value} {ns : List Int} (hl : h₀.IsList as vs.toArray) (hi : IntsAre vs ns) (h0 : ns.length ≤ 63) (hlay : (PyData.list (List.map PyData.int ns)).layable0 = true)
    (hret : ∀ (r : Addr) (num : Int) (t1 t2 : Tok) (h' : Heap) (tk' : Nat), 0 ≤ num → BigB num → Fr h₀ L h' m → News h₀ L h' ((r, listOf [Value.int num t1, .int 0 t2].toArray 0) :: news) → (∀ p ∈ news, p.1 < r) → Q (.ref r) { s with heap := h', toks := tk' }) :
    wpAny (model PR w) (ktrTop dp un gd cn cs L ca ccd cl outer) (call (.ref 108) [.ref as]) Q E s := by
  k_with_none
  k_with "pyIter ref" => (k_here; refine Md.stop_of ?_)
  k_with "execs nil" => (k_here; refine wpAny_execs_nil ?_)
  k_with "subscriptTail" => (k_here; (with_reducible show wpAny _ _ (subscriptTail _ (Expr.Slice _ _ none _) (Value.ref _) (Value.ref _)) _ _ _); (with_reducible rename Fr _ _ _ _ => sF'); (with_reducible rename News _ _ _ _ => sN'); k_dflt (refine slice_list (s := ⟨_, _, _, _, _⟩) sF' sN' (Fr.lst sF' (by first | assumption | exact Fr.lst (by assumption) (by assumption))) .none (.int _ _) ?_ (hsz := by (have e9 := (‹IntsAre _ _›).length); rw [List.size_toArray, sizeLine_eq]; omega)); intro h' F' N')
  k_with "exec For" => (k_here; (with_reducible show wpAny _ _ (exec (PySem.Stmt.For (Expr.Name _ _) (Expr.Subscript _ _ _) _ _ _) _) _ _ _); (rename Fr _ _ _ _ => lF'); (with_unfolding_all refine' For_invVF lF' ?k1 ?k2 ?_; (case k1 => exact rfl); (case k2 => exact rfl); k_whole))
  k_with "binaryOp Mult int int" => (k_here; (with_reducible refine' mul_int ?_ ?ok); (case ok => k_dflt (exact Md.bigB_mul (by first | assumption | exact Md.bigB_natAbs (by assumption) | exact Md.bigB_a | exact Md.bigB_b) (by first | assumption | exact Md.bigB_natAbs (by assumption) | exact Md.bigB_a | exact Md.bigB_b))))
  refine wpAny_call ?_
  k_dflt cell_enter
  k_steps
  refine stop_in ?_
  (with_reducible rename Fr _ _ _ _ => lF)
  (with_reducible rename News _ _ _ _ => lN)
  (with_reducible rename News _ _ _ news => sN)
  refine list_val (vs := (slicePick vs.toArray none (some 24) none).toList) (ns := ns.take 24) penPs PenP [] (0, _) rfl lF lN (fun p hp => Nat.ne_of_lt (Nat.lt_succ_of_lt (Heap.lt_size (sN p hp).1))) (slice_ints_uptoW hi (by decide)) (by kst_all) ⟨Int.le_refl _, by show Builtin.Int.intBits 0 ≤ _; decide⟩ ?_ ?_
  all_goals clear lF lN
  · rintro i k t ⟨c, tc⟩ u h tk nl hi hik ⟨hc0, hcb⟩ hs F N
    dsimp only at hc0 hcb
    dsimp only [penPs] at F
    simp only [List.length_take] at hi
    have hkn : k ∈ ns := List.mem_of_mem_take (List.mem_of_getElem? hik)
    have hkb : BigB k := ⟨Nat.le_trans (intBits_le_of_item hkn hlay) (by decide)⟩
    have hcb' : BigB c := ⟨by omega⟩
    have hfin : PenN c k i := ⟨fun e e0 e1 t => ⟨(pen_next hc0 hcb (intBits_le_of_item hkn hlay) e e0 e1).1, (pen_next hc0 hcb (intBits_le_of_item hkn hlay) e e0 e1).2⟩⟩
    clear hcb hi hik hkn
    try k_fold
    k_steps
    · refine' ValTurn.intro ((c * 1000003 + 2 * if k < 0 then -k else k) + 1 + 1, _) ?f1 ?n1 (fun p hp => hp) ?p1 ?k1 ?z1
      case f1 => k_asm
      case n1 => k_asm
      case k1 => (refine List.forall_mem_cons.mpr ⟨?ka1, ?kr1⟩; (case ka1 => exact rfl); (case kr1 => exact List.forall_mem_nil _))
      case z1 => intro z h1 h2 h3; (have a0 := h2 _ (.head _)); (dsimp only at a0); simp only [kstB, h1, a0, h3, if_false, Bool.false_eq_true]
      case p1 => exact hfin.hn 1 (by decide) (by decide) _
    · refine' ValTurn.intro ((c * 1000003 + 2 * if k < 0 then -k else k) + 0 + 1, _) ?f0 ?n0 (fun p hp => hp) ?p0 ?k0 ?z0
      case f0 => k_asm
      case n0 => k_asm
      case k0 => (refine List.forall_mem_cons.mpr ⟨?ka1, ?kr1⟩; (case ka1 => exact rfl); (case kr1 => exact List.forall_mem_nil _))
      case z0 => intro z h1 h2 h3; (have a0 := h2 _ (.head _)); (dsimp only at a0); simp only [kstB, h1, a0, h3, if_false, Bool.false_eq_true]
      case p0 => exact hfin.hn 0 (by decide) (by decide) _
  · rintro ⟨c, tc⟩ u h tk ⟨hc0, hcb⟩ F N
    dsimp only at hc0 hcb
    dsimp only [penPs] at F
    try k_fold
    k_steps
    exact hret _ _ _ _ _ _ hc0 ⟨by simp only [List.length_take] at hcb; omega⟩ (by assumption) (by assumption) (by assumption)
end
end Md
namespace Md
theorem freshC13 : True := by
  w_top off
  k_with_none
  exact True.intro

theorem fdiv_lo {x n : Int} (h : 0 ≤ x) (h0 : 0 < n) : 0 ≤ x.fdiv n := by
  rw [Int.fdiv_eq_ediv_of_nonneg _ (by omega)]
  exact Int.ediv_nonneg h (by omega)
theorem small_ne {many : Int} (h0 : 0 < many) : many ≠ 0 := by omega
theorem small_py {x many : Int} (h0 : 0 < many) (h1 : many ≤ 256) : Builtin.divisionGoesByPylong x many = false := by
  refine PyProof.noPylong_of_log2 ?_
  have e : many.natAbs ≤ 256 := by omega
  exact Nat.lt_of_le_of_lt (Nat.log2_le_self _) (by omega)
theorem BigB.of_nat {k : Int} (h0 : 0 ≤ k) (h1 : k ≤ 100000000) : BigB k := ⟨intBits_le_iff.mpr (Nat.lt_of_lt_of_le (show k.natAbs < 2 ^ 100 by omega) (Nat.pow_le_pow_right (by decide) (by decide)))⟩
section
variable {w : World} {mean : ExcName → Option Value} {mg mb : Str → Option Value} {dp un : Nat} {gd : Option (List Code)} {cn : Str} {cs : Scope} {ca : Addr} {ccd : Value} {cl : List (Str × Addr)} {outer : List Env} {A₀ : Around} {base h₀ : Heap} {L : Addr} {m : Str → Option Value} {news : List (Addr × Obj)} {s : Shared} {Q E : Value → Shared → Prop}
local macro_rules | `(tactic| k_all) => `(tactic| (first | assumption))
theorem law_draw_ok0 {ap : Addr} {num cnt : Int} {u1 u2 t1 : Tok} {ep : Nat} {many : Int} (B : Below A₀ base outer h₀) (F : Fr h₀ L s.heap m) (X : (hd.heap_39 w.params).In h₀) (N : News h₀ L s.heap ((ap, listOf [Value.int num u1, .int cnt u2].toArray ep) :: news)) (T : Top hd.view_39 LOO mean mg mb h₀) (hk : cs.kind = .function) (hdp : dp + 2 < recursionLimit) (hun : un + 16 < cLine)
    (hne : ∀ p ∈ news, p.1 ≠ ap) (hn0 : 0 ≤ num) (hnb : BigB num) (hc0 : 0 ≤ cnt) (hc1 : cnt ≤ 100000) (hm0 : 0 < many) (hm1 : many ≤ 256)
    (hret : ∀ (d : Int) (t : Tok) (num1 : Int) (v1 v2 : Tok) (ep1 : Nat) (h' : Heap) (tk' : Nat), 0 ≤ d → d < many → 0 ≤ num1 → BigB num1 → Fr h₀ L h' m → News h₀ L h' ((ap, listOf [Value.int num1 v1, .int (cnt + 1) v2].toArray ep1) :: news) → Q (.int d t) { s with heap := h', toks := tk' }) :
    wpAny (model PR w) (ktrTop dp un gd cn cs L ca ccd cl outer) (call (.ref 115) [.ref ap, .int many t1]) Q E s := by
  k_with_none
  k_with "execs nil" => (k_here; refine wpAny_execs_nil ?_)
  k_with "binaryOp FloorDiv int int" => (k_here; (with_reducible refine floordiv_int ?kbe ?_ (Or.inl ?kbp)); (case kbe => exact Md.small_ne (by assumption)); (case kbp => exact Md.small_py (by assumption) (by assumption)))
  k_with "binaryOp Mod int int" => (k_here; (with_reducible refine mod_int ?kbe ?_ (Or.inl ?kbp)); (case kbe => exact Md.small_ne (by assumption)); (case kbp => exact Md.small_py (by assumption) (by assumption)))
  k_with "binaryOp Mult int int" => (k_here; (with_reducible rename Md.BigB (_ + _) => hcn9); (with_reducible refine' mul_int ?_ ?ok); (case ok => k_dflt (exact Md.bigB_mul hcn9 hcn9)))
  have hcn : BigB (cnt + 1) := BigB.of_nat (by omega) (by omega)
  refine wpAny_call ?_
  k_dflt cell_enter
  k_steps
  · exact hret (num.fmod many) _ (num.fdiv many) _ _ _ _ _ (fmod_lo _ hm0) (fmod_hi _ hm0) (fdiv_lo hn0 hm0) ⟨intBits_fdiv_le hnb.hb⟩ (by assumption) (by assumption)
  · exact hret (((cnt + 1) * (cnt + 1) + 1).fmod many) _ num _ _ _ _ _ (fmod_lo _ hm0) (fmod_hi _ hm0) hn0 hnb (by assumption) (by assumption)
theorem law_draw_ok (B : Below A₀ base outer h₀) (F : Fr h₀ L s.heap m) (X : (hd.heap_39 w.params).In h₀) (N : News h₀ L s.heap news) (T : Top hd.view_39 LOO mean mg mb h₀) (hk : cs.kind = .function) (hdp : dp + 2 < recursionLimit) (hun : un + 16 < cLine)
    {ap : Addr} {num cnt : Int} {u1 u2 t1 : Tok} {ep : Nat} {many : Int} {g : Obj → List (Addr × Obj)} (U : UpdF ap (listOf [Value.int num u1, .int cnt u2].toArray ep) news g) (hn0 : 0 ≤ num) (hnb : BigB num) (hc0 : 0 ≤ cnt) (hc1 : cnt ≤ 100000) (hm0 : 0 < many) (hm1 : many ≤ 256)
    (hret : ∀ (d : Int) (t : Tok) (num1 : Int) (v1 v2 : Tok) (ep1 : Nat) (h' : Heap) (tk' : Nat), 0 ≤ d → d < many → 0 ≤ num1 → BigB num1 → Fr h₀ L h' m → News h₀ L h' (g (listOf [Value.int num1 v1, .int (cnt + 1) v2].toArray ep1)) → Q (.int d t) { s with heap := h', toks := tk' }) :
    wpAny (model PR w) (ktrTop dp un gd cn cs L ca ccd cl outer) (call (.ref 115) [.ref ap, .int many t1]) Q E s := by
  obtain ⟨pre, post, rfl, hg, a, b⟩ := U.split
  refine law_draw_ok0 (news := pre ++ post) (num := num) (cnt := cnt) (u1 := u1) (u2 := u2) (ep := ep) B F X (fun p hp => N p ?_) T hk hdp hun ?_ hn0 hnb hc0 hc1 hm0 hm1 ?_
  · rcases List.mem_cons.mp hp with rfl | hp
    · exact List.mem_append.mpr (.inr (.head _))
    · exact (List.mem_append.mp hp).elim (fun h => List.mem_append.mpr (.inl h)) fun h => List.mem_append.mpr (.inr (.tail _ h))
  · exact fun p hp => (List.mem_append.mp hp).elim (a p) (b p)
  · intro d t num1 v1 v2 ep1 h' tk' d0 d1 n0 nb F' N'
    refine hret d t num1 v1 v2 ep1 h' tk' d0 d1 n0 nb F' (fun p hp => N' p ?_)
    rw [hg] at hp
    rcases List.mem_append.mp hp with hp | hp
    · exact .tail _ (List.mem_append.mpr (.inl hp))
    · rcases List.mem_cons.mp hp with rfl | hp
      · exact .head _
      · exact .tail _ (List.mem_append.mpr (.inr hp))
end
end Md
namespace Md
noncomputable def lawNext (ws add : List Int) (j : Nat) (q : Four) : Four := (q.2.2.2, lawB q.1 q.2.1 q.2.2.1 q.2.2.2 ws j add, q.2.1, q.2.2.1)
noncomputable def lawAt (ws add : List Int) (v : Four) : Nat → Four
  | 0 => v
  | j + 1 => lawNext ws add j (lawAt ws add v j)
noncomputable def lawWord (pad : List Int) (k : Nat) : Int := pad.getD k 0 + 256 * pad.getD (k + 1) 0 + 65536 * pad.getD (k + 2) 0 + 16777216 * pad.getD (k + 3) 0
noncomputable def lawWords (pad : List Int) (i m : Nat) : List Int := (List.range m).map fun j => lawWord pad (64 * i + 4 * j)
noncomputable def lawDig (pad add : List Int) : Nat → Four
  | 0 => v0
  | i + 1 => fourSum (lawDig pad add i) (lawAt (lawWords pad i 16) add (lawDig pad add i) 64)
theorem lawWords_succ (pad : List Int) (i j : Nat) : lawWords pad i (j + 1) = lawWords pad i j ++ [lawWord pad (64 * i + 4 * j)] := by simp [lawWords, List.range_succ]
theorem word_eq (pad : List Int) (i j : Nat) : pad.getD ((i : Int) * 64 + j * 4).toNat 0 + 256 * pad.getD ((i : Int) * 64 + j * 4 + 1).toNat 0 + 65536 * pad.getD ((i : Int) * 64 + j * 4 + 2).toNat 0 + 16777216 * pad.getD ((i : Int) * 64 + j * 4 + 3).toNat 0 = lawWord pad (64 * i + 4 * j) := by
  unfold lawWord
  rw [show ((i : Int) * 64 + j * 4).toNat = 64 * i + 4 * j by omega, show ((i : Int) * 64 + j * 4 + 1).toNat = 64 * i + 4 * j + 1 by omega, show ((i : Int) * 64 + j * 4 + 2).toNat = 64 * i + 4 * j + 2 by omega, show ((i : Int) * 64 + j * 4 + 3).toNat = 64 * i + 4 * j + 3 by omega]
end Md
namespace Md
structure W32 (x : Int) : Prop where
  lo : 0 ≤ x
  hi : x < 4294967296
theorem W32.fmod (x : Int) : W32 (x.fmod 4294967296) := ⟨Int.fmod_nonneg_of_pos _ (by decide), Int.fmod_lt_of_pos _ (by decide)⟩
noncomputable def F32 (v : Four) : Prop := W32 v.1 ∧ W32 v.2.1 ∧ W32 v.2.2.1 ∧ W32 v.2.2.2
theorem v0_32 : F32 v0 := ⟨⟨by decide, by decide⟩, ⟨by decide, by decide⟩, ⟨by decide, by decide⟩, ⟨by decide, by decide⟩⟩
theorem fourSum_32 (v q : Four) : F32 (fourSum v q) := ⟨.fmod _, .fmod _, .fmod _, .fmod _⟩
theorem lap_facts : ∀ j, j < 64 → (((j : Nat) : Int).fdiv 16 = ((j / 16 : Nat) : Int)) := by
  intro j _
  rw [Int.fdiv_eq_ediv_of_nonneg _ (by decide)]
  simp
theorem spot_eq : ∀ j, j < 64 → wordAt (((j : Nat) : Int).fdiv 16) ((j : Nat) : Int) = lawSpot ((j : Nat) : Int) := by decide +kernel
theorem turn_eq : ∀ j, j < 64 → turnAt (((j : Nat) : Int).fdiv 16) ((j : Nat) : Int) = lawTurn ((j : Nat) : Int) ∧ 0 ≤ lawTurn ((j : Nat) : Int) ∧ lawTurn ((j : Nat) : Int) ≤ 32 := by decide +kernel
theorem blend_eq {j : Nat} (hj : j < 64) {b c d : Int} (hb : W32 b) (hc : W32 c) (hd : W32 d) : mixedV (((j : Nat) : Int).fdiv 16) b c d = lawBlend ((j : Nat) : Int) b c d := by
  rw [lap_facts j hj]
  unfold mixedV lawBlend
  have k1 := and_not hb.lo hb.hi hc.lo hd.lo
  have k2 := and_not hd.lo hd.hi hb.lo hc.lo
  by_cases h1 : j < 16
  · rw [if_pos (show ((j / 16 : Nat) : Int) = 0 by omega), if_pos (show ((j : Nat) : Int) < 16 by omega), show (4294967296 - 1 - b : Int) = 4294967295 - b by omega, bitOr_and, k1]
    omega
  · rw [if_neg (show ¬ ((j / 16 : Nat) : Int) = 0 by omega), if_neg (show ¬ ((j : Nat) : Int) < 16 by omega)]
    by_cases h2 : j < 32
    · rw [if_pos (show ((j / 16 : Nat) : Int) = 1 by omega), if_pos (show ((j : Nat) : Int) < 32 by omega), show (4294967296 - 1 - d : Int) = 4294967295 - d by omega, bitOr_and, bitAnd_comm b d, bitAnd_comm c, k2]
      omega
    · rw [if_neg (show ¬ ((j / 16 : Nat) : Int) = 1 by omega), if_neg (show ¬ ((j : Nat) : Int) < 32 by omega)]
      by_cases h3 : j < 48
      · rw [if_pos (show ((j / 16 : Nat) : Int) = 2 by omega), if_pos (show ((j : Nat) : Int) < 48 by omega), bitXor_and, bitXor_and]
      · rw [if_neg (show ¬ ((j / 16 : Nat) : Int) = 2 by omega), if_neg (show ¬ ((j : Nat) : Int) < 48 by omega), show (4294967296 - 1 - d : Int) = 4294967295 - d by omega, bitXor_and, bitAnd_comm c]
        omega
theorem newB_eq {j : Nat} (hj : j < 64) {a b c d : Int} (hb : W32 b) (hc : W32 c) (hd : W32 d) (ws add : List Int) : newB a b c d ws j (add.getD j 0) = lawB a b c d ws j add := by
  have ht := turn_eq j hj
  unfold newB lawB lawUp
  have e : totalV a b c d ws j (add.getD j 0) = lawTotal a b c d ws j add := by
    unfold totalV lawTotal
    rw [blend_eq hj hb hc hd, spot_eq j hj, Int.toNat_natCast]
  have ew : W32 (lawTotal a b c d ws j add) := .fmod _
  rw [e, ht.1]
  unfold rotV
  generalize lawTotal a b c d ws j add = x at ew ⊢
  rw [show (4294967296 - 1 : Int) = 4294967295 from rfl, show (32 - lawTurn (j : Int)).toNat = 32 - (lawTurn (j : Int)).toNat by omega, rot_sum ew.lo ew.hi (by omega), Int.add_assoc]
theorem next_32 {ws add : List Int} {j : Nat} {q : Four} (h : F32 q) : F32 (lawNext ws add j q) := ⟨h.2.2.2, .fmod _, h.2.1, h.2.2.1⟩
theorem at_eq (ws add : List Int) {v : Four} (hv : F32 v) : ∀ j, j ≤ 64 → fourAt ws add v j = lawAt ws add v j ∧ F32 (lawAt ws add v j)
  | 0, _ => ⟨rfl, hv⟩
  | j + 1, hj => by
    obtain ⟨e, h⟩ := at_eq ws add hv j (by omega)
    refine ⟨?_, next_32 h⟩
    show fourNext ws add j (fourAt ws add v j) = lawNext ws add j (lawAt ws add v j)
    rw [e]
    unfold fourNext lawNext
    rw [newB_eq (by omega) h.2.1 h.2.2.1 h.2.2.2]
theorem getD_cut (l : List Int) (a n k : Nat) (h : k < n) : (List.take n (List.drop a l)).getD k 0 = l.getD (a + k) 0 := by
  rw [List.getD_eq_getElem?_getD, List.getD_eq_getElem?_getD, List.getElem?_take_of_lt h, List.getElem?_drop]
theorem word_in_eq (pad : List Int) {i k : Nat} (hk : k < 16) : wordIn (List.take ((4 * (k : Int) + 4).toNat - (4 * (k : Int)).toNat) (List.drop (4 * (k : Int)).toNat (blockAt pad i))) = lawWord pad (64 * i + 4 * k) := by
  unfold wordIn lawWord blockAt
  rw [show (4 * (k : Int) + 4).toNat - (4 * (k : Int)).toNat = 4 by omega, show (4 * (k : Int)).toNat = 4 * k by omega, show ((i : Int) * 64 + 64).toNat - ((i : Int) * 64).toNat = 64 by omega, show ((i : Int) * 64).toNat = 64 * i by omega]
  rw [getD_cut _ _ _ _ (by omega), getD_cut _ _ _ _ (by omega), getD_cut _ _ _ _ (by omega), getD_cut _ _ _ _ (by omega),
    getD_cut _ _ _ _ (by omega), getD_cut _ _ _ _ (by omega), getD_cut _ _ _ _ (by omega), getD_cut _ _ _ _ (by omega)]
  simp only [Nat.add_zero, Nat.add_assoc]
  omega
theorem words_eq (pad : List Int) (i : Nat) : wordsV (blockAt pad i) = lawWords pad i 16 := by
  unfold wordsV lawWords rangeKs
  rw [List.map_map]
  refine List.map_congr_left fun k hk => ?_
  have hk' : k < 16 := by simpa using hk
  show wordIn _ = _
  simp only [Int.zero_add]
  exact word_in_eq pad hk'
theorem dig_eq (pad add : List Int) : ∀ n, digAt pad add n = lawDig pad add n ∧ F32 (lawDig pad add n)
  | 0 => ⟨rfl, v0_32⟩
  | n + 1 => by
    obtain ⟨e, h⟩ := dig_eq pad add n
    refine ⟨?_, fourSum_32 _ _⟩
    show blockV (digAt pad add n) (blockAt pad n) add = fourSum _ _
    rw [e]
    unfold blockV
    rw [words_eq, (at_eq _ _ h 64 (Nat.le_refl _)).1]
noncomputable def lawAdd : List Int := [3614090360, 3905402710, 606105819, 3250441966, 4118548399, 1200080426, 2821735955, 4249261313, 1770035416, 2336552879, 4294925233, 2304563134, 1804603682, 4254626195, 2792965006, 1236535329, 4129170786, 3225465664, 643717713, 3921069994, 3593408605, 38016083, 3634488961, 3889429448, 568446438, 3275163606, 4107603335, 1163531501, 2850285829, 4243563512, 1735328473, 2368359562, 4294588738, 2272392833, 1839030562, 4259657740, 2763975236, 1272893353, 4139469664, 3200236656, 681279174, 3936430074, 3572445317, 76029189, 3654602809, 3873151461, 530742520, 3299628645, 4096336452, 1126891415, 2878612391, 4237533241, 1700485571, 2399980690, 4293915773, 2240044497, 1873313359, 4264355552, 2734768916, 1309151649, 4149444226, 3174756917, 718787259, 3951481745]
theorem add_eq : addAt 64 = lawAdd := by decide +kernel
end Md
namespace Md
theorem small_len : ∀ n : Nat, n < 131 → Builtin.Range.small 0 (n : Int) 1 = true := by decide +kernel
theorem size_len : ∀ n : Nat, n < 131 → Builtin.Range.rangeSize 0 (n : Int) 1 = (n : Int) := by decide +kernel
theorem menu_cases {e : Int} {k : Nat} (h0 : 0 ≤ e) (h1 : e < k) : ∃ i, i < k ∧ e.toNat = i := ⟨e.toNat, by omega, rfl⟩
theorem len_menu {d e : Int} (d0 : 0 ≤ d) (d1 : d < 131) (h0 : 0 ≤ e) (h1 : e < 8) : ∃ n : Nat, n < 131 ∧ [d, 55, 56, 63, 64, 119, 120, 0].getD e.toNat 0 = (n : Int) := by
  obtain ⟨i, hi, e1⟩ := menu_cases (k := 8) h0 h1
  rw [e1]
  match i, hi with
  | 0, _ => exact ⟨d.toNat, by omega, (Int.toNat_of_nonneg d0).symm⟩
  | 1, _ => exact ⟨55, by decide, rfl⟩
  | 2, _ => exact ⟨56, by decide, rfl⟩
  | 3, _ => exact ⟨63, by decide, rfl⟩
  | 4, _ => exact ⟨64, by decide, rfl⟩
  | 5, _ => exact ⟨119, by decide, rfl⟩
  | 6, _ => exact ⟨120, by decide, rfl⟩
  | 7, _ => exact ⟨0, by decide, rfl⟩
noncomputable def Oct (k : Int) : Prop := 0 ≤ k ∧ k < 256
theorem oct_menu {x y e : Int} (x0 : 0 ≤ x) (x1 : x < 256) (y0 : 0 ≤ y) (y1 : y < 256) (h0 : 0 ≤ e) (h1 : e < 6) : Oct ([0, 255, 128, 97, x, y].getD e.toNat 0) := by
  obtain ⟨i, hi, e1⟩ := menu_cases (k := 6) h0 h1
  rw [e1]
  match i, hi with
  | 0, _ => exact (⟨by decide, by decide⟩ : Oct 0)
  | 1, _ => exact (⟨by decide, by decide⟩ : Oct 255)
  | 2, _ => exact (⟨by decide, by decide⟩ : Oct 128)
  | 3, _ => exact (⟨by decide, by decide⟩ : Oct 97)
  | 4, _ => exact ⟨x0, x1⟩
  | 5, _ => exact ⟨y0, y1⟩
/-- the pen's list -/
noncomputable def PenO (i : Nat) (o : Obj) : Prop := ∃ (num cnt : Int) (v1 v2 : Tok) (ep : Nat), o = listOf [Value.int num v1, .int cnt v2].toArray ep ∧ 0 ≤ num ∧ BigB num ∧ 0 ≤ cnt ∧ cnt ≤ 4 + (i : Int)
section
variable {prog : Program} {w : World} {A : Around} {h₀ : Heap} {L : Addr} {m : Str → Option Value} {env : Env} {elt : PySem.Expr} {x : Str} {scope : Scope} {cl : List (Str × Addr)} {s : Shared} {S : List (Addr × Obj) → Prop} {P : Nat → Value → Prop} {Fin : List Value → List (Addr × Obj) → Prop}
theorem draws_rest {n : Nat} (g : Obj → List (Addr × Obj)) (Pen : Nat → Obj → Prop) (R : Int → Prop) {o₀ : Obj} (hp : Pen 0 o₀)
    (turn : ∀ i o I oI C oC D m₂ ys h tk (E' : Value → Shared → Prop), i < n → Pen i o → LCg.NsObj oC m₂ → Fr h₀ L h m → News h₀ L h ((I, oI) :: (C, oC) :: (D, LCg.lst ys) :: g o) → LCg.Off3 I C D (g o) → ((@Ne Nat I C) ∧ (@Ne Nat I D) ∧ (@Ne Nat C D)) →
      wpAny (model prog w) A (eval elt (compEnvC scope cl C env)) (LCg.CompEnd h₀ L m { s with heap := h, toks := tk } I oI C oC D (LCg.lst ys) S (fun y news' => ∃ o' k t, news' = g o' ∧ Pen (i + 1) o' ∧ R k ∧ y = .int k t)) E' { s with heap := h, toks := tk })
    (fin : ∀ ys ks o, IntsAre ys ks → ks.length = n → (∀ k ∈ ks, R k) → Pen n o → Fin ys (g o)) :
    LCg.CompRest prog w A h₀ L m env elt x scope cl s S P Fin n 0 [] (g o₀) := by
  have key : ∀ (j i : Nat) (ys : List Value) (ks : List Int) (o : Obj), i + j = n → IntsAre ys ks → ks.length = i → (∀ k ∈ ks, R k) → Pen i o → LCg.CompRest prog w A h₀ L m env elt x scope cl s S P Fin j i ys (g o) := by
    intro j
    induction j with
    | zero =>
      intro i ys ks o hi hy hk hr hpo
      exact LCg.CompRest.zero (fin ys ks o hy (by omega) hr (by rw [← hi]; exact hpo))
    | succ j ih =>
      intro i ys ks o hi hy hk hr hpo
      refine LCg.CompRest.succ ?_
      intro v I oI C oC D m₂ h tk E' hv hC hx F N off ne
      refine wpAny_mono (turn i o I oI C oC D m₂ ys h tk E' (by omega) hpo hC F N off ne) (fun y s₂ hq => ?_) fun _ _ e => e
      obtain ⟨h', tk', nw, e, F', N', off', hS, o', k, t, hn, hpo', hrk, hy'⟩ := hq
      rw [hn] at N' off' hS
      refine ⟨h', tk', g o', e, F', N', off', hS, ?_⟩
      rw [hy']
      exact ih (i + 1) _ (ks ++ [k]) o' (by omega) (IntsAre.append hy (.cons k t .nil)) (by simp [hk]) (fun z hz => by
        rcases List.mem_append.mp hz with h | h
        · exact hr z h
        · rw [List.mem_singleton.mp h]; exact hrk) hpo'
  exact key n 0 [] [] o₀ (by omega) .nil rfl (fun _ h => nomatch h) hp
theorem draws_rest5 {n : Nat} (Pen : Nat → Obj → Prop) (R : Int → Prop) {o₀ : Obj} {a b d e : Addr × Obj} {c : Addr} (hp : Pen 0 o₀)
    (turn : ∀ i o I oI C oC D m₂ ys h tk (E' : Value → Shared → Prop), i < n → Pen i o → LCg.NsObj oC m₂ → Fr h₀ L h m → News h₀ L h [(I, oI), (C, oC), (D, LCg.lst ys), a, b, (c, o), d, e] → LCg.Off3 I C D [a, b, (c, o), d, e] → ((@Ne Nat I C) ∧ (@Ne Nat I D) ∧ (@Ne Nat C D)) →
      wpAny (model prog w) A (eval elt (compEnvC scope cl C env)) (LCg.CompEnd h₀ L m { s with heap := h, toks := tk } I oI C oC D (LCg.lst ys) S (fun y news' => ∃ o' k t, news' = [a, b, (c, o'), d, e] ∧ Pen (i + 1) o' ∧ R k ∧ y = .int k t)) E' { s with heap := h, toks := tk })
    (fin : ∀ ys ks o, IntsAre ys ks → ks.length = n → (∀ k ∈ ks, R k) → Pen n o → Fin ys [a, b, (c, o), d, e]) :
    LCg.CompRest prog w A h₀ L m env elt x scope cl s S P Fin n 0 [] [a, b, (c, o₀), d, e] :=
  draws_rest (fun o => [a, b, (c, o), d, e]) Pen R hp turn fin
theorem strs_rest {ws : List Str} {ns : List Int} {news : List (Addr × Obj)} {n : Nat} (hn : ns.length = n) (hP : ∀ i v, i < n → P i v → ∃ (y : Str) (t : Tok), ws[i]? = some y ∧ v = .str y t) (Rd : Str → Int → Prop) (hR : ∀ (i : Nat) (y : Str), ws[i]? = some y → ∃ k, ns[i]? = some k ∧ Rd y k)
    (turn : ∀ y k t I oI C oC D m₂ ys h tk (E' : Value → Shared → Prop), Rd y k → LCg.NsObj oC m₂ → m₂ x = some (.str y t) → Fr h₀ L h m → News h₀ L h ((I, oI) :: (C, oC) :: (D, LCg.lst ys) :: news) → LCg.Off3 I C D news → ((@Ne Nat I C) ∧ (@Ne Nat I D) ∧ (@Ne Nat C D)) →
      wpAny (model prog w) A (eval elt (compEnvC scope cl C env)) (LCg.CompEnd h₀ L m { s with heap := h, toks := tk } I oI C oC D (LCg.lst ys) S (fun y news' => KCfEl news k y news')) E' { s with heap := h, toks := tk })
    (fin : ∀ ys, IntsAre ys ns → Fin ys news) :
    LCg.CompRest prog w A h₀ L m env elt x scope cl s S P Fin n 0 [] news := by
  have key : ∀ (j i : Nat) (ys : List Value), i + j = n → IntsAre ys (ns.take i) → LCg.CompRest prog w A h₀ L m env elt x scope cl s S P Fin j i ys news := by
    intro j
    induction j with
    | zero =>
      intro i ys hi hy
      have e : i = ns.length := by omega
      subst e
      rw [List.take_length] at hy
      exact LCg.CompRest.zero (fin ys hy)
    | succ j ih =>
      intro i ys hi hy
      refine LCg.CompRest.succ ?_
      intro v I oI C oC D m₂ h tk E' hv hC hx F N off ne
      obtain ⟨y, t, hy1, hv'⟩ := hP i v (by omega) hv
      obtain ⟨k, hk, hrd⟩ := hR i y hy1
      rw [hv'] at hx
      refine wpAny_mono (turn y k t I oI C oC D m₂ ys h tk E' hrd hC hx F N off ne) (fun y s₂ hq => ?_) fun _ _ e => e
      obtain ⟨h', tk', nw, e, F', N', off', hS, hn', t', hy'⟩ := hq
      rw [hn'] at N' off' hS
      refine ⟨h', tk', news, e, F', N', off', hS, ?_⟩
      rw [hy']
      refine ih (i + 1) _ (by omega) ?_
      rw [List.take_add_one, hk]
      exact IntsAre.append hy (.cons k t' .nil)
  exact key n 0 [] (by omega) (by simp only [List.take_zero]; exact .nil)
end
theorem strs_at {l : List (Str × Tok)} {ws : List Str} (he : l.map (·.1) = ws) (i : Nat) (v : Value) (hv : (strValues l).toArray[i]? = some v) : ∃ (y : Str) (t : Tok), ws[i]? = some y ∧ v = .str y t := by
  subst he
  simp only [strValues, List.getElem?_toArray, List.getElem?_map] at hv ⊢
  cases h : l[i]? with
  | none => rw [h] at hv; cases hv
  | some p =>
    rw [h] at hv
    simp only [Option.map_some, Option.some.injEq] at hv
    exact ⟨p.1, p.2, rfl, hv.symm⟩
theorem strs_size {l : List (Str × Tok)} {ws : List Str} (he : l.map (·.1) = ws) : (strValues l).toArray.size = ws.length := by
  subst he; simp [strValues]
/-- the written table's words -/
noncomputable def hexC (d : Nat) : Nat := if d < 10 then 48 + d else 87 + d
noncomputable def hexS (n : Nat) : Str := ⟨#[hexC (n / 268435456 % 16), hexC (n / 16777216 % 16), hexC (n / 1048576 % 16), hexC (n / 65536 % 16), hexC (n / 4096 % 16), hexC (n / 256 % 16), hexC (n / 16 % 16), hexC (n % 16)]⟩
noncomputable def lawWs : List Str := lawAdd.map fun k => hexS k.toNat
theorem reads_all : (lawWs.zip lawAdd).all (fun p => ok16 p.1 p.2.toNat && decide (0 ≤ p.2)) = true := by decide +kernel
theorem lawWs_length : lawWs.length = 64 := by rfl
theorem lawAdd_length : lawAdd.length = 64 := by rfl
theorem reads_at (i : Nat) (y : Str) (h : lawWs[i]? = some y) : ∃ k, lawAdd[i]? = some k ∧ Reads16 y k := by
  have hi : i < 64 := by
    have := (List.getElem?_eq_some_iff.mp h).1
    rw [lawWs_length] at this; exact this
  have hk : lawAdd[i]? = some (lawAdd[i]'(by rw [lawAdd_length]; exact hi)) := List.getElem?_eq_getElem _
  refine ⟨_, hk, ?_⟩
  generalize lawAdd[i]'(by rw [lawAdd_length]; exact hi) = k at hk
  have hm : (y, k) ∈ lawWs.zip lawAdd := List.mem_of_getElem? (i := i) (by rw [List.getElem?_zip_eq_some]; exact ⟨h, hk⟩)
  have := List.all_eq_true.mp reads_all _ hm
  simp only [Bool.and_eq_true, decide_eq_true_eq] at this
  have e := Reads16.of this.1
  rw [Int.toNat_of_nonneg this.2] at e
  exact e
end Md
namespace Md
noncomputable def joinN (c : Nat) : List (List Nat) → List Nat
  | [] => []
  | [p] => p
  | p :: q :: r => p ++ c :: joinN c (q :: r)
theorem cut_eq {c : Nat} : ∀ {p q u v : List Nat}, c ∉ p → c ∉ q → p ++ c :: u = q ++ c :: v → p = q ∧ u = v
  | [], [], u, v, _, _, h => ⟨rfl, (List.cons.inj h).2⟩
  | [], b :: q, u, v, _, hq, h => absurd (List.cons.inj h).1 fun e => hq (e ▸ .head _)
  | a :: p, [], u, v, hp, _, h => absurd (List.cons.inj h).1 fun e => hp (e ▸ .head _)
  | a :: p, b :: q, u, v, hp, hq, h => by
    have h1 := List.cons.inj h
    have h2 := cut_eq (fun m => hp (.tail _ m)) (fun m => hq (.tail _ m)) h1.2
    exact ⟨by rw [h1.1, h2.1], h2.2⟩
theorem no_cut {c : Nat} {p q u : List Nat} (hp : c ∉ p) (h : p = q ++ c :: u) : False := hp (h ▸ List.mem_append.mpr (.inr (.head _)))
theorem joinN_inj {c : Nat} : ∀ {A B : List (List Nat)}, A ≠ [] → B ≠ [] → (∀ p ∈ A, c ∉ p) → (∀ p ∈ B, c ∉ p) → joinN c A = joinN c B → A = B
  | [], _, h, _, _, _, _ => absurd rfl h
  | _, [], _, h, _, _, _ => absurd rfl h
  | [p], [q], _, _, _, _, h => by rw [show p = q from h]
  | [p], q :: q2 :: r, _, _, hA, _, h => (no_cut (hA p (.head _)) h).elim
  | p :: p2 :: r, [q], _, _, _, hB, h => (no_cut (hB q (.head _)) h.symm).elim
  | p :: p2 :: r, q :: q2 :: r2, _, _, hA, hB, h => by
    have h1 := cut_eq (hA p (.head _)) (hB q (.head _)) h
    have h2 := joinN_inj (A := p2 :: r) (B := q2 :: r2) (by simp) (by simp) (fun z hz => hA z (.tail _ hz)) (fun z hz => hB z (.tail _ hz)) h1.2
    rw [h1.1, h2]
theorem join_list (c : Nat) : ∀ l : List Str, (Str.join ⟨#[c]⟩ l).cps.toList = joinN c (l.map fun p => p.cps.toList)
  | [] => rfl
  | [p] => rfl
  | p :: q :: r => by
    have ih := join_list c (q :: r)
    show ((p ++ ⟨#[c]⟩ ++ Str.join ⟨#[c]⟩ (q :: r) : Str)).cps.toList = p.cps.toList ++ c :: joinN c ((q :: r).map fun p => p.cps.toList)
    rw [← ih]
    show ((p.cps ++ #[c]) ++ (Str.join ⟨#[c]⟩ (q :: r)).cps).toList = _
    simp
theorem split_unique {x : Str} {c : Nat} {l : List Str} (hl : l ≠ []) (hx : x.cps.toList ≠ []) (hf : ∀ p ∈ l, c ∉ p.cps.toList) (hj : joinN c (l.map fun p => p.cps.toList) = x.cps.toList) : Txt.split x ⟨#[c]⟩ = l := by
  have h1 := StrLaws.join_split x ⟨#[c]⟩
  have h2 := StrLaws.split_free x c
  have h3 : joinN c ((Txt.split x ⟨#[c]⟩).map fun p => p.cps.toList) = joinN c (l.map fun p => p.cps.toList) := by rw [← join_list, h1, hj]
  have h4 : Txt.split x ⟨#[c]⟩ ≠ [] := by
    intro e
    rw [e] at h1
    apply hx
    rw [← h1]
    rfl
  have h5 := joinN_inj (by simpa using h4) (by simpa using hl) (by
    intro p hp
    obtain ⟨q, hq, rfl⟩ := List.mem_map.mp hp
    exact h2 q hq) (by
    intro p hp
    obtain ⟨q, hq, rfl⟩ := List.mem_map.mp hp
    exact hf q hq) h3
  have inj : ∀ (a b : List Str), (a.map fun p => p.cps.toList) = (b.map fun p => p.cps.toList) → a = b := by
    intro a
    induction a with
    | nil => intro b h; cases b with | nil => rfl | cons _ _ => cases h
    | cons p a ih =>
      intro b h
      cases b with
      | nil => cases h
      | cons q b =>
        have e := List.cons.inj h
        have e2 : p = q := by
          obtain ⟨⟨p⟩⟩ := p
          obtain ⟨⟨q⟩⟩ := q
          have e3 : p = q := e.1
          rw [e3]
        rw [e2, ih b e.2]
  exact inj _ _ h5
theorem lawWs_free : ∀ p ∈ lawWs, (32 : Nat) ∉ p.cps.toList := by
  have h : lawWs.all (fun p => p.cps.toList.all (fun k => k != 32)) = true := by decide +kernel
  intro p hp hm
  have h1 := List.all_eq_true.mp (List.all_eq_true.mp h p hp) 32 hm
  exact absurd h1 (by decide)
theorem table_split {x : Str} (h : joinN 32 (lawWs.map fun p => p.cps.toList) = x.cps.toList) : Txt.split x (Str.ofString " ") = lawWs := split_unique (c := 32) (by decide) (by rw [← h]; decide) lawWs_free h
noncomputable def lawChars : List Char := [Char.ofNat 100,Char.ofNat 55,Char.ofNat 54,Char.ofNat 97,Char.ofNat 97,Char.ofNat 52,Char.ofNat 55,Char.ofNat 56,Char.ofNat 32,Char.ofNat 101,Char.ofNat 56,Char.ofNat 99,Char.ofNat 55,Char.ofNat 98,Char.ofNat 55,Char.ofNat 53,Char.ofNat 54,Char.ofNat 32,Char.ofNat 50,Char.ofNat 52,Char.ofNat 50,Char.ofNat 48,Char.ofNat 55,Char.ofNat 48,Char.ofNat 100,Char.ofNat 98,Char.ofNat 32,Char.ofNat 99,Char.ofNat 49,Char.ofNat 98,Char.ofNat 100,Char.ofNat 99,Char.ofNat 101,Char.ofNat 101,Char.ofNat 101,Char.ofNat 32,Char.ofNat 102,Char.ofNat 53,Char.ofNat 55,Char.ofNat 99,Char.ofNat 48,Char.ofNat 102,Char.ofNat 97,Char.ofNat 102,Char.ofNat 32,Char.ofNat 52,Char.ofNat 55,Char.ofNat 56,Char.ofNat 55,Char.ofNat 99,Char.ofNat 54,Char.ofNat 50,Char.ofNat 97,Char.ofNat 32,Char.ofNat 97,Char.ofNat 56,Char.ofNat 51,Char.ofNat 48,Char.ofNat 52,Char.ofNat 54,Char.ofNat 49,Char.ofNat 51,Char.ofNat 32,Char.ofNat 102,Char.ofNat 100,Char.ofNat 52,Char.ofNat 54,Char.ofNat 57,Char.ofNat 53,Char.ofNat 48,Char.ofNat 49,Char.ofNat 32,Char.ofNat 54,Char.ofNat 57,Char.ofNat 56,Char.ofNat 48,Char.ofNat 57,Char.ofNat 56,Char.ofNat 100,Char.ofNat 56,Char.ofNat 32,Char.ofNat 56,Char.ofNat 98,Char.ofNat 52,Char.ofNat 52,Char.ofNat 102,Char.ofNat 55,Char.ofNat 97,Char.ofNat 102,Char.ofNat 32,Char.ofNat 102,Char.ofNat 102,Char.ofNat 102,Char.ofNat 102,Char.ofNat 53,Char.ofNat 98,Char.ofNat 98,Char.ofNat 49,Char.ofNat 32,Char.ofNat 56,Char.ofNat 57,Char.ofNat 53,Char.ofNat 99,Char.ofNat 100,Char.ofNat 55,Char.ofNat 98,Char.ofNat 101,Char.ofNat 32,Char.ofNat 54,Char.ofNat 98,Char.ofNat 57,Char.ofNat 48,Char.ofNat 49,Char.ofNat 49,Char.ofNat 50,Char.ofNat 50,Char.ofNat 32,Char.ofNat 102,Char.ofNat 100,Char.ofNat 57,Char.ofNat 56,Char.ofNat 55,Char.ofNat 49,Char.ofNat 57,Char.ofNat 51,Char.ofNat 32,Char.ofNat 97,Char.ofNat 54,Char.ofNat 55,Char.ofNat 57,Char.ofNat 52,Char.ofNat 51,Char.ofNat 56,Char.ofNat 101,Char.ofNat 32,Char.ofNat 52,Char.ofNat 57,Char.ofNat 98,Char.ofNat 52,Char.ofNat 48,Char.ofNat 56,Char.ofNat 50,Char.ofNat 49,Char.ofNat 32,Char.ofNat 102,Char.ofNat 54,Char.ofNat 49,Char.ofNat 101,Char.ofNat 50,Char.ofNat 53,Char.ofNat 54,Char.ofNat 50,Char.ofNat 32,Char.ofNat 99,Char.ofNat 48,Char.ofNat 52,Char.ofNat 48,Char.ofNat 98,Char.ofNat 51,Char.ofNat 52,Char.ofNat 48,Char.ofNat 32,Char.ofNat 50,Char.ofNat 54,Char.ofNat 53,Char.ofNat 101,Char.ofNat 53,Char.ofNat 97,Char.ofNat 53,Char.ofNat 49,Char.ofNat 32,Char.ofNat 101,Char.ofNat 57,Char.ofNat 98,Char.ofNat 54,Char.ofNat 99,Char.ofNat 55,Char.ofNat 97,Char.ofNat 97,Char.ofNat 32,Char.ofNat 100,Char.ofNat 54,Char.ofNat 50,Char.ofNat 102,Char.ofNat 49,Char.ofNat 48,Char.ofNat 53,Char.ofNat 100,Char.ofNat 32,Char.ofNat 48,Char.ofNat 50,Char.ofNat 52,Char.ofNat 52,Char.ofNat 49,Char.ofNat 52,Char.ofNat 53,Char.ofNat 51,Char.ofNat 32,Char.ofNat 100,Char.ofNat 56,Char.ofNat 97,Char.ofNat 49,Char.ofNat 101,Char.ofNat 54,Char.ofNat 56,Char.ofNat 49,Char.ofNat 32,Char.ofNat 101,Char.ofNat 55,Char.ofNat 100,Char.ofNat 51,Char.ofNat 102,Char.ofNat 98,Char.ofNat 99,Char.ofNat 56,Char.ofNat 32,Char.ofNat 50,Char.ofNat 49,Char.ofNat 101,Char.ofNat 49,Char.ofNat 99,Char.ofNat 100,Char.ofNat 101,Char.ofNat 54,Char.ofNat 32,Char.ofNat 99,Char.ofNat 51,Char.ofNat 51,Char.ofNat 55,Char.ofNat 48,Char.ofNat 55,Char.ofNat 100,Char.ofNat 54,Char.ofNat 32,Char.ofNat 102,Char.ofNat 52,Char.ofNat 100,Char.ofNat 53,Char.ofNat 48,Char.ofNat 100,Char.ofNat 56,Char.ofNat 55,Char.ofNat 32,Char.ofNat 52,Char.ofNat 53,Char.ofNat 53,Char.ofNat 97,Char.ofNat 49,Char.ofNat 52,Char.ofNat 101,Char.ofNat 100,Char.ofNat 32,Char.ofNat 97,Char.ofNat 57,Char.ofNat 101,Char.ofNat 51,Char.ofNat 101,Char.ofNat 57,Char.ofNat 48,Char.ofNat 53,Char.ofNat 32,Char.ofNat 102,Char.ofNat 99,Char.ofNat 101,Char.ofNat 102,Char.ofNat 97,Char.ofNat 51,Char.ofNat 102,Char.ofNat 56,Char.ofNat 32,Char.ofNat 54,Char.ofNat 55,Char.ofNat 54,Char.ofNat 102,Char.ofNat 48,Char.ofNat 50,Char.ofNat 100,Char.ofNat 57,Char.ofNat 32,Char.ofNat 56,Char.ofNat 100,Char.ofNat 50,Char.ofNat 97,Char.ofNat 52,Char.ofNat 99,Char.ofNat 56,Char.ofNat 97,Char.ofNat 32,Char.ofNat 102,Char.ofNat 102,Char.ofNat 102,Char.ofNat 97,Char.ofNat 51,Char.ofNat 57,Char.ofNat 52,Char.ofNat 50,Char.ofNat 32,Char.ofNat 56,Char.ofNat 55,Char.ofNat 55,Char.ofNat 49,Char.ofNat 102,Char.ofNat 54,Char.ofNat 56,Char.ofNat 49,Char.ofNat 32,Char.ofNat 54,Char.ofNat 100,Char.ofNat 57,Char.ofNat 100,Char.ofNat 54,Char.ofNat 49,Char.ofNat 50,Char.ofNat 50,Char.ofNat 32,Char.ofNat 102,Char.ofNat 100,Char.ofNat 101,Char.ofNat 53,Char.ofNat 51,Char.ofNat 56,Char.ofNat 48,Char.ofNat 99,Char.ofNat 32,Char.ofNat 97,Char.ofNat 52,Char.ofNat 98,Char.ofNat 101,Char.ofNat 101,Char.ofNat 97,Char.ofNat 52,Char.ofNat 52,Char.ofNat 32,Char.ofNat 52,Char.ofNat 98,Char.ofNat 100,Char.ofNat 101,Char.ofNat 99,Char.ofNat 102,Char.ofNat 97,Char.ofNat 57,Char.ofNat 32,Char.ofNat 102,Char.ofNat 54,Char.ofNat 98,Char.ofNat 98,Char.ofNat 52,Char.ofNat 98,Char.ofNat 54,Char.ofNat 48,Char.ofNat 32,Char.ofNat 98,Char.ofNat 101,Char.ofNat 98,Char.ofNat 102,Char.ofNat 98,Char.ofNat 99,Char.ofNat 55,Char.ofNat 48,Char.ofNat 32,Char.ofNat 50,Char.ofNat 56,Char.ofNat 57,Char.ofNat 98,Char.ofNat 55,Char.ofNat 101,Char.ofNat 99,Char.ofNat 54,Char.ofNat 32,Char.ofNat 101,Char.ofNat 97,Char.ofNat 97,Char.ofNat 49,Char.ofNat 50,Char.ofNat 55,Char.ofNat 102,Char.ofNat 97,Char.ofNat 32,Char.ofNat 100,Char.ofNat 52,Char.ofNat 101,Char.ofNat 102,Char.ofNat 51,Char.ofNat 48,Char.ofNat 56,Char.ofNat 53,Char.ofNat 32,Char.ofNat 48,Char.ofNat 52,Char.ofNat 56,Char.ofNat 56,Char.ofNat 49,Char.ofNat 100,Char.ofNat 48,Char.ofNat 53,Char.ofNat 32,Char.ofNat 100,Char.ofNat 57,Char.ofNat 100,Char.ofNat 52,Char.ofNat 100,Char.ofNat 48,Char.ofNat 51,Char.ofNat 57,Char.ofNat 32,Char.ofNat 101,Char.ofNat 54,Char.ofNat 100,Char.ofNat 98,Char.ofNat 57,Char.ofNat 57,Char.ofNat 101,Char.ofNat 53,Char.ofNat 32,Char.ofNat 49,Char.ofNat 102,Char.ofNat 97,Char.ofNat 50,Char.ofNat 55,Char.ofNat 99,Char.ofNat 102,Char.ofNat 56,Char.ofNat 32,Char.ofNat 99,Char.ofNat 52,Char.ofNat 97,Char.ofNat 99,Char.ofNat 53,Char.ofNat 54,Char.ofNat 54,Char.ofNat 53,Char.ofNat 32,Char.ofNat 102,Char.ofNat 52,Char.ofNat 50,Char.ofNat 57,Char.ofNat 50,Char.ofNat 50,Char.ofNat 52,Char.ofNat 52,Char.ofNat 32,Char.ofNat 52,Char.ofNat 51,Char.ofNat 50,Char.ofNat 97,Char.ofNat 102,Char.ofNat 102,Char.ofNat 57,Char.ofNat 55,Char.ofNat 32,Char.ofNat 97,Char.ofNat 98,Char.ofNat 57,Char.ofNat 52,Char.ofNat 50,Char.ofNat 51,Char.ofNat 97,Char.ofNat 55,Char.ofNat 32,Char.ofNat 102,Char.ofNat 99,Char.ofNat 57,Char.ofNat 51,Char.ofNat 97,Char.ofNat 48,Char.ofNat 51,Char.ofNat 57,Char.ofNat 32,Char.ofNat 54,Char.ofNat 53,Char.ofNat 53,Char.ofNat 98,Char.ofNat 53,Char.ofNat 57,Char.ofNat 99,Char.ofNat 51,Char.ofNat 32,Char.ofNat 56,Char.ofNat 102,Char.ofNat 48,Char.ofNat 99,Char.ofNat 99,Char.ofNat 99,Char.ofNat 57,Char.ofNat 50,Char.ofNat 32,Char.ofNat 102,Char.ofNat 102,Char.ofNat 101,Char.ofNat 102,Char.ofNat 102,Char.ofNat 52,Char.ofNat 55,Char.ofNat 100,Char.ofNat 32,Char.ofNat 56,Char.ofNat 53,Char.ofNat 56,Char.ofNat 52,Char.ofNat 53,Char.ofNat 100,Char.ofNat 100,Char.ofNat 49,Char.ofNat 32,Char.ofNat 54,Char.ofNat 102,Char.ofNat 97,Char.ofNat 56,Char.ofNat 55,Char.ofNat 101,Char.ofNat 52,Char.ofNat 102,Char.ofNat 32,Char.ofNat 102,Char.ofNat 101,Char.ofNat 50,Char.ofNat 99,Char.ofNat 101,Char.ofNat 54,Char.ofNat 101,Char.ofNat 48,Char.ofNat 32,Char.ofNat 97,Char.ofNat 51,Char.ofNat 48,Char.ofNat 49,Char.ofNat 52,Char.ofNat 51,Char.ofNat 49,Char.ofNat 52,Char.ofNat 32,Char.ofNat 52,Char.ofNat 101,Char.ofNat 48,Char.ofNat 56,Char.ofNat 49,Char.ofNat 49,Char.ofNat 97,Char.ofNat 49,Char.ofNat 32,Char.ofNat 102,Char.ofNat 55,Char.ofNat 53,Char.ofNat 51,Char.ofNat 55,Char.ofNat 101,Char.ofNat 56,Char.ofNat 50,Char.ofNat 32,Char.ofNat 98,Char.ofNat 100,Char.ofNat 51,Char.ofNat 97,Char.ofNat 102,Char.ofNat 50,Char.ofNat 51,Char.ofNat 53,Char.ofNat 32,Char.ofNat 50,Char.ofNat 97,Char.ofNat 100,Char.ofNat 55,Char.ofNat 100,Char.ofNat 50,Char.ofNat 98,Char.ofNat 98,Char.ofNat 32,Char.ofNat 101,Char.ofNat 98,Char.ofNat 56,Char.ofNat 54,Char.ofNat 100,Char.ofNat 51,Char.ofNat 57,Char.ofNat 49]
theorem lawChars_cps : joinN 32 (lawWs.map fun p => p.cps.toList) = lawChars.map Char.toNat := by decide +kernel
theorem table_split2 {z : String} (hz : String.ofList lawChars = z) : Txt.split (Str.ofString z) (Str.ofString " ") = lawWs := by
  subst hz
  exact table_split (by rw [Fast.ofString_ofList, List.toList_toArray]; exact lawChars_cps)
end Md
namespace Md
theorem ints_inj {b c : Array UInt8} (h : KBw.bInts b = KBw.bInts c) : b.toList = c.toList := by
  have inj : ∀ l r : List UInt8, (l.map fun c => (c.toNat : Int)) = (r.map fun c => (c.toNat : Int)) → l = r := by
    intro l
    induction l with
    | nil => intro r h; cases r with | nil => rfl | cons _ _ => cases h
    | cons a l ih =>
      intro r h
      cases r with
      | nil => cases h
      | cons d r =>
        have e := List.cons.inj h
        have e1 : a.toNat = d.toNat := Int.ofNat.inj e.1
        rw [UInt8.toNat_inj.mp e1, ih r e.2]
  exact inj _ _ h
theorem due_eq (ks : List Int) : digV ks = fourOut (lawDig (padV ks) lawAdd ((padV ks).length / 64)) := by
  unfold digV
  rw [(dig_eq _ _ _).1, add_eq]
theorem fourOut_length (v : Four) : (fourOut v).length = 16 := by
  unfold fourOut
  simp only [List.length_append, lowV_length]
  rfl
theorem hexV_eq (ks : List Int) : hexV ks = Txt.join (Str.ofString "") (ks.map hexF) := rfl
theorem digV_length (ks : List Int) : (digV ks).length = 16 := fourOut_length _
section
variable {prog : Program} {w : World} {A : Around} {E : Value → Shared → Prop} {s : Shared}
theorem eq_str_same {a b : Str} {t u : Tok} {Q : Value → Shared → Prop} (e : a = b) (h : Q (.bool true) s) : wpAny (model prog w) A (compareOp .Eq (.str a t) (.str b u)) Q E s := by
  subst e
  exact eq_str (by simpa using h)
theorem ne_bytes_same {b c : Array UInt8} {t u : Tok} {ks : List Int} {Q : Value → Shared → Prop} (hb : KBw.bInts b = ks) (hc : KBw.bInts c = ks) (h : Q (.bool false) s) : wpAny (model prog w) A (compareOp .NotEq (.bytes b t) (.bytes c u)) Q E s :=
  ne_bytes (by rw [ints_inj (hb.trans hc.symm)]; simpa using h)
end
section
variable {prog : Program} {w : World} {A : Around} {h₀ : Heap} {L : Addr} {m : Str → Option Value} {env : Env} {elt : PySem.Expr} {x : Str} {scope : Scope} {cl : List (Str × Addr)} {s₁ : Shared} {Fin : Shared → List Value → List (Addr × Obj) → Prop} {news : List (Addr × Obj)}
theorem hex_src {b : Array UInt8} {t : Tok} {ks : List Int} (hb : KBw.bInts b = ks) (hl : ks.length = 16) (hh : A.handled = none) (F : Fr h₀ L s₁.heap m) (N : News h₀ L s₁.heap news)
    (turn : ∀ g k t I oI C oC D m₂ ys h tk (E' : Value → Shared → Prop), 0 ≤ k → k < 256 → LCg.NsObj oC m₂ → m₂ x = some (.int k t) → Fr h₀ L h m → News h₀ L h ((I, oI) :: (C, oC) :: (D, LCg.lst ys) :: news) → LCg.Off3 I C D news → ((@Ne Nat I C) ∧ (@Ne Nat I D) ∧ (@Ne Nat C D)) →
      wpAny (model prog w) A (eval elt (compEnvC scope cl C env)) (LCg.CompEnd h₀ L m { { s₁ with heap := g } with heap := h, toks := tk } I oI C oC D (LCg.lst ys) (fun _ => True) (fun y news' => KCtEl news (hexF k) y news')) E' { { s₁ with heap := g } with heap := h, toks := tk })
    (fin : ∀ g ys, CarriedAll ys (ks.map fun k => PyData.str (hexF k)) → Fin { s₁ with heap := g } ys news) :
    BSrc prog w A h₀ L m env elt x scope cl Fin (.bytes b t) s₁ :=
  BSrc.intro hh F N (by rw [← KBw.ints_length, hb, hl, sizeLine_eq]; decide) fun g => hex_rest hb (fun k t I oI C oC D m₂ ys h tk E' h0 h1 hC hx F N off ne _ => turn g k t I oI C oC D m₂ ys h tk E' h0 h1 hC hx F N off ne) (show KPfDone _ from fun ys hc _ => fin g ys hc)
end
end Md
namespace Md
theorem freshC14 : True := by
  w_top off
  k_with_none
  exact True.intro

theorem ne_below {l : List (Addr × Obj)} {d k : Nat} (h : ∀ p ∈ l, p.1 < k) (hk : k ≤ d) : ∀ p ∈ l, p.1 ≠ d := fun p hp => Nat.ne_of_lt (Nat.lt_of_lt_of_le (h p hp) hk)
theorem nulls_small (n : Int) : 0 ≤ nullsV n ∧ nullsV n < 64 := ⟨fmod_lo _ (by decide), fmod_hi _ (by decide)⟩
noncomputable def WDone (h₀ : Heap) (L D : Addr) (m₀ : Str → Option Value) (news : List (Addr × Obj)) (l : List Int) (s s₂ : Shared) : Prop :=
  ∃ h' tk vs ep, s₂ = { s with heap := h', toks := tk } ∧ Fr h₀ L h' m₀ ∧ News h₀ L h' ((D, listOf (List.toArray vs) ep) :: news) ∧ IntsAre vs l
theorem WDone.intro {h₀ h' : Heap} {L D : Addr} {m₀ : Str → Option Value} {news : List (Addr × Obj)} {l l' : List Int} {s : Shared} {tk ep : Nat} {vs : List Value} {arr : Array Value}
    (F : Fr h₀ L h' m₀) (N : News h₀ L h' ((D, listOf arr ep) :: news)) (ea : arr = vs.toArray) (hi : IntsAre vs l') (e : l' = l) : WDone h₀ L D m₀ news l s { s with heap := h', toks := tk } := by
  subst ea; subst e
  exact ⟨h', tk, vs, ep, rfl, F, N, hi⟩
section
variable {prog : Program} {w : World} {A : Around} {E : Value → Shared → Prop} {Q : Flow → Shared → Prop} {s : Shared} {env : Env} {h₀ : Heap} {L : Addr}
theorem while_app {test : PySem.Expr} {body : List Stmt} {pos : Pos} {m₀ : Str → Option Value} {news : List (Addr × Obj)} {D : Addr} {vs₀ : List Value} {ep₀ : Nat} (base : List Int) (n : Nat)
    (F : Fr h₀ L s.heap m₀) (N : News h₀ L s.heap ((D, listOf vs₀.toArray ep₀) :: news)) (hi : IntsAre vs₀ base)
    (turn : ∀ i h tk vs ep, i ≤ n → IntsAre vs (base ++ List.replicate i 0) → Fr h₀ L h m₀ → News h₀ L h ((D, listOf (List.toArray vs) ep) :: news) →
      wpAny (model prog w) A (isTrue test env (eval test env)) (fun b s₂ => if b = true then wpAny (model prog w) A (execs body env) (fun f s₃ => f = .next ∧ i < n ∧ WDone h₀ L D m₀ news (base ++ List.replicate (i + 1) 0) { s with heap := h, toks := tk } s₃) E s₂
        else WDone h₀ L D m₀ news (base ++ List.replicate n 0) { s with heap := h, toks := tk } s₂) E { s with heap := h, toks := tk })
    (done : ∀ h tk vs ep, IntsAre vs (base ++ List.replicate n 0) → Fr h₀ L h m₀ → News h₀ L h ((D, listOf (List.toArray vs) ep) :: news) → Q .next { s with heap := h, toks := tk })
    (hE : PassesOwn (model prog w) A env E := by passes_own) :
    wpAny (model prog w) A (exec (.While test body [] pos) env) Q E s := by
  refine While_inv (n₀ := n) (fun k m nx => m = m₀ ∧ k ≤ n ∧ ∃ vs ep, nx = (D, listOf (List.toArray vs) ep) :: news ∧ IntsAre vs (base ++ List.replicate (n - k) 0)) F N ⟨rfl, Nat.le_refl _, vs₀, ep₀, rfl, by simpa using hi⟩ ?_ hE
  rintro k m₁ nx h tk F₁ N₁ ⟨rfl, hk, vs, ep, rfl, hI⟩
  refine wpAny_mono (turn (n - k) h tk vs ep (Nat.sub_le _ _) hI F₁ N₁) (fun b s₂ h₂ => ?_) fun _ _ e => e
  cases b with
  | false =>
    simp only [Bool.false_eq_true, if_false] at h₂ ⊢
    obtain ⟨h', tk', vs', ep', rfl, F', N', hI'⟩ := h₂
    exact done h' tk' vs' ep' hI' F' N'
  | true =>
    simp only [if_true] at h₂ ⊢
    refine wpAny_mono h₂ (fun f s₃ h₃ => ?_) fun _ _ e => e
    obtain ⟨rfl, hlt, h', tk', vs', ep', rfl, F', N', hI'⟩ := h₃
    exact WhileStep.intro (n' := k - 1) F' N' (by omega) ⟨rfl, by omega, vs', ep', rfl, by rw [show n - (k - 1) = n - k + 1 by omega]; exact hI'⟩
end

theorem while_lt {k i m : Nat} (hi : i ≤ (nullsV k).toNat) (hv : m = k + 1 + i) (h : ((m : Nat) : Int).fmod 64 ≠ 56) : i < (nullsV k).toNat := by
  have h1 := nulls_small k
  rw [Int.fmod_eq_emod_of_nonneg _ (by decide)] at h
  have h2 : nullsV k = (55 - (k : Int)) % 64 := Int.fmod_eq_emod_of_nonneg _ (by decide)
  omega
theorem while_eq {k i m : Nat} (hi : i ≤ (nullsV k).toNat) (hv : m = k + 1 + i) (h : ((m : Nat) : Int).fmod 64 = 56) : i = (nullsV k).toNat := by
  have h1 := nulls_small k
  rw [Int.fmod_eq_emod_of_nonneg _ (by decide)] at h
  have h2 : nullsV k = (55 - (k : Int)) % 64 := Int.fmod_eq_emod_of_nonneg _ (by decide)
  omega
theorem fdiv_pow (x : Int) (i : Nat) : (x.fdiv (256 ^ i)).fdiv 256 = x.fdiv (256 ^ (i + 1)) := by
  have h0 : (0 : Int) ≤ 256 ^ i := Int.le_of_lt (Int.pow_pos (by decide))
  rw [Int.fdiv_eq_ediv_of_nonneg _ h0, Int.fdiv_eq_ediv_of_nonneg _ (by decide), Int.fdiv_eq_ediv_of_nonneg _ (Int.le_of_lt (Int.pow_pos (by decide))), Int.ediv_ediv_of_nonneg h0, Int.pow_succ]
theorem low_next (l : List Int) (x : Int) (i : Nat) : l ++ lowV x (i : Nat) ++ [(x.fdiv (256 ^ i)).fmod 256] = l ++ lowV x ((i + 1 : Nat) : Int) := by
  simp only [lowV, Int.toNat_natCast, rangeKs, List.range_succ, List.map_append, List.map_cons, List.map_nil, List.append_assoc]
  simp
theorem news_perm6 {h₀ h : Heap} {L : Addr} {x1 x2 x3 x4 x5 x6 : Addr × Obj} {l : List (Addr × Obj)} (N : News h₀ L h (x1 :: x2 :: x3 :: x4 :: x5 :: x6 :: l)) : News h₀ L h (x6 :: x1 :: ([x5] ++ (x2 :: l))) := fun p hp => N p (by
  simp only [List.mem_cons, List.mem_append, List.not_mem_nil, or_false] at hp ⊢
  rcases hp with h | h | h | h | h <;> simp [h])
theorem small_w {i : Nat} (h : i < 3) : Builtin.Range.small ((i : Int) * 64) ((i : Int) * 64 + 64) 4 = true := by
  match i, h with
  | 0, _ => decide
  | 1, _ => decide
  | 2, _ => decide
theorem size_w {i : Nat} (h : i < 3) : Builtin.Range.rangeSize ((i : Int) * 64) ((i : Int) * 64 + 64) 4 = ((16 : Nat) : Int) := by
  match i, h with
  | 0, _ => decide
  | 1, _ => decide
  | 2, _ => decide
theorem news_perm4 {h₀ h : Heap} {L : Addr} {x1 x2 x3 x4 : Addr × Obj} {l : List (Addr × Obj)} (N : News h₀ L h (x1 :: x2 :: x3 :: x4 :: l)) : News h₀ L h (x4 :: x1 :: ([] ++ (x2 :: x3 :: l))) := fun p hp => N p (by
  simp only [List.mem_cons, List.mem_append, List.not_mem_nil, false_or] at hp ⊢
  rcases hp with h | h | h | h | h <;> simp [h])
noncomputable def exH (ch : Addr) (xs : List (Addr × Obj)) : Prop := ∃ oh vh, xs = [(ch, oh)] ∧ oh.data = .cell vh
theorem exH_in (ch : Addr) : ∀ xs, exH ch xs → ∀ p ∈ xs, p.1 ∈ [ch] := by
  rintro _ ⟨oh, vh, rfl, _⟩ p hp
  rw [List.mem_singleton.mp hp]
  exact .head _
theorem exH_had (ch : Addr) : ∀ xs, exH ch xs → ∀ a ∈ [ch], ∃ p ∈ xs, p.1 = a := by
  rintro _ ⟨oh, vh, rfl, _⟩ a ha
  exact ⟨_, .head _, (List.mem_singleton.mp ha).symm⟩
noncomputable def bitPs (c : (Int × Tok) × List Int) : List (Str × Value) := [(Str.ofString "bits_long", .int c.1.1 c.1.2)]
noncomputable def sumAt (v q : Four) (k : Int) : Int := ([v.1, v.2.1, v.2.2.1, v.2.2.2].getD k.toNat 0 + [q.1, q.2.1, q.2.2.1, q.2.2.2].getD k.toNat 0).fmod 4294967296
theorem off1_ne {D : Addr} : ∀ {l : List (Addr × Obj)}, LCg.Off1 D l → ∀ p ∈ l, p.1 ≠ D
  | [], _, _, h => nomatch h
  | _ :: _, x, p, h => by
    rcases List.mem_cons.mp h with rfl | h
    · exact x.1
    · exact off1_ne x.2 p h
theorem contains3 {a b c z : Str} (h : [a, b, c].contains z = false) : z ≠ a ∧ z ≠ b ∧ z ≠ c := by simpa using h
theorem isL4_of {v q : Four} {ys : List Value} (h : IntsAre ys ((rangeKs 0 4).map (sumAt v q))) : IsL4 (fourSum v q) (LCg.lst ys) := by
  have e : (rangeKs 0 4).map (sumAt v q) = [sumAt v q 0, sumAt v q 1, sumAt v q 2, sumAt v q 3] := rfl
  rw [e] at h
  cases h with | cons _ u1 h => cases h with | cons _ u2 h => cases h with | cons _ u3 h => cases h with | cons _ u4 h => cases h with | nil => exact ⟨u1, u2, u3, u4, 4, rfl⟩
noncomputable def fourL (v : Four) : List Int := [v.1, v.2.1, v.2.2.1, v.2.2.2]
noncomputable def rowOf (l : List Int) (i : Nat) : List Int := (l.take i).flatMap fun x => lowV x 4
theorem news_perm3 {h₀ h : Heap} {L : Addr} {x1 x2 x3 : Addr × Obj} {l : List (Addr × Obj)} (N : News h₀ L h (x1 :: x2 :: x3 :: l)) : News h₀ L h (x3 :: x1 :: x2 :: l) := fun p hp => N p (by
  simp only [List.mem_cons] at hp ⊢
  rcases hp with h | h | h | h <;> simp [h])
noncomputable def numPs (c : (Int × Tok) × List Int) : List (Str × Value) := [(Str.ofString "number", .int c.1.1 c.1.2)]
theorem rowOf_succ {l : List Int} {i : Nat} {k : Int} (h : l[i]? = some k) : rowOf l (i + 1) = rowOf l i ++ lowV k 4 := by
  unfold rowOf; rw [List.take_add_one, h]; simp
theorem rowOf_length (l : List Int) : ∀ i, i ≤ 4 → (rowOf l i).length ≤ 16 := by
  intro i hi
  have h1 : ∀ r : List Int, (r.flatMap fun x => lowV x 4).length = 4 * r.length := by
    intro r
    induction r with
    | nil => rfl
    | cons a r ih => rw [List.flatMap_cons, List.length_append, ih, lowV_length, List.length_cons]; simp; omega
  unfold rowOf
  rw [h1, List.length_take]
  omega
theorem lowV_in (x n : Int) : KBa.In (lowV x n) := by
  intro k hk
  obtain ⟨j, _, rfl⟩ := List.mem_map.mp hk
  exact ⟨fmod_lo _ (by decide), fmod_hi _ (by decide)⟩
theorem rowOf_in (l : List Int) (i : Nat) : KBa.In (rowOf l i) := by
  intro k hk
  obtain ⟨x, _, h⟩ := List.mem_flatMap.mp hk
  exact lowV_in _ _ k h
theorem padV_in {b : Array UInt8} {ks : List Int} (hb : KBw.bInts b = ks) : KBa.In (padV ks) := by
  intro k hk
  unfold padV at hk
  rcases List.mem_append.mp hk with h | h
  · rcases List.mem_append.mp h with h | h
    · exact KBw.ints_in (hb ▸ h)
    · rcases List.mem_cons.mp h with rfl | h
      · decide
      · rw [(List.mem_replicate.mp h).2]; decide
  · exact lowV_in _ _ k h
theorem len_ok {prog : Program} {w : World} {A : Around} {E : Value → Shared → Prop} {s : Shared} {h₀ : Heap} {L : Addr} {nl : List (Addr × Obj)} {a : Addr} {vs : List Value} {n : Nat} {Q : Value → Shared → Prop} (N : News h₀ L s.heap nl) (ha : (a, listOf vs.toArray n) ∈ nl) (hfit : (vs.length : Int) < 2 ^ 63)
    (h : ∀ t k, Q (.int (vs.length : Int) t) { s with toks := k }) : wpAny (model prog w) A (call (.builtin "len") [.ref a]) Q E s :=
  len_list ⟨_, (N _ ha).1, rfl, _, rfl⟩ (by simpa using hfit) (by simpa using h _ _)
section
variable {w : World} {mean : ExcName → Option Value} {mg mb : Str → Option Value} {dp un : Nat} {gd : Option (List Code)} {cn : Str} {cs : Scope} {ca : Addr} {ccd : Value} {cl : List (Str × Addr)} {outer : List Env} {A₀ : Around} {base h₀ : Heap} {L : Addr} {m : Str → Option Value} {news : List (Addr × Obj)} {s : Shared} {Q E : Value → Shared → Prop}
local macro_rules | `(tactic| k_all) => `(tactic| (first | assumption | (refine List.forall_mem_cons.mpr ⟨?kalx, ?kaly⟩; (case kalx => k_ne); (case kaly => k_all)) | (refine' Md.ne_below ?nb1 ?nb2; (case nb1 => assumption); (case nb2 => omega))))
local macro_rules | `(tactic| walk_at "call type:list") => `(tactic| (k_here; (with_reducible show wpAny _ _ (call (Value.type "list") [Value.bytes _ _]) _ _ _); k_dflt (refine' Md.list_bytes ?a1 ?a2 ?a3 ?a4 ?a5 ?_; (case a1 => rfl); (case a2 => k_asm); (case a3 => k_asm); (case a4 => assumption); (case a5 => omega)); intro r9 h9 tk9 vs9 ep9 F9 N9 l9 I9; (have l8 := l9); (try k_lt l8)))
local macro_rules | `(tactic| walk_at "call ref") => `(tactic| (k_here; (with_reducible show wpAny _ _ (call (Value.ref 122) _) _ _ _); k_dflt (refine' Md.law_round_ok ?k1 ?k2 ?k3 ?k4 ?k5 ?kK ?kd ?ku ?b1 ?b2 ?b3 ?b4 ?b5 ?b6 ?b7 ?b8 ?b9 ?_; (case k1 => k_asm); (case k2 => k_asm); (case k3 => k_asm); (case k4 => k_asm); (case k5 => k_asm); (case kK => first | exact rfl | assumption); (case kd => ktr_room); (case ku => ktr_units); (case b1 => k_mem); (case b2 => k_mem); (case b3 => assumption); (case b4 => assumption); (case b5 => k_mem); (case b6 => assumption); (case b7 => assumption); (case b8 => omega); (case b9 => omega); k_whole; intro r9 t9 h9 tk9 F9 N9 l9; (have l8 := l9); (try k_lt l8); (try dsimp only); (try k_fold))))
local macro_rules | `(tactic| k_mem) => `(tactic| (first | with_reducible assumption | (with_reducible exact List.mem_cons_self) | (refine List.mem_cons_of_mem _ ?_; k_mem)))
local macro_rules | `(tactic| walk_at "subscriptTail") => `(tactic| (k_here; (with_reducible show wpAny _ _ (subscriptTail (PySem.Expr.Name _ _) (PySem.Expr.Name _ _) (Value.ref _) (Value.int _ _)) _ _ _); k_dflt (refine' Md.item_ok ?N ?m ?i ?lo ?hi ?f ?_ ?s; (case N => k_asm); (case m => k_mem); (case i => exact .cons _ _ (.cons _ _ (.cons _ _ (.cons _ _ .nil)))); (case f => simp only [List.length_cons, List.length_nil]; decide); (case lo => assumption); (case hi => assumption); (case s => with_unfolding_all rfl); k_whole); intro _))
theorem law_digest_ok (B : Below A₀ base outer h₀) (F : Fr h₀ L s.heap m) (X : (hd.heap_39 w.params).In h₀) (N : News h₀ L s.heap news) (T : Top hd.view_39 LOO mean mg mb h₀) (hk : cs.kind = .function) (hdp : dp + 5 < recursionLimit) (hun : un + 40 < cLine)
    {b : Array UInt8} {ks : List Int} {t1 : Tok} {va : List Value} {add : List Int} {na : Nat} {aa : Addr} (hb : KBw.bInts b = ks) (h0 : ks.length ≤ 130) (ha : (aa, listOf va.toArray na) ∈ news) (hia : IntsAre va add) (hla : add.length = 64)
    (hret : ∀ (r : Addr) (b1 b2 : Array UInt8) (t1 t2 : Tok) (h' : Heap) (tk' : Nat), Fr h₀ L h' m → News h₀ L h' ((r, tupO [.bytes b1 t1, .bytes b2 t2]) :: news) → (∀ p ∈ news, p.1 < r) → KBw.bInts b1 = fourOut (lawDig (padV ks) add ((padV ks).length / 64)) → KBw.bInts b2 = padV ks → Q (.ref r) { s with heap := h', toks := tk' }) :
    wpAny (model PR w) (ktrTop dp un gd cn cs L ca ccd cl outer) (call (.ref 127) [.bytes b t1, .ref aa]) Q E s := by
  k_with_none
  k_with "pyIter ref" => (k_here; refine Md.stop_of ?_)
  k_with "last exec While" => (k_here; refine Md.stop_of ?_)
  k_with "call builtin:len" => (k_here; (with_reducible show wpAny _ _ (call (Value.builtin "len") [Value.ref _]) _ _ _); k_dflt (refine' Md.len_ok ?la ?lb ?lc ?_; (case la => k_asm); (case lb => k_mem); (case lc => omega)); intro _ _)
  k_with "eval ListComp" => (k_here; k_dflt (refine LCg.ListComp_U (F₀ := by k_asm) (by first | rfl | with_unfolding_all rfl) (by decide) (by rfl) (by decide) (by rfl) ?_))
  k_with "CompSrc" => (k_here; refine Md.stop_of ?_)
  k_with "CompEnd" => (k_here; refine Md.stop_of ?_)
  k_with "exec For Name Name cons nil" => (k_here; (rename Fr _ _ _ _ => lF'); (with_unfolding_all refine' For_invVF lF' ?k1 ?k2 ?_; (case k1 => exact rfl); (case k2 => exact rfl); k_whole))
  k_with "execs nil" => (k_here; refine wpAny_execs_nil ?_)
  k_with "call type:bytes" => (k_here; (with_reducible show wpAny _ _ (call (Value.type "bytes") [Value.ref _]) _ _ _); k_dflt (refine' KBa.make_K ?F ?N ?hh ?l ?i ?r ?n ?_; (case F => k_asm); (case N => k_asm); (case hh => rfl); (case l => kba_isList); (case i => assumption); (case r => assumption); (case n => assumption)); intro _ _ _ F' N' _)
  refine wpAny_call ?_
  k_dflt (refine' code_defC ?k1 ?k2 ?k3 ?k4 ?k5 ?kA ?kF ?kK ?k6 ?k7 ?k8 ?k9 ?kB ?kD ?_ ?c2 ?c3 ?c4; (case kA => exact rfl); (case kF => exact rfl); (case kK => assumption); (case k1 => k_asm); (case k2 => k_asm); (case k3 => k_asm); (case k4 => k_asm); (case k5 => k_asm); (case k6 => k_is); (case k7 => k_is); (case k8 => ktr_room); (case k9 => exact BindsTo.of_eq rfl); (case kB => exact rfl); (case kD => decide +kernel); (case c2 => exact rfl); (case c3 => exact rfl); (case c4 => exact rfl); k_whole; intro g' L' h' tk' cells' FG' F' N' Y' B' X' T' l1; (try k_lt l1); k_cells Y'; (try simp only [List.cons_append, List.nil_append] at N'); (try dsimp only); (try k_lift B'); (try k_fold))
  k_steps
  refine stop_in ?_
  (with_reducible rename Fr _ _ _ _ => lF)
  (with_reducible rename News _ _ _ _ => lN)
  (with_reducible rename IntsAre _ _ => lI)
  rename_i oh o4 dh d4 r9 h9 tk9 vs9 ep9 l9 I9 l8 l5 hx1 l5lt D ws hx2 Dlt hx3
  refine while_app (ks ++ [128]) (nullsV ks.length).toNat lF lN lI ?_ ?_
  all_goals clear lF lN lI
  · intro i h tk vs ep hi hI F N
    have hvl : vs.length = ks.length + 1 + i := by rw [hI.length]; simp; omega
    have hns := nulls_small ks.length
    try k_fold
    k_steps
    · exact (while_lt hi hvl (by assumption))
    · exact WDone.intro (vs := vs ++ [.int 0 _]) (by assumption) (by assumption) (by rw [List.push_toArray]) (IntsAre.append hI (.cons _ _ .nil)) (by simp [List.replicate_succ'])
    · exact WDone.intro (vs := vs) (by k_asm) (by k_asm) rfl hI (by rw [while_eq hi hvl (by assumption)])
  · intro h tk vs ep hI F N
    try k_fold
    k_steps
    refine stop_in ?_
    (rename IsRange _ _ _ _ _ _ _ _ => hR)
    (rename Fr _ _ _ _ => lF)
    (rename News _ _ _ _ => lN)
    refine range_app (n := 8) bitPs (fun c => c.2) (fun i c => c.1.1 = (8 * (ks.length : Int)).fdiv (256 ^ i) ∧ c.2 = ks ++ [128] ++ List.replicate (nullsV ks.length).toNat 0 ++ lowV (8 * (ks.length : Int)) i) [] ((_, _), _) rfl hR (by decide) (by decide) lF lN (ne_of_allLt (by assumption)) hI (by kst_all) ⟨(Int.fdiv_one _).symm, by simp [lowV, rangeKs]⟩ ?_ ?_
    all_goals clear lF lN
    · rintro i t ⟨⟨bv, tb⟩, ls⟩ u h tk nl vs ep hi ⟨hP, hL⟩ hI hs hne F N
      dsimp only at hP hL hI
      dsimp only [bitPs] at F
      have hns := nulls_small ks.length
      have hvl : vs.length ≤ 300 := by rw [hI.length, hL]; simp [lowV_length]; omega
      try k_fold
      k_steps
      refine' AppTurn.intro ((bv.fdiv 256, _), ls ++ [bv.fmod 256]) (vs := vs ++ [Value.int (bv.fmod 256) _]) ?mqf ?mqn ?mqa ?mqs ?mqr ?mqi ?mqp ?mqk ?mqz
      case mqf => k_asm
      case mqn => k_asm
      case mqa => exact .head _
      case mqs => exact fun p hp => .tail _ hp
      case mqr => rw [List.push_toArray]
      case mqi => exact IntsAre.append hI (.cons _ _ .nil)
      case mqp => exact ⟨by rw [hP]; exact fdiv_pow _ _, by rw [hL, hP]; exact low_next _ _ _⟩
      case mqk => (refine List.forall_mem_cons.mpr ⟨?ka1, ?kr1⟩; (case ka1 => exact rfl); (case kr1 => exact List.forall_mem_nil _))
      case mqz => intro z h1 h2 h3; (have a0 := h2 _ (.head _)); (dsimp only at a0); simp only [kstB, h1, a0, h3, if_false, Bool.false_eq_true]
    · rintro ⟨⟨bv, tb⟩, ls⟩ u h tk vs ep ⟨hP, hL⟩ hI F N
      dsimp only at hP hL hI
      dsimp only [bitPs] at F
      try k_fold
      have hpd : ls = padV ks := by rw [hL]; simp [padV, List.append_assoc]
      obtain ⟨n, hn1, hn3, hlen⟩ := pad_blocks h0
      have hvl : vs.length = 64 * n := by rw [hI.length, hpd, hlen]
      rw [hpd] at hI
      clear hL hP hpd
      k_steps
      refine stop_in ?_
      rename_i l4 hx4 Fx1 Nx1 l4lt hx5 oc4 Fx2 Nx2 d4' t9 k9 hx6 tk9' ta ub vc hR lF lN hkeep
      rw [hvl] at hR
      refine cell_loop (n := n) (exH (L' + 1 + 1)) [L' + 1 + 1] (lawDig (padV ks) add) [Str.ofString "words", Str.ofString "spot", Str.ofString "at"] (exH_in _) (exH_had _) rfl hR (small64 hn3) (size64 hn3) lF (news_perm6 lN) d4' ⟨_, _, rfl, dh⟩ ⟨_, _, _, _, _, rfl⟩ ?_ ?_ ?_ ?_ ?_ ?_ ?_ ?_
      · exact List.forall_mem_cons.mpr ⟨by k_ne, ne_below l1 (by omega)⟩
      · exact List.forall_mem_cons.mpr ⟨by k_ne, ne_below l1 (by omega)⟩
      · intro p hp hm
        exact (List.forall_mem_cons.mpr ⟨by k_ne, ne_below l1 (by omega)⟩ : ∀ p ∈ (D, listOf vs.toArray ep) :: news, p.1 ≠ L' + 1 + 1) p hp (List.mem_singleton.mp hm)
      · exact fun hm => absurd (List.mem_singleton.mp hm) (by k_ne)
      · exact fun hm => absurd (List.mem_singleton.mp hm) (by k_ne)
      · k_ne
      all_goals clear lF lN
      · rintro i t r4 _ oc _ u h tk nl hi ⟨u1, u2, u3, u4, ep4, rfl⟩ hoc ⟨oh1, vh, rfl, hoh⟩ hs hnc hnad h4 F N
        have hnh : ∀ p ∈ nl, p.1 ≠ L' + 1 + 1 := fun p hp e => hnad p hp (List.mem_singleton.mpr e)
        have hD := hs _ (List.mem_cons_self)
        have ha1 := hs _ (List.mem_cons_of_mem _ ha)
        simp only [List.cons_append, List.nil_append] at N
        simp only [Int.zero_add] at F
        clear hnad
        dsimp only at F N ⊢
        try k_fold
        k_steps
        refine stop_in ?_
        (rename IsRange _ _ _ _ _ _ _ _ => hR)
        (rename Fr _ _ _ _ => lF)
        (rename News _ _ _ _ => lN)
        rename_i lw hy1 lwlt hy2 hy3 tky ty uy vy hkeep2
        have hi3 : i < 3 := Nat.lt_of_lt_of_le hi hn3
        refine range_app (n := 16) (vs₀ := []) (fun _ => []) (fun c => c) (fun j c => c = lawWords (padV ks) i j) [] ([] : List Int) rfl hR (small_w hi3) (size_w hi3) lF lN ?_ .nil (List.forall_mem_nil _) rfl ?_ ?_
        · k_all
        all_goals clear lF lN
        · rintro j t c u h tk nl2 vw ep hj hP hIw hs2 hne2 F N
          have hD2 := hs2 _ (List.mem_cons_of_mem _ (List.mem_cons_of_mem _ hD))
          have hwl : vw.length = j := by rw [hIw.length, hP]; simp [lawWords]
          dsimp only at F N ⊢
          try k_fold
          k_steps
          refine' AppTurn.intro (c ++ [lawWord (padV ks) (64 * i + 4 * j)]) (vs := vw ++ [Value.int (lawWord (padV ks) (64 * i + 4 * j)) _]) ?mqf ?mqn ?mqa ?mqs ?mqr ?mqi ?mqp ?mqk ?mqz
          case mqf => k_asm
          case mqn => k_asm
          case mqa => exact .head _
          case mqs => exact fun p hp => .tail _ hp
          case mqr =>
            rw [List.push_toArray, ← word_eq]
          case mqi => exact IntsAre.append hIw (.cons _ _ .nil)
          case mqp => rw [hP]; exact (lawWords_succ _ _ _).symm
          case mqk => exact List.forall_mem_nil _
          case mqz => intro z h1 h2 h3; simp only [kstB, h1, h3, if_false, Bool.false_eq_true]
        · rintro c u h tk vw ep rfl hIw F N
          have hwl : (lawWords (padV ks) i 16).length = 16 := by simp [lawWords]
          dsimp only at F N ⊢
          try k_fold
          k_steps
          refine stop_in ?_
          rename_i rh ch9 hz1 Fz1 Nz1 rhlt hz2 ohh Fz2 Nz2 dh2 hz3 tkz tz uz vz hR lF lN hkeep3
          refine cell_loop (n := 64) (fun xs => xs = []) [] (lawAt (lawWords (padV ks) i 16) add (lawDig (padV ks) add i)) [] (by rintro _ rfl p hp; cases hp) (by intro _ _ a ha; cases ha) rfl hR (by decide) (by decide) lF (news_perm4 lN) dh2 rfl ⟨_, _, _, _, _, rfl⟩ ?_ ?_ (fun _ _ h => nomatch h) (fun h => nomatch h) (fun h => nomatch h) ?_ ?_ ?_
          · exact List.forall_mem_cons.mpr ⟨by k_ne, List.forall_mem_cons.mpr ⟨by k_ne, hnh⟩⟩
          · exact List.forall_mem_cons.mpr ⟨by k_ne, List.forall_mem_cons.mpr ⟨by k_ne, fun p hp => Nat.ne_of_lt (ktn_ltOf rhlt.2.2.2 p hp)⟩⟩
          · k_ne
          all_goals clear lF lN
          · rintro j t rh2 _ oc2 xs u h tk nl2 hj ⟨w1, w2, w3, w4, ep2, rfl⟩ hoc2 rfl hs2 hnc2 _ hm2 F N
            have hw2 := hs2 _ (List.mem_cons_self)
            have ha2 := hs2 _ (List.mem_cons_of_mem _ (List.mem_cons_of_mem _ ha1))
            simp only [List.nil_append] at N
            simp only [Int.zero_add, Int.mul_one] at F
            dsimp only at F N ⊢
            try k_fold
            k_steps
            rename_i rn tn9 hn9 tkn ln l8n hn10 on Fn Nn dn
            exact CellTurn.intro [] Fn Nn (.tail _ (.head _)) (.head _) (fun p hp => nomatch hp) (fun p hp => .tail _ (.tail _ hp)) dn rfl (fun p hp => Nat.ne_of_lt (ln p (.tail _ hp))) (fun p hp => nomatch hp) (by k_ne) ⟨_, _, _, _, _, rfl⟩ (by intro z h1 h3; simp only [h1, h3, if_false, Bool.false_eq_true])
          · rintro rh2 _ oc2 xs u h tk ⟨w1, w2, w3, w4, ep2, rfl⟩ hoc2 rfl hrn2 _ hrc2 F N
            simp only [List.nil_append] at N
            have e1 : @Ne Nat (L' + 1) rh2 := hrn2 _ (List.mem_cons_of_mem _ List.mem_cons_self)
            dsimp only at F N ⊢
            try k_fold
            k_steps
            refine stop_in ?_
            refine LCg.CompSrc.range (n := 4) (by rfl) (by k_asm) (by k_asm) (by assumption) (by decide) (by decide) (by exact Nat.le_of_ble_eq_true rfl) ?_
            intro g5
            refine kcf_range (n := 4) (sumAt (lawDig (padV ks) add i) (lawAt (lawWords (padV ks) i 16) add (lawDig (padV ks) add i) 64)) ?_ ?_
            · intro k tq I oI C oC D2 m2 ys h tk E' hk0 hk1 hC hx F N off ne mk
              dsimp only at F N ⊢
              have hk1' : k < 4 := by omega
              try k_fold
              k_steps
              refine stop_in ?_
              exact LCg.CompEnd.intro F N _ (fun p hp => hp) off True.intro ⟨rfl, _, rfl⟩
            · intro ys hys D2 h tk F N off
              dsimp only at F N off ⊢
              simp only [LCg.Off1] at off
              k_steps
              (with_reducible rename Fr _ L' _ _ => Fe)
              (with_reducible rename News _ L' _ _ => Nw)
              exact CellTurn.intro [(L' + 1 + 1, oc2)] Fe Nw (.tail _ (.tail _ (.tail _ (.tail _ (.head _))))) (.head _) (fun p hp => (List.mem_singleton.mp hp) ▸ .tail _ (.head _)) (fun p hp => .tail _ (.tail _ (.tail _ (.tail _ (.tail _ hp))))) (by assumption) ⟨_, _, rfl, hoc2⟩ (off1_ne off.2.2.2.2) (fun p hp => (List.mem_singleton.mp hp) ▸ off.1) (Ne.symm off.2.2.2.1) (isL4_of hys)
                (by intro z h1 h3; have h4 := contains3 h3; simp only [kstB, h1, h4.1, h4.2.1, h4.2.2, h3, if_false, List.contains_nil, Bool.false_eq_true])
      · rintro r4 _ oc _ u h tk ⟨u1, u2, u3, u4, ep4, rfl⟩ hoc ⟨oh1, vh, rfl, hoh⟩ hrn hra hrc F N
        simp only [List.cons_append, List.nil_append] at N
        dsimp only at F N ⊢
        try k_fold
        k_steps
        refine stop_in ?_
        (with_reducible rename Fr _ L' _ _ => lF)
        (with_reducible rename News _ L' _ _ => lN)
        (with_reducible rename _ ∧ _ => rwlt)
        refine list_app (vz := [.int (lawDig (padV ks) add n).1 u1, .int (lawDig (padV ks) add n).2.1 u2, .int (lawDig (padV ks) add n).2.2.1 u3, .int (lawDig (padV ks) add n).2.2.2 u4]) (nz := fourL (lawDig (padV ks) add n)) (vs₀ := []) (fun _ => []) (fun c => c) (fun i c => c = rowOf (fourL (lawDig (padV ks) add n)) i) [Str.ofString "turn"] ([] : List Int) rfl lF (news_perm3 lN) ?_ ?_ ?_ (.cons _ _ (.cons _ _ (.cons _ _ (.cons _ _ .nil)))) .nil (List.forall_mem_nil _) rfl ?_ ?_
        · exact List.forall_mem_cons.mpr ⟨by k_ne, List.forall_mem_cons.mpr ⟨by k_ne, List.forall_mem_cons.mpr ⟨by k_ne, ne_below l1 (by omega)⟩⟩⟩
        · k_ne
        · exact List.forall_mem_cons.mpr ⟨Ne.symm hrc, List.forall_mem_cons.mpr ⟨fun e => hra (List.mem_singleton.mpr e.symm), hrn⟩⟩
        all_goals clear lF lN
        · rintro i k t c u h tk nl vw ep hi hik hP hIw hs hne F N
          dsimp only at hP hIw F N ⊢
          try k_fold
          k_steps
          refine stop_in ?_
          (rename IsRange _ _ _ _ _ _ _ _ => hR)
          (with_reducible rename Fr _ _ _ _ => lF)
          (with_reducible rename News _ _ _ _ => lN)
          have hi4 : i < 4 := hi
          have hrl : (rowOf (fourL (lawDig (padV ks) add n)) i).length ≤ 16 := rowOf_length _ i (by omega)
          refine range_app (n := 4) numPs (fun c => c.2) (fun j c => c.1.1 = k.fdiv (256 ^ j) ∧ c.2 = rowOf (fourL (lawDig (padV ks) add n)) i ++ lowV k j) [] ((_, _), _) rfl hR (by decide) (by decide) lF lN hne hIw (by kst_all) ⟨(Int.fdiv_one _).symm, by rw [hP]; simp [lowV, rangeKs]⟩ ?_ ?_
          all_goals clear lF lN
          · rintro j tj ⟨⟨bv, tb⟩, ls⟩ u h tk nl2 vs2 ep2 hj ⟨hP2, hL2⟩ hI2 hs2 hne2 F N
            dsimp only at hP2 hL2 hI2
            dsimp only [numPs] at F
            have hvl2 : vs2.length ≤ 300 := by rw [hI2.length, hL2]; simp [lowV_length]; omega
            dsimp only at F N ⊢
            try k_fold
            k_steps
            refine' AppTurn.intro ((bv.fdiv 256, _), ls ++ [bv.fmod 256]) (vs := vs2 ++ [Value.int (bv.fmod 256) _]) ?mqf ?mqn ?mqa ?mqs ?mqr ?mqi ?mqp ?mqk ?mqz
            case mqf => k_asm
            case mqn => k_asm
            case mqa => exact .head _
            case mqs => exact fun p hp => .tail _ hp
            case mqr => rw [List.push_toArray]
            case mqi => exact IntsAre.append hI2 (.cons _ _ .nil)
            case mqp => exact ⟨by rw [hP2]; exact fdiv_pow _ _, by rw [hL2, hP2]; exact low_next _ _ _⟩
            case mqk => (refine List.forall_mem_cons.mpr ⟨?ka1, ?kr1⟩; (case ka1 => exact rfl); (case kr1 => exact List.forall_mem_nil _))
            case mqz => intro z h1 h2 h3; (have a0 := h2 _ (.head _)); (dsimp only at a0); simp only [kstB, h1, a0, h3, if_false, Bool.false_eq_true]
          · rintro ⟨⟨bv, tb⟩, ls⟩ u h tk vs2 ep2 ⟨hP2, hL2⟩ hI2 F N
            dsimp only at hP2 hL2 hI2
            dsimp only [numPs] at F
            dsimp only at F N ⊢
            try k_fold
            k_steps
            exact AppTurn.intro (rowOf (fourL (lawDig (padV ks) add n)) (i + 1)) F N (.head _) (fun p hp => .tail _ hp) rfl (by rw [rowOf_succ hik]; rw [hL2] at hI2; exact hI2) rfl (List.forall_mem_nil _)
              (by intro z h1 h2 h3; have h4 : z ≠ Str.ofString "turn" := by simpa using h3
                  simp only [kstB, h1, h4, h3, if_false, List.contains_nil, Bool.false_eq_true])
        · rintro c u h tk vw ep hP hIw F N
          dsimp only at hP hIw F N ⊢
          have hin1 : KBa.In c := by rw [hP]; exact rowOf_in _ _
          have hin2 : KBa.In (padV ks) := padV_in hb
          have hl1 : c.length ≤ 16777216 := by rw [hP]; exact Nat.le_trans (rowOf_length _ 4 (by decide)) (by decide)
          have hl2 : (padV ks).length ≤ 16777216 := by rw [hlen]; omega
          try k_fold
          k_steps
          refine' hret _ _ _ _ _ _ _ ?z1 ?z2 ?z3 ?z4 ?z5
          case z2 => (refine' cb_drop ?n1 ?n2; (case n1 => k_asm); (case n2 => kcj_all))
          case z1 => k_asm
          case z3 => exact ktn_ltOf (And.right (And.right (And.right (And.right (by assumption)))))
          case z4 => rw [KBa.ints_make hin1, hP, hlen, Nat.mul_div_cancel_left _ (by decide)]; rfl
          case z5 => exact KBa.ints_make hin2
end
end Md
set_option maxHeartbeats 4000000
theorem PySem.Challenge.cw_pb0470_01_holds : PySem.Challenge.rw_pb0470_01.Holds :=
  hd (by
  k_with_none
  k_with "call ref" => (k_here; (with_reducible show wpAny _ _ (call (Value.ref 108) _) _ _ _); k_dflt (refine' Md.law_pen_ok ?k1 ?k2 ?k3 ?k4 ?k5 ?kK ?kd ?ku ?a1 ?a2 ?a3 ?a4 ?_; (case k1 => k_asm); (case k2 => k_asm); (case k3 => k_asm); (case k4 => k_asm); (case k5 => k_asm); (case kK => first | exact rfl | assumption); (case kd => ktr_room); (case ku => ktr_units); (case a1 => is_list); (case a2 => assumption); (case a3 => omega); (case a4 => assumption); k_whole; intro r9 num9 ta9 tb9 h9 tk9 n09 nb9 F9 N9 l9; (have l8 := l9); (try k_lt l8); (try dsimp only); (try k_fold)))
  k_with "call ref" => (k_here; (with_reducible show wpAny _ _ (call (Value.ref 115) _) _ _ _); k_dflt (refine' Md.law_draw_ok ?k1 ?k2 ?k3 ?k4 ?k5 ?kK ?kd ?ku ?U ?n0 ?nb ?c0 ?c1 ?m0 ?m1 ?_; (case k1 => k_asm); (case k2 => k_asm); (case k3 => k_asm); (case k4 => k_asm); (case k5 => k_asm); (case kK => first | exact rfl | assumption); (case kd => ktr_room); (case ku => ktr_units); (case U => k_updF); (case n0 => assumption); (case nb => assumption); (case c0 => omega); (case c1 => omega); (case m0 => decide); (case m1 => decide); k_whole; intro d9 t9 num9 va9 vb9 ep9 h9 tk9 dlo9 dhi9 n09 nb9 F9 N9; (try dsimp only at N9); (try dsimp only); (try k_fold)))
  k_with "call ref" => (k_here; (with_reducible show wpAny _ _ (call (Value.ref 127) _) _ _ _); k_dflt (refine' Md.law_digest_ok ?k1 ?k2 ?k3 ?k4 ?k5 ?kK ?kd ?ku ?b1 ?b2 ?b3 ?b4 ?b5 ?_; (case k1 => k_asm); (case k2 => k_asm); (case k3 => k_asm); (case k4 => k_asm); (case k5 => k_asm); (case kK => first | exact rfl | assumption); (case kd => ktr_room); (case ku => ktr_units); (case b1 => assumption); (case b2 => omega); (case b3 => k_mem); (case b4 => assumption); (case b5 => exact Md.lawAdd_length); k_whole; intro r9 by9 bz9 ty9 tz9 h9 tk9 F9 N9 l9 e9 f9; (rw [← Md.due_eq] at e9); (have l8 := l9); (try k_lt l8); (try dsimp only); (try k_fold)))
  k_with "call ref" => (k_here; (with_reducible show wpAny _ _ (call (Value.ref 34) _) _ _ _); k_dflt (refine' Md.added_numbers_ok ?k1 ?k2 ?k3 ?k4 ?k5 ?kK ?kd ?ku  ?_; (case k1 => k_asm); (case k2 => k_asm); (case k3 => k_asm); (case k4 => k_asm); (case k5 => k_asm); (case kK => first | exact rfl | assumption); (case kd => ktr_room); (case ku => ktr_units); k_whole; intro r9 vs9 n9 h9 tk9 F9 N9 I9; (rw [Md.add_eq] at I9); (try dsimp only); (try k_fold)))
  k_with "call ref" => (k_here; (with_reducible show wpAny _ _ (call (Value.ref 46) _) _ _ _); k_dflt (refine' Md.padded_ok ?k1 ?k2 ?k3 ?k4 ?k5 ?kK ?kd ?ku ?b1 ?b2 ?_; (case k1 => k_asm); (case k2 => k_asm); (case k3 => k_asm); (case k4 => k_asm); (case k5 => k_asm); (case kK => first | exact rfl | assumption); (case kd => ktr_room); (case ku => ktr_units); (case b1 => assumption); (case b2 => omega); k_whole; intro b9 t9 h9 tk9 F9 N9 e9; (try dsimp only); (try k_fold)))
  k_with "call ref" => (k_here; (with_reducible show wpAny _ _ (call (Value.ref 96) _) _ _ _); k_dflt (refine' Md.digest_ok ?k1 ?k2 ?k3 ?k4 ?k5 ?kK ?kd ?ku ?b1 ?b2 ?_; (case k1 => k_asm); (case k2 => k_asm); (case k3 => k_asm); (case k4 => k_asm); (case k5 => k_asm); (case kK => first | exact rfl | assumption); (case kd => ktr_room); (case ku => ktr_units); (case b1 => assumption); (case b2 => omega); k_whole; intro b9 t9 h9 tk9 F9 N9 e9; (try dsimp only); (try k_fold)))
  k_with "call ref" => (k_here; (with_reducible show wpAny _ _ (call (Value.ref 101) _) _ _ _); k_dflt (refine' Md.hex_text_ok ?k1 ?k2 ?k3 ?k4 ?k5 ?kK ?kd ?ku ?b1 ?b2 ?_; (case k1 => k_asm); (case k2 => k_asm); (case k3 => k_asm); (case k4 => k_asm); (case k5 => k_asm); (case kK => first | exact rfl | assumption); (case kd => ktr_room); (case ku => ktr_units); (case b1 => assumption); (case b2 => exact Md.digV_length _); k_whole; intro t9 h9 tk9 F9 N9; (try dsimp only); (try k_fold)))
  k_with "compareOp Eq str str" => (k_here; refine Md.stop_of ?_)
  k_with "compareOp NotEq bytes bytes" => (k_here; k_dflt (refine Md.ne_bytes_same (by assumption) (by assumption) ?_))
  k_with "eval ListComp" => (k_here; (with_reducible show wpAny _ _ (eval (PySem.Expr.ListComp (PySem.Expr.BinOp _ _ _ _) _ _ _) _) _ _ _); k_dflt (refine Md.ListComp_UB (F₀ := by k_asm) (by first | rfl | with_unfolding_all rfl) (by decide) (by rfl) (by decide) (by rfl) ?_))
  k_with "BSrc" => (k_here; refine Md.stop_of ?_)
  k_with "call type:int" => (k_here; (with_reducible show wpAny _ _ (call (Value.type "int") [Value.str _ _, Value.int _ _]) _ _ _); refine Md.call_text16 (by assumption) ?_)
  k_with "CompSrc" => (k_here; refine Md.stop_of ?_)
  k_with "CompEnd" => (k_here; refine Md.stop_of ?_)
  k_with "call type:bytes" => (k_here; (with_reducible show wpAny _ _ (call (Value.type "bytes") [Value.ref _]) _ _ _); k_dflt (refine' KBa.make_K ?F ?N ?hh ?l ?i ?r ?n ?_; (case F => k_asm); (case N => k_asm); (case hh => rfl); (case l => kba_isList); (case i => assumption); (case r => assumption); (case n => assumption)); intro _ _ _ F' N' _)
  k_go0
  all_goals try k_fold
  k_steps
  refine Md.stop_in ?_
  (rename (_ : Int) < 131 => hd131)
  (rename (_ : Int) < 8 => hd8)
  (rename IsRange _ _ _ _ _ _ _ _ => hR)
  obtain ⟨n, hn131, hn⟩ := Md.len_menu (d1 := hd131) (h1 := hd8) (by assumption) (by assumption)
  refine LCg.CompSrc.range (n := n) (by rfl) (by k_asm) (by k_asm) hR (by rw [hn]; exact Md.small_len n hn131) (by rw [hn]; exact Md.size_len n hn131) (by rw [sizeLine_eq]; omega) ?_
  intro g5
  dsimp only
  refine Md.draws_rest5 Md.PenO Md.Oct ⟨_, _, _, _, _, rfl, by assumption, by assumption, by decide, by decide⟩ ?_ ?_
  · rintro i o I oI C oC D m2 ys h tk E' hin ⟨num, cnt, v1, v2, ep, rfl, hn0, hnb, hc0, hc1⟩ hC F N off ne
    simp only [LCg.Off3, and_true] at off
    try k_fold
    k_steps
    refine Md.stop_in ?_
    (with_reducible rename Fr _ _ _ _ => Fz)
    (with_reducible rename News _ _ _ _ => Nz)
    exact LCg.CompEnd.intro Fz Nz _ (fun p hp => hp) (by simp only [LCg.Off3, and_true]; exact off) True.intro ⟨_, _, _, rfl, ⟨_, _, _, _, _, rfl, by assumption, by assumption, by omega, by omega⟩, Md.oct_menu (by assumption) (by assumption) (by assumption) (by assumption) (by assumption) (by assumption), rfl⟩
  · rintro ys ks _ hI hkl hko ⟨num, cnt, v1, v2, ep, rfl, hn0, hnb, hc0, hc1⟩ D h tk F N off
    have hin : KBa.In ks := hko
    have hlen : ks.length ≤ 16777216 := by omega
    have hbi : KBw.bInts (byteArr ks) = ks := KBa.ints_make hin
    dsimp only at F N off ⊢
    simp only [LCg.Off1, and_true] at off
    k_steps
    refine Md.stop_in ?_
    (rename List.map _ _ = Txt.split _ _ => he)
    have hw := he.trans (Md.table_split2 (by kernel_rfl))
    clear he
    dsimp only
    refine LCg.CompSrc.ledger (by rfl) (by k_asm) (by k_asm) (List.Mem.head _) (by show (strValues _).toArray.size ≤ sizeLine; rw [Md.strs_size hw, Md.lawWs_length, sizeLine_eq]; decide) ?_
    intro g6
    dsimp only
    refine Md.strs_rest (ws := Md.lawWs) (ns := Md.lawAdd) (by rw [Md.strs_size hw]; rfl) (fun i v _ hv => Md.strs_at hw i v hv) Md.Reads16 Md.reads_at ?_ ?_
    · intro y k t I oI C oC D2 m2 ys2 h tk E' hrd hC hx F N off ne
      try k_fold
      k_steps
      refine Md.stop_in ?_
      exact LCg.CompEnd.intro F N _ (fun p hp => hp) off (Or.inr ⟨_, .head _, rfl, _, rfl⟩) ⟨rfl, _, rfl⟩
    · intro ys2 hI2 D2 h tk F N off
      dsimp only at F N off ⊢
      simp only [LCg.Off1, and_true] at off
      k_steps
      refine Md.stop_in ?_
      dsimp only
      refine Md.hex_src (by assumption) (Md.digV_length _) (by rfl) (by k_asm) (by k_asm) ?_ ?_
      · intro g7 k t I oI C oC D3 m3 ys3 h tk E' hk0 hk1 hC hx F N off ne
        dsimp only at F N ⊢
        try k_fold
        k_steps
        refine Md.stop_in ?_
        exact LCg.CompEnd.intro (by assumption) N _ (fun p hp => hp) off True.intro (kct_el rfl rfl rfl)
      · intro g7 ys3 hys3 D3 h tk F N off
        dsimp only at F N off ⊢
        simp only [LCg.Off1, and_true] at off
        have hd16 := Md.digV_length ks
        k_steps
        refine Md.stop_in ?_
        refine Md.eq_str_same (Md.hexV_eq _) ?_
        iterate 4 (first | (k_unfold; (try dsimp only)) | skip)
        refine goodW_bool (L := _) (m := _) F ?gg (raisesW_false ?gn) ?gp
        case gg => assumption
        case gn => wrow_none_raised
        case gp =>
          (first | refine postW_of (by wrow_shape) (w_eq_bool (w_res rfl) w_lit) ?_ | refine postW_of (by wrow_shape) (by wtm_val) ?_)
          w_fin)
