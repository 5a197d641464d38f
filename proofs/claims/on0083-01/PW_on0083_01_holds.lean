import PyProof.Rows.All
import Wide.All
import OpenK.AllK
import Wide.FinOn
import Lean
import PySem.Challenge.RW_on0083_01

open PySem PySem.W PyProof.Rows
set_option Elab.async false
set_option maxRecDepth 100000
set_option maxHeartbeats 8000000

namespace Mine
open_top hd for PySem.Challenge.rw_on0083_01
end Mine

namespace Mine
open PySem PySem.W PyProof.Rows PySem.Calls PySem.Spec
theorem fillK : (fun (_ : OpenLaw) (_ : Params → Frag) => True) PySem.Challenge.rw_on0083_01 hd.heap_39 := by
  k_fill
  trivial

/-- the walk is to halt here -/
def Stop (P : Prop) : Prop := P
theorem Stop.out {P : Prop} (h : Stop P) : P := h

/-- a loop's state between its turns -/
def JS {σ : Type} (x : Str) (Ld : σ → List (Addr × Obj)) (ps : σ → List (Str × Value)) (stored : List Str) (m₀ : Str → Option Value) (P : Nat → σ → Prop) (i : Nat) (m : Str → Option Value) (nx : List (Addr × Obj)) : Prop :=
  ∃ c : σ, nx = Ld c ∧ (∀ p ∈ ps c, m p.1 = some p.2) ∧ (∀ z, z ≠ x → (∀ p ∈ ps c, z ≠ p.1) → stored.contains z = false → m z = m₀ z) ∧ P i c

theorem js_end {σ : Type} {x : Str} {Ld : σ → List (Addr × Obj)} {ps : σ → List (Str × Value)} {stored : List Str} {m₀ m' : Str → Option Value} {P : Nat → σ → Prop} {i : Nat} {h₀ h' : Heap} {L : Addr} {own news' : List (Addr × Obj)} {s₁ : Shared} {tk : Nat} (c : σ)
    (F : Fr h₀ L h' m') (N : News h₀ L h' news') (hn : ∀ p ∈ Ld c, p ∈ news') (ho : ∀ p ∈ own, p ∈ news') (ha : OwnOff own ((Ld c).map (·.1)))
    (hk : ∀ p ∈ ps c, m' p.1 = some p.2) (hr : ∀ z, z ≠ x → (∀ p ∈ ps c, z ≠ p.1) → stored.contains z = false → m' z = m₀ z) (hp : P i c) :
    InvEndG h₀ L (JS x Ld ps stored m₀ P i) own s₁ { s₁ with heap := h', toks := tk } :=
  InvEndG.intro F N ⟨c, rfl, hk, hr, hp⟩ ha hn ho

section
variable {prog : Program} {w : World} {A : Around} {E : Value → Shared → Prop} {s : Shared} {env : Env} {h₀ : Heap} {x : Str} {body : List Stmt} {Q : Flow → Shared → Prop}

/-- the walk over a container of the ground -/
theorem base_walk {I ax : Addr} {vs : List Value} {St : Nat → Heap → Prop} {m₀ : Str → Option Value} {news : List (Addr × Obj)} (J : Nat → (Str → Option Value) → List (Addr × Obj) → Prop)
    (W : Walks prog w A I [I, ax] [I] vs.length (fun i v => vs[i]? = some v) St) (hst : St 0 s.heap) (hob : ∀ i h, St i h → ∃ o, h.get? I = some o)
    (hax : (h₀.get? ax).isSome) (hI0 : h₀.get? I = none) (hIL : I ≠ env.locals) (hnI : ∀ p ∈ news, p.1 ≠ I)
    (F : Fr h₀ env.locals s.heap m₀) (N : News h₀ env.locals s.heap news) (hj : J 0 m₀ news)
    (turn : ∀ i v m₁ nx h tk own, vs[i]? = some v → OwnOff own (nx.map (·.1)) → J i m₁ nx → Fr h₀ env.locals h (fun y => if y = x then some v else m₁ y) → News h₀ env.locals h (nx ++ own) →
      wpAny (model prog w) A (execs body env) (InvPostG h₀ env.locals (J (i + 1)) own { s with heap := h, toks := tk } Q) E { s with heap := h, toks := tk })
    (done : ∀ m₁ nx h tk, J vs.length m₁ nx → Fr h₀ env.locals h m₁ → News h₀ env.locals h nx → Q .next { s with heap := h, toks := tk }) :
    LoopAtV prog w A h₀ env x body Q E (.ref I) s := by
  obtain ⟨oax, hoax⟩ := Option.isSome_iff_exists.mp hax
  have haL : ax ≠ env.locals := fun e => absurd (Nat.lt_of_lt_of_le (Heap.lt_size hoax) F.above) (e ▸ Nat.lt_irrefl _)
  refine ⟨_, _, _, vs.length, _, _, m₀, news, J, rfl, W, ?_, ?_, ?_, hst, F, N, hj, ?_, ?_⟩
  · intro hm
    rcases List.mem_cons.mp hm with e | hm
    · exact hIL e.symm
    · exact haL (List.mem_singleton.mp hm).symm
  · intro b hb
    rw [List.mem_singleton.mp hb]
    exact hI0
  · intro p hp hI
    exact hnI p hp (List.mem_singleton.mp hI)
  · rintro i v m₁ news₁ s₁ own ⟨hh', tk', rfl⟩ hin hP hJ hoff hown _ hfp hst' F₁ N₁
    obtain ⟨oI, hoI⟩ := hob _ _ hst'
    have hIown : (I, oI) ∈ own := hfp _ (List.mem_cons.mpr (.inl rfl)) hI0 _ hoI
    have hsep : OwnOff own (news₁.map (·.1)) := by
      intro p hp b hb e
      obtain ⟨q, hq, rfl⟩ := List.mem_map.mp hb
      rcases List.mem_cons.mp (hown p hp) with h1 | h1
      · exact hoff q hq (List.mem_singleton.mpr (e ▸ h1))
      · have h2 := List.mem_singleton.mp h1
        have h3 := (N₁ q (List.mem_append.mpr (.inr hq))).2.2
        rw [← e, h2, hoax] at h3
        cases h3
    have N₂ : News h₀ env.locals hh' (news₁ ++ own) := fun p hp => N₁ p ((List.mem_append.mp hp).elim (fun h => List.mem_append.mpr (.inr h)) fun h => List.mem_append.mpr (.inl h))
    refine wpAny_mono (turn i v m₁ news₁ hh' tk' own hP hsep hJ F₁ N₂) (fun f s₂ p => ?_) fun _ _ e => e
    have fin : InvEndG h₀ env.locals (J (i + 1)) own { s with heap := hh', toks := tk' } s₂ → LoopStepU h₀ env.locals [I] own (J (i + 1)) { s with heap := hh', toks := tk' } .next s₂ := by
      rintro ⟨h', tk, m', news', nx, e, F', N', hn, ho, ha, hm⟩
      refine ⟨rfl, h', tk, m', nx, e, F', fun p hp => N' p ((List.mem_append.mp hp).elim (ho p) (hn p)), fun p hp hq => ?_, hm⟩
      exact ha _ hIown p.1 (List.mem_map.mpr ⟨p, hp, rfl⟩) (List.mem_singleton.mp hq).symm
    cases f with
    | ret v => exact .ret p
    | brk => exact .brk p
    | next => exact .next (fin p)
    | cont => exact .cont (fin p)
  · rintro h' tk m' news' F' N' _ hJ
    exact done m' news' h' tk hJ F' N'

theorem iterT {l : Addr} {vs : List Value} {m₀ : Str → Option Value} {news : List (Addr × Obj)} (J : Nat → (Str → Option Value) → List (Addr × Obj) → Prop)
    (hh : A.handled = none) (hl : IsTup h₀ l vs.toArray) (F : Fr h₀ env.locals s.heap m₀) (N : News h₀ env.locals s.heap news) (hj : J 0 m₀ news)
    (turn : ∀ i v m₁ nx h tk own, vs[i]? = some v → OwnOff own (nx.map (·.1)) → J i m₁ nx → Fr h₀ env.locals h (fun y => if y = x then some v else m₁ y) → News h₀ env.locals h (nx ++ own) →
      wpAny (model prog w) A (execs body env) (InvPostG h₀ env.locals (J (i + 1)) own { s with heap := h, toks := tk } Q) E { s with heap := h, toks := tk })
    (done : ∀ m₁ nx h tk, J vs.length m₁ nx → Fr h₀ env.locals h m₁ → News h₀ env.locals h nx → Q .next { s with heap := h, toks := tk }) :
    wpAny (model prog w) A (pyIter (.ref l)) (fun it s₂ => LoopAtV prog w A h₀ env x body Q E it s₂) E s := by
  have hls : s.heap.IsTuple l vs.toArray := hl.keeps F.keep
  obtain ⟨ol, hol, _⟩ := id hl
  have hlt : l < s.heap.objs.size := Heap.lt_size (F.keep _ _ hol)
  refine wpAny_pyIter_tuple hls ?_
  have W := Walks.tuple (prog := prog) (w := w) hh s.heap.objs.size l (Nat.ne_of_lt hlt) vs.toArray
  have hlen : vs.toArray.size = vs.length := by simp
  rw [hlen] at W
  simp only [List.getElem?_toArray] at W
  exact base_walk (s := { s with heap := s.heap.push { cls := .type "tuple_iterator", data := .fields #[.ref l, .int 0 0] } }) J W ⟨⟨_, Heap.get?_push_size _ rfl, rfl, rfl⟩, hls.at fun o e => Heap.get?_push_of_some _ e⟩ (fun i h st => ⟨_, st.1.choose_spec.1⟩) (by rw [hol]; rfl) (next_is_new F)
    (Nat.ne_of_gt F.ns.lt) (fun p hp e => absurd (Heap.lt_size (N p hp).1) (e ▸ Nat.lt_irrefl _)) (F.push _) (fun p hp => ⟨Heap.get?_push_of_some _ (N p hp).1, (N p hp).2⟩) hj turn done

theorem iterB {l : Addr} {vs : List Value} {m₀ : Str → Option Value} {news : List (Addr × Obj)} (J : Nat → (Str → Option Value) → List (Addr × Obj) → Prop)
    (hh : A.handled = none) (hl : h₀.IsList l vs.toArray) (F : Fr h₀ env.locals s.heap m₀) (N : News h₀ env.locals s.heap news) (hj : J 0 m₀ news)
    (turn : ∀ i v m₁ nx h tk own, vs[i]? = some v → OwnOff own (nx.map (·.1)) → J i m₁ nx → Fr h₀ env.locals h (fun y => if y = x then some v else m₁ y) → News h₀ env.locals h (nx ++ own) →
      wpAny (model prog w) A (execs body env) (InvPostG h₀ env.locals (J (i + 1)) own { s with heap := h, toks := tk } Q) E { s with heap := h, toks := tk })
    (done : ∀ m₁ nx h tk, J vs.length m₁ nx → Fr h₀ env.locals h m₁ → News h₀ env.locals h nx → Q .next { s with heap := h, toks := tk }) :
    wpAny (model prog w) A (pyIter (.ref l)) (fun it s₂ => LoopAtV prog w A h₀ env x body Q E it s₂) E s := by
  have hls : s.heap.IsList l vs.toArray := hl.at fun o e => F.keep l o e
  obtain ⟨ol, hol, _⟩ := id hl
  have hlt : l < s.heap.objs.size := Heap.lt_size (F.keep _ _ hol)
  refine wpAny_pyIter_list hls ?_
  have W := Walks.list (prog := prog) (w := w) hh s.heap.objs.size l (Nat.ne_of_lt hlt) vs.toArray
  have hlen : vs.toArray.size = vs.length := by simp
  rw [hlen] at W
  simp only [List.getElem?_toArray] at W
  exact base_walk (s := { s with heap := s.heap.push { cls := .type "list_iterator", data := .fields #[.ref l, .int 0 0] } }) J W ⟨⟨_, Heap.get?_push_size _ rfl, rfl, rfl⟩, hls.at fun o e => Heap.get?_push_of_some _ e⟩ (fun i h st => ⟨_, st.1.choose_spec.1⟩) (by rw [hol]; rfl) (next_is_new F)
    (Nat.ne_of_gt F.ns.lt) (fun p hp e => absurd (Heap.lt_size (N p hp).1) (e ▸ Nat.lt_irrefl _)) (F.push _) (fun p hp => ⟨Heap.get?_push_of_some _ (N p hp).1, (N p hp).2⟩) hj turn done

section
variable {σ : Type} (Ld : σ → List (Addr × Obj)) (ps : σ → List (Str × Value)) (stored : List Str) (P : Nat → σ → Prop) (c₀ : σ)

theorem loopT {l : Addr} {vs : List Value} {m₀ : Str → Option Value} {news : List (Addr × Obj)}
    (hh : A.handled = none) (hl : IsTup h₀ l vs.toArray) (F : Fr h₀ env.locals s.heap m₀) (N : News h₀ env.locals s.heap news) (hn : ∀ p ∈ Ld c₀, p ∈ news) (hk : ∀ p ∈ ps c₀, m₀ p.1 = some p.2) (hp : P 0 c₀)
    (turn : ∀ i v c (u : Str → Option Value) h tk own, vs[i]? = some v → OwnOff own ((Ld c).map (·.1)) → P i c → Fr h₀ env.locals h (fun y => if y = x then some v else kstB (fun z => if stored.contains z then u z else m₀ z) (ps c) y) → News h₀ env.locals h (Ld c ++ own) →
      wpAny (model prog w) A (execs body env) (InvPostG h₀ env.locals (JS x Ld ps stored m₀ P (i + 1)) own { s with heap := h, toks := tk } Q) E { s with heap := h, toks := tk })
    (done : ∀ c (u : Str → Option Value) h tk, P vs.length c → Fr h₀ env.locals h (fun y => if y = x then u y else kstB (fun z => if stored.contains z then u z else m₀ z) (ps c) y) → News h₀ env.locals h (Ld c) → Q .next { s with heap := h, toks := tk }) :
    wpAny (model prog w) A (pyIter (.ref l)) (fun it s₂ => LoopAtV prog w A h₀ env x body Q E it s₂) E s := by
  refine iterT (news := Ld c₀) (JS x Ld ps stored m₀ P) hh hl F (fun p hp => N p (hn p hp)) ⟨c₀, rfl, hk, fun _ _ _ _ => rfl, hp⟩ ?_ ?_
  · rintro i v m₁ nx h tk own hv hoff ⟨c, rfl, h1, h2, hp'⟩ F₁ N₁
    exact turn i v c m₁ h tk own hv hoff hp' (kst_fr h1 h2 F₁) N₁
  · rintro m₁ nx h tk ⟨c, rfl, h1, h2, hp'⟩ F₁ N₁
    exact done c m₁ h tk hp' (kst_frOut h1 h2 F₁) N₁

theorem loopB {l : Addr} {vs : List Value} {m₀ : Str → Option Value} {news : List (Addr × Obj)}
    (hh : A.handled = none) (hl : h₀.IsList l vs.toArray) (F : Fr h₀ env.locals s.heap m₀) (N : News h₀ env.locals s.heap news) (hn : ∀ p ∈ Ld c₀, p ∈ news) (hk : ∀ p ∈ ps c₀, m₀ p.1 = some p.2) (hp : P 0 c₀)
    (turn : ∀ i v c (u : Str → Option Value) h tk own, vs[i]? = some v → OwnOff own ((Ld c).map (·.1)) → P i c → Fr h₀ env.locals h (fun y => if y = x then some v else kstB (fun z => if stored.contains z then u z else m₀ z) (ps c) y) → News h₀ env.locals h (Ld c ++ own) →
      wpAny (model prog w) A (execs body env) (InvPostG h₀ env.locals (JS x Ld ps stored m₀ P (i + 1)) own { s with heap := h, toks := tk } Q) E { s with heap := h, toks := tk })
    (done : ∀ c (u : Str → Option Value) h tk, P vs.length c → Fr h₀ env.locals h (fun y => if y = x then u y else kstB (fun z => if stored.contains z then u z else m₀ z) (ps c) y) → News h₀ env.locals h (Ld c) → Q .next { s with heap := h, toks := tk }) :
    wpAny (model prog w) A (pyIter (.ref l)) (fun it s₂ => LoopAtV prog w A h₀ env x body Q E it s₂) E s := by
  refine iterB (news := Ld c₀) (JS x Ld ps stored m₀ P) hh hl F (fun p hp => N p (hn p hp)) ⟨c₀, rfl, hk, fun _ _ _ _ => rfl, hp⟩ ?_ ?_
  · rintro i v m₁ nx h tk own hv hoff ⟨c, rfl, h1, h2, hp'⟩ F₁ N₁
    exact turn i v c m₁ h tk own hv hoff hp' (kst_fr h1 h2 F₁) N₁
  · rintro m₁ nx h tk ⟨c, rfl, h1, h2, hp'⟩ F₁ N₁
    exact done c m₁ h tk hp' (kst_frOut h1 h2 F₁) N₁

theorem loopL {l : Addr} {vs : List Value} {nn : Nat} {m₀ : Str → Option Value} {news : List (Addr × Obj)}
    (hh : A.handled = none) (hl : ∀ c, (l, listOf vs.toArray nn) ∈ Ld c) (F : Fr h₀ env.locals s.heap m₀) (N : News h₀ env.locals s.heap news) (hn : ∀ p ∈ Ld c₀, p ∈ news) (hk : ∀ p ∈ ps c₀, m₀ p.1 = some p.2) (hp : P 0 c₀)
    (turn : ∀ i v c (u : Str → Option Value) h tk own, vs[i]? = some v → OwnOff own ((Ld c).map (·.1)) → P i c → Fr h₀ env.locals h (fun y => if y = x then some v else kstB (fun z => if stored.contains z then u z else m₀ z) (ps c) y) → News h₀ env.locals h (Ld c ++ own) →
      wpAny (model prog w) A (execs body env) (InvPostG h₀ env.locals (JS x Ld ps stored m₀ P (i + 1)) own { s with heap := h, toks := tk } Q) E { s with heap := h, toks := tk })
    (done : ∀ c (u : Str → Option Value) h tk, P vs.length c → Fr h₀ env.locals h (fun y => if y = x then u y else kstB (fun z => if stored.contains z then u z else m₀ z) (ps c) y) → News h₀ env.locals h (Ld c) → Q .next { s with heap := h, toks := tk }) :
    wpAny (model prog w) A (pyIter (.ref l)) (fun it s₂ => LoopAtV prog w A h₀ env x body Q E it s₂) E s := by
  refine kdl_iter (news := Ld c₀) (JS x Ld ps stored m₀ P) hh (hl c₀) F (fun p hp => N p (hn p hp)) ⟨c₀, rfl, hk, fun _ _ _ _ => rfl, hp⟩ ?_ ?_
  · rintro i v m₁ nx h tk own hv hoff _ ⟨c, rfl, h1, h2, hp'⟩ F₁ N₁
    refine wpAny_mono (turn i v c m₁ h tk own hv hoff hp' (kst_fr h1 h2 F₁) N₁) (fun f s₂ p => ?_) fun _ _ x => x
    have up : InvEndG h₀ env.locals (JS x Ld ps stored m₀ P (i + 1)) own { s with heap := h, toks := tk } s₂ →
        InvEndG h₀ env.locals (fun m' nx => (l, listOf vs.toArray nn) ∈ nx ∧ JS x Ld ps stored m₀ P (i + 1) m' nx) own { s with heap := h, toks := tk } s₂ := by
      rintro ⟨h', tk', m', news', nx', e', F', N', hn', ho', ha, hS⟩
      refine ⟨h', tk', m', news', nx', e', F', N', hn', ho', ha, ?_, hS⟩
      obtain ⟨c', rfl, _⟩ := hS
      exact hl c'
    cases f with
    | ret v => exact p
    | brk => exact p
    | next => exact up p
    | cont => exact up p
  · rintro m₁ nx h tk ⟨c, rfl, h1, h2, hp'⟩ F₁ N₁
    exact done c m₁ h tk hp' (kst_frOut h1 h2 F₁) N₁

theorem loopR {r : Addr} {a₀ b₀ : Int} {t₀ u₀ v₀ : Tok} {n : Nat} {m₀ : Str → Option Value} {news : List (Addr × Obj)}
    (hh : A.handled = none) (hr : IsRange s.heap r a₀ b₀ 1 t₀ u₀ v₀) (hsmall : Builtin.Range.small a₀ b₀ 1 = true) (hsz : Builtin.Range.rangeSize a₀ b₀ 1 = (n : Int)) (F : Fr h₀ env.locals s.heap m₀) (N : News h₀ env.locals s.heap news) (hn : ∀ p ∈ Ld c₀, p ∈ news) (hk : ∀ p ∈ ps c₀, m₀ p.1 = some p.2) (hp : P 0 c₀)
    (turn : ∀ i t c (u : Str → Option Value) h tk own, i < n → OwnOff own ((Ld c).map (·.1)) → P i c → Fr h₀ env.locals h (fun y => if y = x then some (.int (a₀ + (i : Int)) t) else kstB (fun z => if stored.contains z then u z else m₀ z) (ps c) y) → News h₀ env.locals h (Ld c ++ own) →
      wpAny (model prog w) A (execs body env) (InvPostG h₀ env.locals (JS x Ld ps stored m₀ P (i + 1)) own { s with heap := h, toks := tk } Q) E { s with heap := h, toks := tk })
    (done : ∀ c (u : Str → Option Value) h tk, P n c → Fr h₀ env.locals h (fun y => if y = x then u y else kstB (fun z => if stored.contains z then u z else m₀ z) (ps c) y) → News h₀ env.locals h (Ld c) → Q .next { s with heap := h, toks := tk }) :
    wpAny (model prog w) A (pyIter (.ref r)) (fun it s₂ => LoopAtV prog w A h₀ env x body Q E it s₂) E s := by
  refine wpAny_pyIter_range hr hsmall ?_
  have W : Walks prog w A s.heap.objs.size [s.heap.objs.size] [s.heap.objs.size] n (fun i v => i < n ∧ ∃ t, v = .int (a₀ + i * 1) t)
      (fun i h => IsRangeIter h s.heap.objs.size (a₀ + (i : Nat) * 1) ((n : Int) - (i : Nat)) 1) := (Walks.range hh _ a₀ 1 n).bound
  refine kdr_loop (JS x Ld ps stored m₀ P) W (fun _ h => h) (fun _ h => h) ?_ ?_ ?_ ?_ (by show IsRangeIter _ _ _ _ _; rw [hsz]; simpa using Heap.get?_push_size _ rfl) (F.push _) (fun p hp => ⟨Heap.get?_push_of_some _ (N p (hn p hp)).1, (N p (hn p hp)).2⟩) ⟨c₀, rfl, hk, fun _ _ _ _ => rfl, hp⟩ ?_ ?_
  · intro i h hi b hb
    rw [List.mem_singleton.mp hb]
    exact ⟨_, hi⟩
  · intro hm
    exact absurd F.ns.lt ((List.mem_singleton.mp hm) ▸ Nat.lt_irrefl _)
  · intro b hb
    rw [List.mem_singleton.mp hb]
    exact next_is_new F
  · intro p hp hI
    exact absurd (Heap.lt_size (N p (hn p hp)).1) ((List.mem_singleton.mp hI) ▸ Nat.lt_irrefl _)
  · rintro i v m₁ nx h tk own hi ⟨_, t, rfl⟩ hoff ⟨c, rfl, h1, h2, hp'⟩ F₁ N₁
    have e1 : a₀ + (i : Int) * 1 = a₀ + (i : Int) := by omega
    rw [e1] at F₁
    exact turn i t c m₁ h tk own hi hoff hp' (kst_fr h1 h2 F₁) N₁
  · rintro m₁ nx h tk ⟨c, rfl, h1, h2, hp'⟩ F₁ N₁
    exact done c m₁ h tk hp' (kst_frOut h1 h2 F₁) N₁
end
end

theorem ints_at {vs : List Value} {ns : List Int} {i : Nat} {v : Value} (hi : IntsAre vs ns) (hv : vs[i]? = some v) : ∃ x t, v = .int x t ∧ ns[i]? = some x := by
  have hlt : i < ns.length := by rw [← hi.length]; exact (List.getElem?_eq_some_iff.mp hv).1
  obtain ⟨t, hx⟩ := hi.get i (ns[i]'hlt) (List.getElem?_eq_getElem hlt)
  rw [hx] at hv
  exact ⟨_, t, (Option.some.inj hv).symm, List.getElem?_eq_getElem hlt⟩

theorem any_contains (ns : List Int) (k : Int) : ns.any (fun x => x == k) = ns.contains k := by
  induction ns with
  | nil => rfl
  | cons a r ih =>
    rw [List.any_cons, List.contains_cons, ih]
    congr 1
    exact BEq.comm
theorem filter_all {α : Type} (l : List α) : l.filter (fun _ => true) = l := List.filter_eq_self.mpr fun _ _ => rfl

theorem lay_bools {α : Type} (p : α → Bool) : ∀ l : List α, PyData.canLayAll0 (l.map fun x => PyData.bool (p x)) = true
  | [] => rfl
  | x :: r => by simp [PyData.canLayAll0, PyData.canLay0, lay_bools p r]
theorem any_false {α : Type} (p : α → Bool) : ∀ l : List α, ((l.map fun x => PyData.bool (p x)).any fun y => PyData.eqv y (.bool false)) = !(l.all p)
  | [] => rfl
  | x :: r => by
    rw [List.map_cons, List.any_cons, List.all_cons, any_false p r]
    cases p x <;> simp [PyData.eqv]
theorem any_true {α : Type} (p : α → Bool) : ∀ l : List α, ((l.map fun x => PyData.bool (p x)).any fun y => PyData.eqv y (.bool true)) = l.any p
  | [] => rfl
  | x :: r => by
    rw [List.map_cons, List.any_cons, List.any_cons, any_true p r]
    cases p x <;> simp [PyData.eqv]

theorem lookup_kstB {z : Str} : ∀ l : List (Str × Value), List.lookup z l = kstB (fun _ => none) l z
  | [] => rfl
  | p :: r => by
    show List.lookup z (p :: r) = if z = p.1 then some p.2 else kstB (fun _ => none) r z
    rw [List.lookup_cons, lookup_kstB r]
    by_cases e : z = p.1
    · subst e; simp
    · have : (z == p.1) = false := by simpa using e
      rw [if_neg e, this]

/-- what a def's own end must show -/
def RetQ (h₀ : Heap) (L : Addr) (m : Str → Option Value) (g : Heap) (Q : Value → Shared → Prop) (fl : Flow) (s' : Shared) : Prop :=
  ∃ L' m' news', Fr g L' s'.heap m' ∧ News g L' s'.heap news' ∧ (Fr h₀ L s'.heap m → News h₀ L s'.heap news' → Q (match fl with | .ret v => v | _ => .none) s')

theorem retQ {h₀ g : Heap} {L L' : Addr} {m m' : Str → Option Value} {news' : List (Addr × Obj)} {Q : Value → Shared → Prop} {v : Value} {s' : Shared} (F' : Fr g L' s'.heap m') (N' : News g L' s'.heap news')
    (k : Fr h₀ L s'.heap m → News h₀ L s'.heap news' → Q v s') : RetQ h₀ L m g Q (.ret v) s' := ⟨L', m', news', F', N', k⟩

theorem enterG {prog : Program} {w : World} {A₀ A : Around} {E : Value → Shared → Prop} {Q : Value → Shared → Prop} {s : Shared} {base h₀ : Heap} {outer : List Env} {L : Addr} {m : Str → Option Value} {env : Env} {news : List (Addr × Obj)}
    {K : Frag} {p : Program} {loose : List Str} {mean : ExcName → Option Value} {mg mb : Str → Option Value} {name qual : Str} {params : Arguments} {body : List Stmt} {scope : Scope} {dV kV doc pm cdv ct oc : Value} {an od : Option Addr} {osl : Array (Option Value)} {f : Addr} {vals : List Value} {binds : List (Str × Value)} (bs : List (Str × Value))
    (B : Below A₀ base outer h₀) (F : Fr h₀ L s.heap m) (X₀ : K.In h₀) (N : News h₀ L s.heap news) (T : Top p loose mean mg mb h₀) (hA : A.frames = some (env :: outer)) (hf : env.frame = some L) (hke : env.scope.kind = .function)
    (ho : K.lookup f = some ⟨oc, od, .func (fnOf name qual params body scope dV kV doc pm an cdv ct), osl⟩) (hcd : codeIn K cdv qual = true) (hroom : A.depth < recursionLimit)
    (hbind : BindsTo s (fnOf name qual params body scope dV kV doc pm an cdv ct) ⟨vals, []⟩ binds) (hbs : binds.reverse = bs) (hloc : ∀ y ∈ binds, scope.names.lookup y.1 = some .local)
    (hco : scope.isCoroutine = false) (hgen : scope.isGenerator = false) (hk : scope.kind = .function)
    (hcell : ∀ x ∈ scope.names, x.2 ≠ .cell)
    (h : ∀ g L' h₁ tk, Fr h₀ L g m → Fr g L' h₁ (kstB (fun _ => none) bs) → News g L' h₁ news → Below A base (env :: outer) g → K.In g → Top p loose mean mg mb g → GSub s.heap g (news.map (·.1)) →
      wpAny (model prog w) (A.deeper (envOf qual scope L' f cdv)) (execs body (envOf qual scope L' f cdv)) (RetQ h₀ L m g Q) (fun _ _ => False) { s with heap := h₁, toks := tk }) :
    wpAny (model prog w) A (call (.ref f) vals) Q E s := by
  refine wpAny_call (code_defG B F X₀ N T hA hf hke ho hcd hroom hbind hloc (fun g L' h₁ FG F' N' B' X' T' kG => ?_) hco hgen hk hcell)
  have e : (fun y => List.lookup y binds.reverse) = kstB (fun _ => none) bs := by
    funext y; rw [lookup_kstB, hbs]
  rw [e] at F'
  exact wpAny_mono (h g L' h₁ _ FG F' N' B' X' T' kG) (fun fl s' hl => hl) fun _ _ x => x.elim

theorem enterC {prog : Program} {w : World} {A₀ A : Around} {E : Value → Shared → Prop} {Q : Value → Shared → Prop} {s : Shared} {base h₀ : Heap} {outer : List Env} {L : Addr} {m : Str → Option Value} {env : Env} {news : List (Addr × Obj)}
    {K : Frag} {p : Program} {loose : List Str} {mean : ExcName → Option Value} {mg mb : Str → Option Value} {name qual : Str} {params : Arguments} {body : List Stmt} {scope : Scope} {dV kV doc pm cdv ct oc : Value} {an od : Option Addr} {osl : Array (Option Value)} {f : Addr} {vals : List Value} {binds : List (Str × Value)} (bs : List (Str × Value)) (x0 : Str) (cv : Option Value)
    (B : Below A₀ base outer h₀) (F : Fr h₀ L s.heap m) (X₀ : K.In h₀) (N : News h₀ L s.heap news) (T : Top p loose mean mg mb h₀) (hA : A.frames = some (env :: outer)) (hf : env.frame = some L) (hke : env.scope.kind = .function)
    (ho : K.lookup f = some ⟨oc, od, .func (fnOf name qual params body scope dV kV doc pm an cdv ct), osl⟩) (hcd : codeIn K cdv qual = true) (hroom : A.depth < recursionLimit)
    (hbind : BindsTo s (fnOf name qual params body scope dV kV doc pm an cdv ct) ⟨vals, []⟩ binds)
    (hkind : (binds.all fun y => scope.names.lookup y.1 == some .local || scope.names.lookup y.1 == some .cell) = true)
    (hbs : ∀ L', bindL (envOfC qual scope L' f cdv).kindOf binds (fun _ => none) = kstB (fun _ => none) bs)
    (hcs : ∀ L', cellsFrom (L' + 1) scope.names [] = [(x0, L' + 1)]) (hcv : ∀ L', bindC (envOfC qual scope L' f cdv).kindOf binds (fun _ => none) x0 = cv)
    (hco : scope.isCoroutine = false) (hgen : scope.isGenerator = false) (hk : scope.kind = .function)
    (h : ∀ g L' h₁ tk co, Fr h₀ L g m → Fr g L' h₁ (kstB (fun _ => none) bs) → News g L' h₁ ((L' + 1, co) :: news) → co.data = .cell cv → Below A base (env :: outer) g → K.In g → Top p loose mean mg mb g → GSub s.heap g (news.map (·.1)) → (∀ p ∈ news, p.1 < L') →
      wpAny (model prog w) (A.deeper (envOfC qual scope L' f cdv)) (execs body (envOfC qual scope L' f cdv)) (RetQ h₀ L m g Q) (fun _ _ => False) { s with heap := h₁, toks := tk }) :
    wpAny (model prog w) A (call (.ref f) vals) Q E s := by
  refine wpAny_call ?_
  obtain ⟨FG, BG, st, lv⟩ := groundX (R := fun r s' => match r with | .ok (.ret v) => Q v s' | .ok _ => False | .error e => E e s') B F N hA hf hke
  have X := X₀.keeps F.keep
  refine codeAny_call_function hroom (X _ _ ho) rfl hco hgen rfl (codeRec_of X hcd) (hbind _ _ _ _ ?_)
  refine wpAny_newFunctionEnv_cells hk (kindsX hkind _) fun env' he s' x => ?_
  subst he
  refine ⟨(T.nolimit.keeps F.keep).keeps x.toInCall.keep, codeAny_func ?_⟩
  obtain ⟨h₁, tk, rfl, _⟩ := x.done
  have hk₁ := x.toInCall.keep
  have hnd : ((cellsFrom 0 scope.names []).map (·.1)).Nodup := by
    rw [cellsFrom_names scope.names 0 (0 + 1) [] [] rfl, hcs 0]
    simp
  obtain ⟨cells, NC, Y⟩ := Cl.news (h₀ := s.heap) (Nat.le_refl _) fun n c hm => ⟨x.cell n c (lookup_of_mem_nodup (cellsFrom_names scope.names 0 (s.heap.objs.size + 1) [] [] rfl ▸ hnd) hm), x.above n c hm⟩
  have Y' : CellsAre (bindC (envOfC qual scope s.heap.objs.size f cdv).kindOf binds (fun _ => none)) (cellsFrom (s.heap.objs.size + 1) scope.names []) cells := Y
  rw [hcs] at Y'
  obtain ⟨co, rfl, hco'⟩ := Y'.one
  rw [hcv] at hco'
  have F' : Fr (hideAll s.heap (news.map (·.1))) s.heap.objs.size h₁ (bindL (envOfC qual scope s.heap.objs.size f cdv).kindOf binds fun _ => none) := ⟨x.toInCall.ns, fun b o e => hk₁ b o (of_hideAll _ e), Nat.le_of_eq (hideAll_size _ _)⟩
  rw [hbs] at F'
  refine wpAny_mono (h _ s.heap.objs.size h₁ tk co FG F' (fun p hp => ?_) hco' BG (X₀.keeps st) (T.keeps st) (fun b o e n => hideAll_get _ e n) (fun p hp => Heap.lt_size (N p hp).1)) (fun fl s' hl => lv _ _ hl) fun _ _ y => y.elim
  rcases List.mem_cons.mp hp with rfl | hp
  · have z := NC (s.heap.objs.size + 1, co) (.head _)
    refine ⟨z.1, z.2.1, ?_⟩
    cases q : (hideAll s.heap (news.map (·.1))).get? (s.heap.objs.size + 1) with
    | none => rfl
    | some o => have := of_hideAll _ q; rw [z.2.2] at this; cases this
  · exact ⟨hk₁ _ _ (N p hp).1, Nat.ne_of_lt (Heap.lt_size (N p hp).1), hideAll_none _ (List.mem_map_of_mem hp)⟩

/-- a list comprehension of one clause over a list or a tuple, whatever its length; an element keeps all that stands -/
theorem comp_ok {prog : Program} {w : World} {A : Around} {E : Value → Shared → Prop} {env : Env} {s : Shared} {elt iter : Expr} {x : Str} {px : Pos} {ifs : List Expr} {scope : Scope} {cl : List (Str × Addr)} {pos : Pos} {Q : Value → Shared → Prop} (p : Value → Bool) (R : Value → Value → Prop)
    (hh : A.handled = none) (hclos : closureFor scope env = pure cl) (hcell : ∀ y ∈ scope.names, y.2 ≠ .cell) (hkind : scope.kind = .function)
    (hnames : ∀ y ∈ scope.names, y.2 = .local → scope.names.lookup y.1 = some .local) (hx : scope.names.lookup x = some .local)
    (h : wpAny (model prog w) A (eval iter env) (fun xv s₁ => ∃ ax vs, xv = .ref ax ∧ (s₁.heap.IsList ax (List.toArray vs) ∨ IsTup s₁.heap ax vs.toArray) ∧ vs.length ≤ sizeLine ∧
      (∀ C v s₃ m₃ E', s₁.heap.objs.size ≤ C → v ∈ vs → s₃.heap.Ns C m₃ → m₃ x = some v → (∀ b o, s₁.heap.get? b = some o → s₃.heap.get? b = some o) →
        wpAny (model prog w) A (forIn ifs true fun c r => if r = true then do let ok ← isTrue c (compEnvC scope cl C env) (eval c (compEnvC scope cl C env)); pure (ForInStep.yield ok) else pure (ForInStep.yield r))
          (fun ok s₄ => ok = p v ∧ Keeps s₃ s₄) E' s₃) ∧
      (∀ C v s₃ m₃ E', s₁.heap.objs.size ≤ C → v ∈ vs → p v = true → s₃.heap.Ns C m₃ → m₃ x = some v → (∀ b o, s₁.heap.get? b = some o → s₃.heap.get? b = some o) →
        wpAny (model prog w) A (eval elt (compEnvC scope cl C env)) (fun y s₄ => R v y ∧ Keeps s₃ s₄) E' s₃) ∧
      (∀ D h' tk (ys : List Value), s₁.heap.get? D = none → h'.IsList D ys.toArray → h'.PlainList D ys.toArray → Paired R (vs.filter p) ys → (∀ b o, s₁.heap.get? b = some o → h'.get? b = some o) → Q (.ref D) { s₁ with heap := h', toks := tk })) E s)
    (hs : ∀ x, foldedSetIterable iter env x = pure x := by intro _; rfl) :
    wpAny (model prog w) A (eval (.ListComp elt [⟨.Name x px, iter, ifs, 0⟩] scope pos) env) Q E s := by
  refine wpAny_ListComp_free p R hclos hcell hkind hnames hx (wpAny_mono h (fun xv s₁ h₁ => ?_) fun _ _ e => e) hs
  obtain ⟨ax, vs, rfl, hl, hsz, htests, helt, hQ⟩ := h₁
  have up : ∀ (o' : Obj) (s₃ : Shared), (∀ b o, b ∉ [s₁.heap.objs.size] → (s₁.heap.push o').get? b = some o → s₃.heap.get? b = some o) → ∀ b o, s₁.heap.get? b = some o → s₃.heap.get? b = some o :=
    fun o' s₃ hk b o e => hk b o (fun hm => by rcases List.mem_cons.mp hm with rfl | hm; exact Nat.lt_irrefl _ (Heap.lt_size e); cases hm) (Heap.get?_push_of_some _ e)
  have gone : ∀ (o' : Obj) (D : Addr), (s₁.heap.push o').get? D = none → s₁.heap.get? D = none := fun o' D hn => by
    cases e : s₁.heap.get? D with
    | none => rfl
    | some o => rw [Heap.get?_push_of_some _ e] at hn; cases hn
  have hlt : ax < s₁.heap.objs.size := by
    rcases hl with ⟨_, e, _⟩ | ⟨_, e, _⟩ <;> exact Heap.lt_size e
  have fps : ∀ (o' : Obj), ∀ b ∈ [s₁.heap.objs.size, ax], b < (s₁.heap.push o').objs.size := by
    intro o' b hb
    rw [Heap.size_push]
    rcases List.mem_cons.mp hb with rfl | hb
    · exact Nat.lt_succ_self _
    · rw [List.mem_singleton.mp hb]; exact Nat.lt_succ_of_lt hlt
  have szs : vs.toArray.size ≤ sizeLine := by rw [List.size_toArray]; exact hsz
  rcases hl with hl | hl
  · refine wpAny_pyIter_list hl ⟨s₁.heap.objs.size, [s₁.heap.objs.size, ax], [s₁.heap.objs.size], vs.toArray.size, _, _, rfl, Walks.list hh _ _ (Nat.ne_of_lt hlt) vs.toArray, szs, ⟨⟨_, Heap.get?_push_size _ rfl, rfl, rfl⟩, hl.push _⟩, fps _, ⟨?_, ?_⟩, ?_⟩
    · intro C i v s₃ m₃ E' hC hP hn hm hk _
      exact htests C v s₃ m₃ E' (Nat.le_of_succ_le (by simpa [Heap.size_push] using hC)) (by simpa using Array.mem_of_getElem? hP) hn hm (up _ s₃ hk)
    · intro C i v s₃ m₃ E' hC hP hp hn hm hk _
      exact helt C v s₃ m₃ E' (Nat.le_of_succ_le (by simpa [Heap.size_push] using hC)) (by simpa using Array.mem_of_getElem? hP) hp hn hm (up _ s₃ hk)
    · intro D h' tk ys vs' hnew hlD hplD hlen hP hF hk
      have e : vs' = vs := by simpa using list_of_places hlen hP
      subst e
      exact hQ D h' tk ys.toList (gone _ _ hnew) (by rw [Array.toArray_toList]; exact hlD) (by rw [Array.toArray_toList]; exact hplD) hF (up _ { s₁ with heap := h' } hk)
  · have hl' : s₁.heap.IsTuple ax vs.toArray := hl
    refine wpAny_pyIter_tuple hl' ⟨s₁.heap.objs.size, [s₁.heap.objs.size, ax], [s₁.heap.objs.size], vs.toArray.size, _, _, rfl, Walks.tuple hh _ _ (Nat.ne_of_lt hlt) vs.toArray, szs, ⟨⟨_, Heap.get?_push_size _ rfl, rfl, rfl⟩, hl'.push _⟩, fps _, ⟨?_, ?_⟩, ?_⟩
    · intro C i v s₃ m₃ E' hC hP hn hm hk _
      exact htests C v s₃ m₃ E' (Nat.le_of_succ_le (by simpa [Heap.size_push] using hC)) (by simpa using Array.mem_of_getElem? hP) hn hm (up _ s₃ hk)
    · intro C i v s₃ m₃ E' hC hP hp hn hm hk _
      exact helt C v s₃ m₃ E' (Nat.le_of_succ_le (by simpa [Heap.size_push] using hC)) (by simpa using Array.mem_of_getElem? hP) hp hn hm (up _ s₃ hk)
    · intro D h' tk ys vs' hnew hlD hplD hlen hP hF hk
      have e : vs' = vs := by simpa using list_of_places hlen hP
      subst e
      exact hQ D h' tk ys.toList (gone _ _ hnew) (by rw [Array.toArray_toList]; exact hlD) (by rw [Array.toArray_toList]; exact hplD) hF (up _ { s₁ with heap := h' } hk)

section
variable {prog : Program} {w : World} {A : Around} {E : Value → Shared → Prop} {s : Shared} {h₀ : Heap} {L : Addr} {m : Str → Option Value}
theorem lenT {l : Addr} {vs : List Value} {ns : List Int} {Q : Value → Shared → Prop} (F : Fr h₀ L s.heap m) (ht : IsTup h₀ l vs.toArray) (hi : IntsAre vs ns) (hfit : (ns.length : Int) < 2 ^ 62)
    (h : Q (.int (ns.length : Int) (s.toks + 1)) { s with toks := s.toks + 1 + 1 }) : wpAny (model prog w) A (call (.builtin "len") [.ref l]) Q E s := by
  have e : vs.toArray.size = ns.length := by rw [List.size_toArray, hi.length]
  exact len_tuple (ht.keeps F.keep) (by rw [e]; omega) (by rw [e]; exact h)
theorem itemT {value slice : PySem.Expr} {l : Addr} {vs : List Value} {ns : List Int} {k : Int} {u : Tok} {Q : Value → Shared → Prop} (F : Fr h₀ L s.heap m) (ht : IsTup h₀ l vs.toArray) (hi : IntsAre vs ns) (h0 : 0 ≤ k) (h1 : k < (ns.length : Int)) (hfit : (ns.length : Int) < 2 ^ 62)
    (h : ∀ t, Q (.int (ns.getD k.toNat 0) t) s)
    (hs : subscripted slice false (.ref l) (.int k u) = operate [.ref l, .int k u] (getItem (.ref l) (.int k u)) := by with_unfolding_all rfl) :
    wpAny (model prog w) A (subscriptTail value slice (.ref l) (.int k u)) Q E s := by
  have hk : k.toNat < ns.length := by omega
  obtain ⟨t, hx⟩ := hi.get k.toNat (ns[k.toNat]'hk) (List.getElem?_eq_getElem hk)
  have hj : seqIndex? k vs.length = some k.toNat := by
    have hl := hi.length
    unfold seqIndex?
    have h2 : ¬ k < 0 := by omega
    have h3 : k < (vs.length : Int) := by omega
    simp [h2, h3, h0]
  exact item_tupleT (ht.keeps F.keep) (by omega) (by omega) (by simpa using hj) (by simpa using hx) (by have h' := h t; rw [List.getD_eq_getElem?_getD, List.getElem?_eq_getElem hk] at h'; exact h') hs
end

theorem stayIn {h g : Heap} (kG : GSub h g (([] : List (Addr × Obj)).map (·.1))) : ∀ b o, h.get? b = some o → g.get? b = some o := fun b o e => kG b o e (by simp)

end Mine

namespace Mine
open PySem PySem.W PyProof.Rows PySem.Calls PySem.Spec
theorem within_ok {prog : Program} {w : World} {p : Program} {loose : List Str} {mean : ExcName → Option Value} {mg mb : Str → Option Value}
  {dp un : Nat} {gd : Option (List Code)} {cn : Str} {cs : Scope} {a : Addr} {ccd : Value} {cl : List (Str × Addr)} {outer : List Env} {A₀ : Around} {base h₀ : Heap} {L : Addr} {m : Str → Option Value} {s : Shared} {Q E : Value → Shared → Prop}
  {a1 a2 : Addr} {vs1 vs2 : List Value} {n1 n2 : List Int}
  (B : Below A₀ base outer h₀) (F : Fr h₀ L s.heap m) (X : (hd.heap_39 w.params).In h₀) (T : Top p loose mean mg mb h₀) (hk : cs.kind = .function)
  (hd : dp + 1 < recursionLimit)
  (t1 : IsTup s.heap a1 vs1.toArray) (i1 : IntsAre vs1 n1) (t2 : IsTup s.heap a2 vs2.toArray) (i2 : IntsAre vs2 n2)
  (ret : ∀ h' tk, Fr h₀ L h' m → (∀ b o, s.heap.get? b = some o → h'.get? b = some o) → Q (.bool (n1.all (fun x => n2.contains x))) { s with heap := h', toks := tk }) :
  wpAny (model prog w) (ktrTop dp un gd cn cs L a ccd cl outer) (call (.ref 28) [.ref a1, .ref a2]) Q E s := by
  have N : News h₀ L s.heap [] := News.nil
  k_dflt (refine' enterG [(Str.ofString "large", .ref a2), (Str.ofString "small", .ref a1)] ?k1 ?k2 ?k3 ?k4 ?k5 ?kA ?kF ?kK ?k6 ?k7 ?k8 ?k9 ?kr ?kB ?c2 ?c3 ?c4 ?c5 ?_; (case kA => exact rfl); (case kF => exact rfl); (case kK => assumption); (case k1 => k_asm); (case k2 => k_asm); (case k3 => k_asm); (case k4 => k_asm); (case k5 => k_asm); (case k6 => k_is); (case k7 => k_is); (case k8 => ktr_room); (case k9 => exact BindsTo.of_eq rfl); (case kr => with_unfolding_all exact rfl); (case c5 => decide); (case kB => exact locs rfl); (case c2 => exact rfl); (case c3 => exact rfl); (case c4 => exact rfl))
  intro g L1 h1 tk FG F1 N1 B1 X1 T1 kG
  have st := stayIn kG
  have t1' := t1.keeps st
  have t2' := t2.keeps st
  clear t1 t2 kG FG F B X T N
  k_steps
  rename_i F1
  refine loopT (fun (_ : Unit) => []) (fun _ => []) [] (fun i _ => ∀ j, j < i → ∀ x, n1[j]? = some x → x ∈ n2) () rfl t1' F1 N1 (by simp) (by simp) (by omega) ?_ ?_
  · intro i v c u h2 tk own hv hoff hP F2 N2
    obtain ⟨x, t, rfl, hx⟩ := ints_at i1 hv
    clear F1 N1
    k_steps
    · rename_i hin
      refine js_end () F2 N2 (by simp) (by simp) (by simp [OwnOff]) (by simp) (fun z h1 _ _ => by simp [h1, kstB]) ?_
      intro j hj y hy
      rcases Nat.lt_succ_iff_lt_or_eq.mp hj with h | rfl
      · exact hP j h y hy
      · rw [hx] at hy
        obtain rfl := Option.some.inj hy
        simpa using hin
    · rename_i hin
      refine retQ F2 N2 fun F3 _ => ?_
      have e : n1.all (fun x => n2.contains x) = false := by
        rw [List.all_eq_false]
        refine ⟨x, List.mem_of_getElem? hx, ?_⟩
        have hin2 : ∀ y ∈ n2, ¬ y = x := by simpa using hin
        simpa using fun h => hin2 x h rfl
      rw [← e]
      exact ret _ _ F3 fun b o q => F2.keep b o (st b o q)
  · intro c u h2 tk hP F2 N2
    clear F1 N1
    k_steps
    refine retQ F2 N2 fun F3 _ => ?_
    have e : n1.all (fun x => n2.contains x) = true := by
      rw [List.all_eq_true]
      intro x hx
      obtain ⟨j, hj, rfl⟩ := List.getElem_of_mem hx
      simpa using hP j (by rw [i1.length]; exact hj) _ (List.getElem?_eq_getElem hj)
    rw [← e]
    exact ret _ _ F3 fun b o q => F2.keep b o (st b o q)
end Mine

namespace Mine
open PySem PySem.W PyProof.Rows PySem.Calls PySem.Spec
local macro_rules | `(tactic| walk_at "eval ListComp") => `(tactic| refine Stop.out ?_)
local macro_rules | `(tactic| walk_at "pyIter ref") => `(tactic| refine Stop.out ?_)
local macro_rules | `(tactic| walk_at "call ref") => `(tactic| refine Stop.out ?_)


theorem law_holds_ok {prog : Program} {w : World} {p : Program} {loose : List Str} {mean : ExcName → Option Value} {mg mb : Str → Option Value}
  {dp un : Nat} {gd : Option (List Code)} {cn : Str} {cs : Scope} {a : Addr} {ccd : Value} {cl : List (Str × Addr)} {outer : List Env} {A₀ : Around} {base h₀ : Heap} {L : Addr} {m : Str → Option Value} {s : Shared} {Q E : Value → Shared → Prop}
  {a1 a2 : Addr} {vs1 vs2 : List Value} {n1 n2 : List Int}
  (B : Below A₀ base outer h₀) (F : Fr h₀ L s.heap m) (X : (hd.heap_39 w.params).In h₀) (T : Top p loose mean mg mb h₀) (hk : cs.kind = .function)
  (hd : dp + 1 < recursionLimit) (hu : un + 100 < cLine)
  (t1 : s.heap.IsList a1 vs1.toArray) (i1 : IntsAre vs1 n1) (t2 : s.heap.IsList a2 vs2.toArray) (i2 : IntsAre vs2 n2)
  (l1 : n1.length ≤ 100) (l2 : n2.length ≤ 100)
  (ret : ∀ h' tk, Fr h₀ L h' m → (∀ b o, s.heap.get? b = some o → h'.get? b = some o) → Q (.bool (n2.all (fun x => n1.contains x))) { s with heap := h', toks := tk }) :
  wpAny (model prog w) (ktrTop dp un gd cn cs L a ccd cl outer) (call (.ref 68) [.ref a1, .ref a2]) Q E s := by
  have N : News h₀ L s.heap [] := News.nil
  k_dflt (refine' enterC [(Str.ofString "small", .ref a2)] (Str.ofString "large") (some (.ref a1)) ?k1 ?k2 ?k3 ?k4 ?k5 ?kA ?kF ?kK ?k6 ?k7 ?k8 ?k9 ?kB ?kr ?kc ?kv ?c2 ?c3 ?c4 ?_; (case kA => exact rfl); (case kF => exact rfl); (case kK => assumption); (case k1 => k_asm); (case k2 => k_asm); (case k3 => k_asm); (case k4 => k_asm); (case k5 => k_asm); (case k6 => k_is); (case k7 => k_is); (case k8 => ktr_room); (case k9 => exact BindsTo.of_eq rfl); (case kr => (intro _; with_unfolding_all exact rfl)); (case kc => (intro _; exact rfl)); (case kv => (intro _; with_unfolding_all exact rfl)); (case kB => exact rfl); (case c2 => exact rfl); (case c3 => exact rfl); (case c4 => exact rfl))
  intro g L1 h1 tk co FG F1 N1 hco B1 X1 T1 kG hlt
  have st := stayIn kG
  have t1' : g.IsList a1 vs1.toArray := t1.at fun o e => st a1 o e
  have t2' : g.IsList a2 vs2.toArray := t2.at fun o e => st a2 o e
  clear t1 t2 kG FG F B X T N
  k_steps
  unfold Stop
  refine comp_ok (fun _ => true) (fun v y => ∃ x t, v = .int x t ∧ y = .bool (n1.contains x)) rfl (cl := [(Str.ofString "large", L1 + 1)]) (by with_unfolding_all rfl) (by decide) rfl (by decide) (by rfl) ?_
  refine nameX_L F1 (by with_unfolding_all rfl) ?_ (by rfl) (by rfl)
  have t2h := t2'.at (h' := h1) fun o e => F1.keep a2 o e
  refine ⟨a2, vs2, rfl, .inl t2h, by rw [i2.length, sizeLine_eq]; omega, ?_, ?_, ?_⟩
  · intro C v s₃ m₃ E' hC hv hn hm hkp
    exact wpAny_tests_nil ⟨rfl, s₃.heap, s₃.toks, rfl, fun _ _ e => e⟩
  · intro C v s₃ m₃ E' hC hv _ hn hm hkp
    obtain ⟨x, t, rfl⟩ := IntsAre.all i2 v hv
    have N3 := N1.grown hkp
    have t1h := t1'.at (h' := s₃.heap) fun o e => hkp _ o (F1.keep a1 o e)
    refine wpAny_Compare1 ?_
    refine wpAny_Name (wpAny_loadName_local (by rfl) (by rfl) hn hm ?_)
    refine lcf_cell N3 (by rfl) (.head _) hco ?_ (by rfl) (by rfl)
    exact in_list_ints t1h i1 ⟨⟨x, t, rfl, by rw [any_contains]⟩, s₃.heap, s₃.toks, rfl, fun _ _ e => e⟩
  · intro D h' tk ys hD hl hpl hP hkp
    have F2 := F1.kept hkp
    have hrd : ReadsAll h' ys (n2.map fun x => PyData.bool (n1.contains x)) [] := by
      have hP' : Paired (fun v y => ∃ x t, v = Value.int x t ∧ y = .bool (n1.contains x)) vs2 ys := by rw [filter_all] at hP; exact hP
      clear hP hl hpl
      revert hP' ys
      clear t2h l2 ret t2'
      induction i2 with
      | nil => intro ys hP'; cases hP'; exact ReadsAll.nil
      | cons n t r ih =>
        intro ys hP'
        cases hP' with
        | cons hab hr =>
          obtain ⟨x, t, e, rfl⟩ := hab
          cases e
          exact ReadsAll.cons (Reads.bool _) (ih _ hr)
    obtain ⟨o, ho, hc, n, hd'⟩ := hl
    have hr2 : Reads h' (.ref D) (.list (n2.map fun x => PyData.bool (n1.contains x))) [D] := reads_list_at ho hc hd' (by simpa using hrd)
    refine SeqAt.notIn_list_reads hr2 (Reads.bool false) ?_ rfl ?_ ?_
    · exact lay_bools _ _
    · show un + 3 + 1 + min _ 0 < cLine
      rw [Nat.min_zero]
      omega
    · refine retQ F2 (news' := []) News.nil fun F3 _ => ?_
      rw [any_false, Bool.not_not]
      exact ret _ _ F3 fun b o q => hkp _ _ (F1.keep b o (st b o q))
end Mine

namespace Mine
open PySem PySem.W PyProof.Rows PySem.Calls PySem.Spec
local macro_rules | `(tactic| walk_at "eval ListComp") => `(tactic| refine Stop.out ?_)
local macro_rules | `(tactic| walk_at "pyIter ref") => `(tactic| refine Stop.out ?_)
local macro_rules | `(tactic| walk_at "call ref") => `(tactic| refine Stop.out ?_)


theorem bead_ok {prog : Program} {w : World} {p : Program} {loose : List Str} {mean : ExcName → Option Value} {mg mb : Str → Option Value}
  {dp un : Nat} {gd : Option (List Code)} {cn : Str} {cs : Scope} {a : Addr} {ccd : Value} {cl : List (Str × Addr)} {outer : List Env} {A₀ : Around} {base h₀ : Heap} {L : Addr} {m : Str → Option Value} {s : Shared} {Q E : Value → Shared → Prop}
  {b : Addr} {vs : List Value} {ns : List Int} {n : Nat} {k : Int} {t : Tok}
  (B : Below A₀ base outer h₀) (F : Fr h₀ L s.heap m) (X : (hd.heap_39 w.params).In h₀) (T : Top p loose mean mg mb h₀) (hk : cs.kind = .function)
  (hd : dp + 1 < recursionLimit) (hu : un + 100 < cLine)
  (N : News h₀ L s.heap [(b, listOf vs.toArray n)]) (i1 : IntsAre vs ns) (l1 : ns.length ≤ 100) (hk0 : 0 < k) (hk1 : k < 1000)
  (ret : ∀ r tr h' tk vs' ns' n', Fr h₀ L h' m → News h₀ L h' [(b, listOf (List.toArray vs') n')] → IntsAre vs' ns' → ns'.length ≤ ns.length → 0 ≤ r → r < k → (∀ a o, a ≠ b → s.heap.get? a = some o → h'.get? a = some o) → Q (.int r tr) { s with heap := h', toks := tk }) :
  wpAny (model prog w) (ktrTop dp un gd cn cs L a ccd cl outer) (call (.ref 56) [.ref b, .int k t]) Q E s := by
  k_dflt (refine' enterG [(Str.ofString "many", .int k t), (Str.ofString "beads", .ref b)] ?k1 ?k2 ?k3 ?k4 ?k5 ?kA ?kF ?kK ?k6 ?k7 ?k8 ?k9 ?kr ?kB ?c2 ?c3 ?c4 ?c5 ?_; (case kA => exact rfl); (case kF => exact rfl); (case kK => assumption); (case k1 => k_asm); (case k2 => k_asm); (case k3 => k_asm); (case k4 => k_asm); (case k5 => k_asm); (case k6 => k_is); (case k7 => k_is); (case k8 => ktr_room); (case k9 => exact BindsTo.of_eq rfl); (case kr => with_unfolding_all exact rfl); (case c5 => decide); (case kB => exact locs rfl); (case c2 => exact rfl); (case c3 => exact rfl); (case c4 => exact rfl))
  intro g L1 h1 tk FG F1 N1 B1 X1 T1 kG
  have fin : ∀ r tr h2 tk2 vs' ns' n', Fr g L1 h2 (kstB (fun x => none) [(Str.ofString "many", .int k t), (Str.ofString "beads", .ref b)]) → News g L1 h2 [(b, listOf (List.toArray vs') n')] → IntsAre vs' ns' → ns'.length ≤ ns.length → 0 ≤ r → r < k →
      RetQ h₀ L m g Q (Flow.ret (.int r tr)) { s with heap := h2, toks := tk2 } := by
    intro r tr h2 tk2 vs' ns' n' F2 N2 i2 l2 r0 r1
    refine retQ F2 N2 fun F3 N3 => ret _ _ _ _ _ _ _ F3 N3 i2 l2 r0 r1 fun a' o ha e => F2.keep _ _ (kG _ _ e ?_)
    simpa using ha
  k_steps
  · exact fin 0 _ _ _ vs ns n (by assumption) (fun p hp => (by assumption : News g L1 _ _) p (.tail _ hp)) i1 (Nat.le_refl _) (Int.le_refl _) hk0
  · rename_i h2 l2 F2 N2 hlt hne
    have hne' : ns ≠ [] := of_decide_eq_false hne
    have hpos : 0 < vs.length := by rw [i1.length]; exact List.length_pos_iff.mpr hne'
    refine kpa_pop F2 N2 (Upd.tail (Nat.ne_of_gt hlt) (Upd.head (List.forall_mem_nil _))) i1 hpos (by rw [i1.length, sizeLine_eq]; omega) ?_
    intro h3 t3 F3 N3 i3
    k_steps
    exact fin _ _ _ _ _ _ _ F3 (fun p hp => N3 p (.tail _ hp)) i3 (by rw [List.length_dropLast]; omega) (Int.fmod_nonneg_of_pos _ hk0) (Int.fmod_lt_of_pos _ hk0)
end Mine

namespace Mine
open PySem PySem.W PyProof.Rows PySem.Calls PySem.Spec
local macro_rules | `(tactic| walk_at "eval ListComp") => `(tactic| refine Stop.out ?_)
local macro_rules | `(tactic| walk_at "pyIter ref") => `(tactic| refine Stop.out ?_)
local macro_rules | `(tactic| walk_at "call ref") => `(tactic| refine Stop.out ?_)

local macro_rules | `(tactic| walk_at "call builtin:len") => `(tactic| ((with_reducible show wpAny _ _ (call (Value.builtin "len") [Value.ref _]) _ _ _); (refine' lenT ?F ?t ?i ?f ?_; (case F => k_asm); (case t => assumption); (case i => assumption); (case f => omega); k_whole)))
local macro_rules | `(tactic| walk_at "subscriptTail") => `(tactic| ((with_reducible show wpAny _ _ (subscriptTail _ _ (Value.ref _) (Value.int _ _)) _ _ _); (refine' itemT ?F ?t ?i ?a ?b ?f ?_ ?k; (case F => k_asm); (case t => assumption); (case i => assumption); (case a => omega); (case b => omega); (case f => omega); (case k => with_unfolding_all rfl)); intro t'))

local macro_rules | `(tactic| walk_at "exec While BoolOp cons nil") => `(tactic| refine Stop.out ?_)

/-- the union of two rising rows -/
def mrg : List Int → List Int → List Int
  | [], ys => ys
  | x :: xs, [] => x :: xs
  | x :: xs, y :: ys => if x < y then x :: mrg xs (y :: ys) else if y < x then y :: mrg (x :: xs) ys else x :: mrg xs ys
termination_by xs ys => xs.length + ys.length

theorem mrg_nil (xs : List Int) : mrg xs [] = xs := by cases xs <;> rw [mrg]
theorem mrg_nil' (ys : List Int) : mrg [] ys = ys := by rw [mrg]
theorem mrg_left {n1 n2 : List Int} {i j : Nat} (hi : i < n1.length) (c : n2.length ≤ j ∨ n1.getD i 0 < n2.getD j 0) : mrg (n1.drop i) (n2.drop j) = n1.getD i 0 :: mrg (n1.drop (i + 1)) (n2.drop j) := by
  have e : n1.getD i 0 = n1[i] := by simp [hi]
  rw [List.drop_eq_getElem_cons hi, e]
  rcases Nat.lt_or_ge j n2.length with hj | hj
  · have e2 : n2.getD j 0 = n2[j] := by simp [hj]
    have hc : n1[i] < n2[j] := by rw [← e, ← e2]; omega
    rw [List.drop_eq_getElem_cons hj, mrg, if_pos hc]
  · rw [List.drop_of_length_le (l := n2) hj, mrg_nil, mrg_nil]
theorem mrg_right {n1 n2 : List Int} {i j : Nat} (hj : j < n2.length) (c : n1.length ≤ i ∨ n2.getD j 0 < n1.getD i 0) : mrg (n1.drop i) (n2.drop j) = n2.getD j 0 :: mrg (n1.drop i) (n2.drop (j + 1)) := by
  have e : n2.getD j 0 = n2[j] := by simp [hj]
  rw [List.drop_eq_getElem_cons hj, e]
  rcases Nat.lt_or_ge i n1.length with hi | hi
  · have e2 : n1.getD i 0 = n1[i] := by simp [hi]
    have hc : n2[j] < n1[i] := by rw [← e, ← e2]; omega
    rw [List.drop_eq_getElem_cons hi, mrg, if_neg (by omega), if_pos hc]
  · rw [List.drop_of_length_le (l := n1) hi, mrg_nil', mrg_nil']
theorem mrg_both {n1 n2 : List Int} {i j : Nat} (hi : i < n1.length) (hj : j < n2.length) (c1 : ¬ n1.getD i 0 < n2.getD j 0) (c2 : ¬ n2.getD j 0 < n1.getD i 0) : mrg (n1.drop i) (n2.drop j) = n1.getD i 0 :: mrg (n1.drop (i + 1)) (n2.drop (j + 1)) := by
  have e : n1.getD i 0 = n1[i] := by simp [hi]
  have e2 : n2.getD j 0 = n2[j] := by simp [hj]
  rw [e, e2] at c1 c2
  rw [e, List.drop_eq_getElem_cons hi, List.drop_eq_getElem_cons hj, mrg, if_neg c1, if_neg c2]
theorem mrg_done {n1 n2 : List Int} {i j : Nat} (hi : n1.length ≤ i) (hj : n2.length ≤ j) : mrg (n1.drop i) (n2.drop j) = [] := by
  rw [List.drop_of_length_le hi, List.drop_of_length_le hj, mrg]

structure MSt where
  i : Nat
  j : Nat
  ti : Tok
  tj : Tok
  vs : List Value
  ns : List Int
  e : Nat

theorem merge_ok {prog : Program} {w : World} {p : Program} {loose : List Str} {mean : ExcName → Option Value} {mg mb : Str → Option Value}
  {dp un : Nat} {gd : Option (List Code)} {cn : Str} {cs : Scope} {a : Addr} {ccd : Value} {cl : List (Str × Addr)} {outer : List Env} {A₀ : Around} {base h₀ : Heap} {L : Addr} {m : Str → Option Value} {s : Shared} {Q E : Value → Shared → Prop}
  {a1 a2 : Addr} {vs1 vs2 : List Value} {n1 n2 : List Int} {k : Int} {t : Tok}
  (B : Below A₀ base outer h₀) (F : Fr h₀ L s.heap m) (X : (hd.heap_39 w.params).In h₀) (T : Top p loose mean mg mb h₀) (hk : cs.kind = .function)
  (hd : dp + 1 < recursionLimit) (hu : un + 100 < cLine)
  (t1 : IsTup s.heap a1 vs1.toArray) (i1 : IntsAre vs1 n1) (t2 : IsTup s.heap a2 vs2.toArray) (i2 : IntsAre vs2 n2)
  (l1 : n1.length ≤ 100) (l2 : n2.length ≤ 100)
  (ret0 : k < ((mrg n1 n2).length : Int) → ∀ h' tk, Fr h₀ L h' m → (∀ b o, s.heap.get? b = some o → h'.get? b = some o) → Q .none { s with heap := h', toks := tk })
  (ret1 : ¬ k < ((mrg n1 n2).length : Int) → ∀ h' tk r vs, Fr h₀ L h' m → (∀ b o, s.heap.get? b = some o → h'.get? b = some o) → s.heap.get? r = none → IsTup h' r (List.toArray vs) → IntsAre vs (mrg n1 n2) → Q (.ref r) { s with heap := h', toks := tk }) :
  wpAny (model prog w) (ktrTop dp un gd cn cs L a ccd cl outer) (call (.ref 21) [.ref a1, .ref a2, .int k t]) Q E s := by
  have N : News h₀ L s.heap [] := News.nil
  k_dflt (refine' enterG [(Str.ofString "k", .int k t), (Str.ofString "c2", .ref a2), (Str.ofString "c1", .ref a1)] ?k1 ?k2 ?k3 ?k4 ?k5 ?kA ?kF ?kK ?k6 ?k7 ?k8 ?k9 ?kr ?kB ?c2 ?c3 ?c4 ?c5 ?_; (case kA => exact rfl); (case kF => exact rfl); (case kK => assumption); (case k1 => k_asm); (case k2 => k_asm); (case k3 => k_asm); (case k4 => k_asm); (case k5 => k_asm); (case k6 => k_is); (case k7 => k_is); (case k8 => ktr_room); (case k9 => exact BindsTo.of_eq rfl); (case kr => with_unfolding_all exact rfl); (case c5 => decide); (case kB => exact locs rfl); (case c2 => exact rfl); (case c3 => exact rfl); (case c4 => exact rfl))
  intro g L1 h1 tk FG F1 N1 B1 X1 T1 kG
  have st := stayIn kG
  have t1' := t1.keeps st
  have t2' := t2.keeps st
  clear t1 t2 kG FG F B X T N
  k_steps
  rename_i M hA lT hB hC hD F2 N2
  unfold Stop
  refine ksw_while (σ := MSt) (fun c => [(M, listOf (List.toArray c.vs) c.e)]) (fun c => [(Str.ofString "i", .int (c.i : Int) c.ti), (Str.ofString "j", .int (c.j : Int) c.tj)]) (fun c => IntsAre c.vs c.ns) []
    (fun c => c.i ≤ n1.length ∧ c.j ≤ n2.length ∧ c.ns ++ mrg (n1.drop c.i) (n2.drop c.j) = mrg n1 n2 ∧ c.ns.length ≤ c.i + c.j) (fun c => (n1.length - c.i) + (n2.length - c.j)) ⟨0, 0, ?tkA, ?tkB, [], [], 0⟩
    F2 N2 ?kf ?kk ?kp ?_
  case kf => exact .nil
  case kk =>
    intro p hp
    simp only [List.mem_cons, List.not_mem_nil, or_false] at hp
    rcases hp with rfl | rfl
    · rfl
    · rfl
  case kp => exact ⟨Nat.zero_le _, Nat.zero_le _, rfl, Nat.le_refl _⟩
  · intro c u h3 tk3 hfc hpc F3 N3
    obtain ⟨q1, q2, q3, q4⟩ := hpc
    clear F2 N2
    obtain ⟨i, j, ti, tj, vs, ns, e⟩ := c
    dsimp only at q1 q2 q3 q4 hfc N3 F3 ⊢
    dsimp only [kstB] at F3
    k_steps
    all_goals (try simp only [Int.toNat_natCast] at *)
    all_goals (try (exfalso; omega))
    all_goals (try (rename Fr _ _ _ _ => F4; rename News _ _ _ _ => N4; simp only [List.push_toArray] at N4))
    all_goals first
      | (refine ksw_end ⟨i + 1, j, _, _, vs ++ [_], ns ++ [n1.getD i 0], e + 1⟩ F4 N4 (fun p hp => hp) (ksk_snoc hfc) (by kst_all) ?_ ⟨by dsimp only; omega, by dsimp only; omega, ?_, by simp; omega⟩ (by dsimp only; omega)
         · intro z hz _
           simp only [List.forall_mem_cons, List.not_mem_nil, false_implies, implies_true, and_true, ne_eq] at hz
           simp [hz, kstB]
         · dsimp only
           rw [← q3, mrg_left (i := i) (j := j) (by omega) (by omega), List.append_assoc]; rfl)
      | (refine ksw_end ⟨i, j + 1, _, _, vs ++ [_], ns ++ [n2.getD j 0], e + 1⟩ F4 N4 (fun p hp => hp) (ksk_snoc hfc) (by kst_all) ?_ ⟨by dsimp only; omega, by dsimp only; omega, ?_, by simp; omega⟩ (by dsimp only; omega)
         · intro z hz _
           simp only [List.forall_mem_cons, List.not_mem_nil, false_implies, implies_true, and_true, ne_eq] at hz
           simp [hz, kstB]
         · dsimp only
           rw [← q3, mrg_right (i := i) (j := j) (by omega) (by omega), List.append_assoc]; rfl)
      | (refine ksw_end ⟨i + 1, j + 1, _, _, vs ++ [_], ns ++ [n1.getD i 0], e + 1⟩ F4 N4 (fun p hp => hp) (ksk_snoc hfc) (by kst_all) ?_ ⟨by dsimp only; omega, by dsimp only; omega, ?_, by simp; omega⟩ (by dsimp only; omega)
         · intro z hz _
           simp only [List.forall_mem_cons, List.not_mem_nil, false_implies, implies_true, and_true, ne_eq] at hz
           simp [hz, kstB]
         · dsimp only
           rw [← q3, mrg_both (i := i) (j := j) (by omega) (by omega) (by omega) (by omega), List.append_assoc]; rfl)
      | skip
    · rename_i hi0 hj0 hk0
      have e0 : mrg n1 n2 = ns := by rw [← q3, mrg_done (by omega) (by omega), List.append_nil]
      refine retQ F3 N3 fun F5 _ => ret0 (by rw [e0]; exact hk0) _ _ F5 fun b o q => F3.keep b o (st b o q)
    · rename_i hi0 hj0 hk0 D h4 F4 N4 kp4
      have e0 : mrg n1 n2 = ns := by rw [← q3, mrg_done (by omega) (by omega), List.append_nil]
      refine retQ F4 N4 fun F5 _ => ret1 (by rw [e0]; exact hk0) _ _ _ _ F5 (fun b o q => F4.keep b o (st b o q)) ?_ ⟨_, (N4 _ (.head _)).1, rfl, _, rfl⟩ (by rw [e0]; exact hfc)
      cases q : s.heap.get? D with
      | none => rfl
      | some o =>
        have q1 := (N4 _ (.head _)).2.2
        dsimp only at q1
        rw [st _ _ q] at q1
        cases q1
end Mine

namespace Mine
open PySem PySem.W PyProof.Rows PySem.Calls PySem.Spec
/-- the tree of questions, answered by lt -/
def Good {α : Type} (lt : Nat → Nat → Bool) (n : Nat) (post : α → Prop) : KasT α → Prop
  | .ret a => post a
  | .ask i j k => i < n ∧ j < n ∧ Good lt n post (k (lt i j))

section
variable {lt : Nat → Nat → Bool} {n : Nat}
theorem good_mono {α : Type} {post post' : α → Prop} (hp : ∀ a, post a → post' a) : ∀ {t : KasT α}, Good lt n post t → Good lt n post' t
  | .ret _, h => hp _ h
  | .ask _ _ _, ⟨h1, h2, h⟩ => ⟨h1, h2, good_mono hp h⟩
theorem good_bind {α β : Type} {f : α → KasT β} {post : β → Prop} : ∀ {t : KasT α}, Good lt n (fun a => Good lt n post (f a)) t → Good lt n post (t.bind f)
  | .ret _, h => h
  | .ask _ _ _, ⟨h1, h2, h⟩ => ⟨h1, h2, good_bind h⟩
theorem good_run {α : Type} {post : α → Prop} {cmp : Nat → Nat → (Bool → Shared → Prop) → Shared → Prop} {Inv : Shared → Prop} {G : α → Shared → Prop}
    (hc : ∀ i j C s, i < n → j < n → Inv s → (∀ s', Inv s' → C (lt i j) s') → cmp i j C s) (hG : ∀ a s, post a → Inv s → G a s) : ∀ {t : KasT α} {s : Shared}, Good lt n post t → Inv s → t.kasWp cmp G s
  | .ret _, _, h, hi => hG _ _ h hi
  | .ask _ _ _, _, ⟨h1, h2, h⟩, hi => hc _ _ _ _ h1 h2 hi fun _ hi' => good_run hc hG h hi'

theorem good_if {α : Type} {post : α → Prop} {b : Bool} {T₁ T₂ : KasT α} (h1 : b = true → Good lt n post T₁) (h2 : b = false → Good lt n post T₂) : Good lt n post (if b = true then T₁ else T₂) := by
  cases b with
  | true => rw [if_pos rfl]; exact h1 rfl
  | false => rw [if_neg (by simp)]; exact h2 rfl

structure Ord (lt : Nat → Nat → Bool) : Prop where
  asym : ∀ a b, lt a b = true → lt b a = false
  tr : ∀ a b c, lt b a = false → lt c b = false → lt c a = false

abbrev at' (p : Array Nat) (i : Nat) : Nat := p.getD i 0
theorem at_eq (p : Array Nat) (i : Nat) : at' p i = (p[i]?).getD 0 := by simp [at']
theorem at_rev {p : Array Nat} {i j : Nat} (hj : j ≤ p.size) (k : Nat) : at' (kas_rev p i j) k = if i ≤ k ∧ k < j then at' p (i + j - 1 - k) else at' p k := by
  rw [at_eq, at_eq, at_eq]
  unfold kas_rev
  rw [getElem?_mirror_all hj]
  split <;> rfl
theorem at_bub {p : Array Nat} {src d : Nat} (hs : src < p.size) (hd : d ≤ src) (k : Nat) : at' (bubble p src d) k = if k = src - d then at' p src else if src - d < k ∧ k ≤ src then at' p (k - 1) else at' p k := by
  rw [at_eq, at_eq, at_eq, at_eq, getElem?_bubble hs d hd]
  repeat' split
  all_goals rfl

def Vp (n : Nat) (p : Array Nat) : Prop := p.Perm (List.range n).toArray
theorem Vp.size {p : Array Nat} (h : Vp n p) : p.size = n := by
  have := h.size_eq
  simpa using this
theorem Vp.at_lt {p : Array Nat} (h : Vp n p) (hn : 0 < n) (i : Nat) : at' p i < n := by
  rw [at_eq]
  cases e : p[i]? with
  | none => exact hn
  | some x =>
    have hm : x ∈ p := Array.mem_of_getElem? e
    have hm2 := h.mem_iff.mp hm
    simpa using hm2
theorem Vp.rev {p : Array Nat} (h : Vp n p) (i j : Nat) : Vp n (kas_rev p i j) := (mirror_perm _ _ _ _).trans h
theorem Vp.bub {p : Array Nat} (h : Vp n p) (i j : Nat) : Vp n (bubble p i j) := (bubble_perm _ _ _).trans h

def Asc (lt : Nat → Nat → Bool) (p : Array Nat) (k : Nat) : Prop := ∀ i j, i ≤ j → j < k → lt (at' p j) (at' p i) = false
def Dsc (lt : Nat → Nat → Bool) (p : Array Nat) (k : Nat) : Prop := ∀ i j, i ≤ j → j < k → lt (at' p i) (at' p j) = false

theorem Ord.irr (O : Ord lt) (a : Nat) : lt a a = false := by
  cases e : lt a a with
  | false => rfl
  | true => have := O.asym a a e; rw [e] at this; exact this
/-- of one weight -/
def Eqv (lt : Nat → Nat → Bool) (a b : Nat) : Prop := lt a b = false ∧ lt b a = false
theorem Eqv.symm {a b : Nat} (h : Eqv lt a b) : Eqv lt b a := ⟨h.2, h.1⟩
theorem Ord.eqv_refl (O : Ord lt) (a : Nat) : Eqv lt a a := ⟨O.irr a, O.irr a⟩
theorem Ord.eqv_trans (O : Ord lt) {a b c : Nat} (h : Eqv lt a b) (k : Eqv lt b c) : Eqv lt a c := ⟨O.tr c b a k.1 h.1, O.tr a b c h.2 k.2⟩
theorem Ord.le_congr (O : Ord lt) {a b a' b' : Nat} (ha : Eqv lt a a') (hb : Eqv lt b b') (h : lt a b = false) : lt a' b' = false :=
  O.tr b' a a' (O.tr b' b a hb.1 h) ha.2

theorem asc_one (O : Ord lt) (p : Array Nat) : Asc lt p 1 := by
  intro i j hi hj
  obtain rfl : j = 0 := by omega
  obtain rfl : i = 0 := by omega
  exact O.irr _
theorem asc_succ (O : Ord lt) {p : Array Nat} {k : Nat} (h1 : 1 ≤ k) (h : Asc lt p k) (hn : lt (at' p k) (at' p (k - 1)) = false) : Asc lt p (k + 1) := by
  intro i j hi hj
  by_cases hk : j < k
  · exact h i j hi hk
  · obtain rfl : j = k := by omega
    by_cases hij : i = j
    · subst hij; exact O.irr _
    · exact O.tr _ (at' p (j - 1)) _ (h i (j - 1) (by omega) (by omega)) hn
theorem dsc_succ (O : Ord lt) {p : Array Nat} {k : Nat} (h1 : 1 ≤ k) (h : Dsc lt p k) (hn : lt (at' p (k - 1)) (at' p k) = false) : Dsc lt p (k + 1) := by
  intro i j hi hj
  by_cases hk : j < k
  · exact h i j hi hk
  · obtain rfl : j = k := by omega
    by_cases hij : i = j
    · subst hij; exact O.irr _
    · exact O.tr _ (at' p (j - 1)) _ hn (h i (j - 1) (by omega) (by omega))

theorem asc_good (O : Ord lt) (hn : 0 < n) {p : Array Nat} (hp : Vp n p) : ∀ (f k : Nat), 1 ≤ k → k + f ≤ n → Asc lt p k →
    Good lt n (fun r => k ≤ r ∧ r ≤ k + f ∧ Asc lt p r ∧ (r = k + f ∨ lt (at' p r) (at' p (r - 1)) = true)) (kas_asc p f k)
  | 0, k, _, _, h => ⟨Nat.le_refl _, Nat.le_refl _, h, .inl rfl⟩
  | f + 1, k, h1, hf, h => by
    refine ⟨hp.at_lt hn _, hp.at_lt hn _, ?_⟩
    refine good_if (fun e => ?_) (fun e => ?_)
    ·
      exact ⟨Nat.le_refl _, by omega, h, .inr e⟩
    ·
      refine good_mono (fun r hr => ?_) (asc_good O hn hp f (k + 1) (by omega) (by omega) (asc_succ O h1 h e))
      exact ⟨by omega, by omega, hr.2.2.1, hr.2.2.2.imp (fun x => by omega) id⟩

theorem desc_good (O : Ord lt) (hn : 0 < n) : ∀ (f : Nat) (p : Array Nat) (k q : Nat), Vp n p → q < k → k + f ≤ n → Dsc lt p k → (∀ i, k - (q + 1) ≤ i → i < k → Eqv lt (at' p i) (at' p (k - 1))) →
    Good lt n (fun r => Vp n r.1 ∧ k ≤ r.2.1 ∧ r.2.1 ≤ k + f ∧ r.2.2 < r.2.1 ∧ Dsc lt r.1 r.2.1 ∧ (∀ i, r.2.1 - (r.2.2 + 1) ≤ i → i < r.2.1 → Eqv lt (at' r.1 i) (at' r.1 (r.2.1 - 1)))) (kas_desc f p k q)
  | 0, p, k, q, hp, hq, _, h, he => ⟨hp, Nat.le_refl _, Nat.le_refl _, hq, h, he⟩
  | f + 1, p, k, q, hp, hq, hf, h, he => by
    refine ⟨hp.at_lt hn _, hp.at_lt hn _, ?_⟩
    refine good_if (fun e => ?_) (fun e => ?_)
    ·
      have hd1 := dsc_succ O (by omega) h (O.asym _ _ e)
      have last : ∀ r : Array Nat, ∀ i, k + 1 - (0 + 1) ≤ i → i < k + 1 → Eqv lt (at' r i) (at' r (k + 1 - 1)) := by
        intro r i a b
        have hik : i = k + 1 - 1 := by omega
        rw [hik]
        exact O.eqv_refl _
      have wk : ∀ r : Array Nat × Nat × Nat, (Vp n r.1 ∧ k + 1 ≤ r.2.1 ∧ r.2.1 ≤ k + 1 + f ∧ r.2.2 < r.2.1 ∧ Dsc lt r.1 r.2.1 ∧ (∀ i, r.2.1 - (r.2.2 + 1) ≤ i → i < r.2.1 → Eqv lt (at' r.1 i) (at' r.1 (r.2.1 - 1)))) →
          (Vp n r.1 ∧ k ≤ r.2.1 ∧ r.2.1 ≤ k + (f + 1) ∧ r.2.2 < r.2.1 ∧ Dsc lt r.1 r.2.1 ∧ (∀ i, r.2.1 - (r.2.2 + 1) ≤ i → i < r.2.1 → Eqv lt (at' r.1 i) (at' r.1 (r.2.1 - 1)))) :=
        fun r hr => ⟨hr.1, by omega, by omega, hr.2.2.2.1, hr.2.2.2.2.1, hr.2.2.2.2.2⟩
      by_cases hq0 : q > 0
      · rw [if_pos hq0]
        refine good_mono wk (desc_good O hn f _ (k + 1) 0 (hp.rev _ _) (by omega) (by omega) ?_ (last _))
        have heq : ∀ i, Eqv lt (at' p i) (at' (kas_rev p (k - (q + 1)) k) i) := by
          intro i
          rw [at_rev (by rw [hp.size]; omega)]
          split
          · rename_i hi
            exact O.eqv_trans (he i hi.1 hi.2) (he (k - (q + 1) + k - 1 - i) (by omega) (by omega)).symm
          · exact O.eqv_refl _
        intro i j hi hj
        exact O.le_congr (heq i) (heq j) (hd1 i j hi hj)
      · rw [if_neg hq0]
        exact good_mono wk (desc_good O hn f p (k + 1) 0 hp (by omega) (by omega) hd1 (last _))
    ·
      refine ⟨hp.at_lt hn _, hp.at_lt hn _, ?_⟩
      refine good_if (fun e2 => ?_) (fun e2 => ?_)
      ·
        exact ⟨hp, Nat.le_refl _, Nat.le_add_right _ _, hq, h, he⟩
      ·
        refine good_mono (fun r hr => ⟨hr.1, Nat.le_of_succ_le hr.2.1, by have := hr.2.2.1; omega, hr.2.2.2.1, hr.2.2.2.2.1, hr.2.2.2.2.2⟩) (desc_good O hn f p (k + 1) (q + 1) hp (by omega) (by omega) (dsc_succ O (by omega) h e2) ?_)
        intro i hi1 hi2
        have hk1 : k + 1 - 1 = k := by omega
        rw [hk1]
        by_cases hik : i = k
        · subst hik; exact O.eqv_refl _
        · exact O.eqv_trans (he i (by omega) (by omega)) ⟨e2, e⟩

theorem rev_asc {p : Array Nat} {k : Nat} (hk : k ≤ p.size) (h : Dsc lt p k) : Asc lt (kas_rev p 0 k) k := by
  intro i j hi hj
  rw [at_rev hk, at_rev hk, if_pos ⟨Nat.zero_le _, hj⟩, if_pos ⟨Nat.zero_le _, by omega⟩]
  exact h _ _ (by omega) (by omega)

theorem tail3_good (O : Ord lt) (hn : 0 < n) {p : Array Nat} {k : Nat} (hp : Vp n p) (h1 : 1 ≤ k) (hk : k ≤ n) (h : Dsc lt p k) :
    Good lt n (fun r => Vp n r.2 ∧ 1 ≤ r.1 ∧ r.1 ≤ n ∧ Asc lt r.2 r.1) (kas_tail3 k n p) := by
  unfold kas_tail3
  refine good_bind (good_mono (fun r hr => ?_) (asc_good O hn (hp.rev 0 k) (n - k) k h1 (by omega) (rev_asc (by rw [hp.size]; exact hk) h)))
  exact ⟨hp.rev 0 k, by omega, by omega, hr.2.2.1⟩

theorem descPart_good (O : Ord lt) (hn : 0 < n) {p : Array Nat} {k : Nat} (hp : Vp n p) (h1 : 1 ≤ k) (hk : k + 1 ≤ n) (h : Dsc lt p (k + 1)) :
    Good lt n (fun r => Vp n r.2 ∧ 1 ≤ r.1 ∧ r.1 ≤ n ∧ Asc lt r.2 r.1) (kas_descPart k n p) := by
  unfold kas_descPart
  refine good_bind (good_mono (fun r hr => ?_) (desc_good O hn (n - (k + 1)) p (k + 1) 0 hp (by omega) (by omega) h ?_))
  · obtain ⟨v, a, b, c, d, e⟩ := hr
    by_cases hq : r.2.2 > 0
    · rw [if_pos hq]
      refine tail3_good O hn (v.rev _ _) (by omega) (by omega) ?_
      have heq : ∀ i, Eqv lt (at' r.1 i) (at' (kas_rev r.1 (r.2.1 - (r.2.2 + 1)) r.2.1) i) := by
        intro i
        rw [at_rev (by rw [v.size]; omega)]
        split
        · rename_i hi
          exact O.eqv_trans (e i hi.1 hi.2) (e (r.2.1 - (r.2.2 + 1) + r.2.1 - 1 - i) (by omega) (by omega)).symm
        · exact O.eqv_refl _
      intro i j hi hj
      exact O.le_congr (heq i) (heq j) (d i j hi hj)
    · rw [if_neg hq]
      exact tail3_good O hn v (by omega) (by omega) d
  · intro i a b
    obtain rfl : i = k := by omega
    exact O.eqv_refl _

theorem count_good (O : Ord lt) (hn : 0 < n) {p : Array Nat} (hp : Vp n p) : Good lt n (fun r => Vp n r.2 ∧ 1 ≤ r.1 ∧ r.1 ≤ n ∧ Asc lt r.2 r.1) (kas_count n p) := by
  unfold kas_count
  refine good_bind (good_mono (fun r hr => ?_) (asc_good O hn hp (n - 1) 1 (Nat.le_refl _) (by omega) (asc_one O p)))
  obtain ⟨a, b, c, d⟩ := hr
  by_cases e1 : (r == n) = true
  · rw [if_pos e1]
    exact ⟨hp, a, by omega, c⟩
  · rw [if_neg e1]
    have hrn : r ≠ n := fun q => e1 (by rw [q]; exact beq_self_eq_true _)
    have hlt : lt (at' p r) (at' p (r - 1)) = true := d.resolve_left (by omega)
    by_cases e2 : r > 1
    · rw [if_pos e2]
      refine ⟨hp.at_lt hn _, hp.at_lt hn _, ?_⟩
      refine good_if (fun e => ?_) (fun e => ?_)
      ·
        exact ⟨hp, a, by omega, c⟩
      ·
        refine descPart_good O hn (hp.rev 0 r) a (by omega) ?_
        have all : ∀ i, i < r → Eqv lt (at' p i) (at' p (r - 1)) := fun i hi =>
          ⟨O.tr (at' p (r - 1)) (at' p 0) (at' p i) e (c 0 i (Nat.zero_le _) hi) |> fun h => by
            exact h, c i (r - 1) (by omega) (by omega)⟩
        have hr2 : ∀ i, i < r → Eqv lt (at' (kas_rev p 0 r) i) (at' p (r - 1)) := by
          intro i hi
          rw [at_rev (by rw [hp.size]; omega), if_pos ⟨Nat.zero_le _, hi⟩]
          exact all _ (by omega)
        have hlast : at' (kas_rev p 0 r) r = at' p r := by
          rw [at_rev (by rw [hp.size]; omega), if_neg (by omega)]
        refine dsc_succ O a (fun i j hi hj => ?_) ?_
        · exact (O.eqv_trans (hr2 i (by omega)) (hr2 j hj).symm).1
        · rw [hlast]
          exact O.le_congr (hr2 (r - 1) (by omega)).symm (O.eqv_refl _) (O.asym _ _ hlt)
    · rw [if_neg e2]
      obtain rfl : r = 1 := by omega
      refine descPart_good O hn hp (Nat.le_refl _) (by omega) (dsc_succ O (Nat.le_refl _) ?_ (O.asym _ _ hlt))
      intro i j hi hj
      obtain rfl : j = 0 := by omega
      obtain rfl : i = 0 := by omega
      exact O.irr _

theorem place_good (O : Ord lt) (hn : 0 < n) {p : Array Nat} {k : Nat} (hp : Vp n p) (hk : k < n) (h : Asc lt p k) : ∀ (f l r : Nat), l ≤ k → r ≤ k → r ≤ l + f →
    (∀ i, i < l → lt (at' p k) (at' p i) = false) → (∀ i, r ≤ i → i < k → lt (at' p i) (at' p k) = false) →
    Good lt n (fun z => z ≤ k ∧ (∀ i, i < z → lt (at' p k) (at' p i) = false) ∧ (∀ i, z ≤ i → i < k → lt (at' p i) (at' p k) = false)) (kas_place p k f l r)
  | 0, l, r, hl, hr, hf, h1, h2 => ⟨hl, h1, fun i a b => h2 i (by omega) b⟩
  | f + 1, l, r, hl, hr, hf, h1, h2 => by
    unfold kas_place
    by_cases hlr : l ≥ r
    · rw [if_pos hlr]
      exact ⟨hl, h1, fun i a b => h2 i (by omega) b⟩
    · rw [if_neg hlr]
      refine ⟨hp.at_lt hn _, hp.at_lt hn _, ?_⟩
      refine good_if (fun e => ?_) (fun e => ?_)
      ·
        refine place_good O hn hp hk h f l ((l + r) / 2) hl (by omega) (by omega) h1 fun i a b => ?_
        exact O.tr (at' p k) (at' p ((l + r) / 2)) (at' p i) (O.asym _ _ e) (h _ _ a b)
      ·
        refine place_good O hn hp hk h f ((l + r) / 2 + 1) r (by omega) hr (by omega) (fun i a => ?_) h2
        exact O.tr (at' p i) (at' p ((l + r) / 2)) (at' p k) (h i _ (by omega) (by omega)) e

theorem bub_asc (O : Ord lt) {p : Array Nat} {k z : Nat} (hk : k < p.size) (hz : z ≤ k) (h : Asc lt p k) (h1 : ∀ i, i < z → lt (at' p k) (at' p i) = false) (h2 : ∀ i, z ≤ i → i < k → lt (at' p i) (at' p k) = false) :
    Asc lt (bubble p k (k - z)) (k + 1) := by
  have e : k - (k - z) = z := by omega
  intro i j hi hj
  rw [at_bub hk (by omega), at_bub hk (by omega), e]
  by_cases a : i = z
  · by_cases b : j = z
    · rw [if_pos a, if_pos b]; exact O.irr _
    · rw [if_pos a, if_neg b, if_pos (by omega)]
      exact h2 _ (by omega) (by omega)
  · by_cases b : j = z
    · rw [if_neg a, if_pos b, if_neg (by omega)]
      exact h1 _ (by omega)
    · rw [if_neg a, if_neg b]
      by_cases c : z < i ∧ i ≤ k
      · rw [if_pos c, if_pos (by omega)]
        exact h _ _ (by omega) (by omega)
      · rw [if_neg c]
        by_cases d : z < j ∧ j ≤ k
        · rw [if_pos d]
          exact h _ _ (by omega) (by omega)
        · rw [if_neg d]
          exact h _ _ hi (by omega)

theorem bin_good (O : Ord lt) (hn : 0 < n) : ∀ (f : Nat) (p : Array Nat) (k : Nat), Vp n p → k + f = n → Asc lt p k → Good lt n (fun r => Vp n r ∧ Asc lt r n) (kas_bin f p k)
  | 0, p, k, hp, hk, h => ⟨hp, by rw [← hk]; exact h⟩
  | f + 1, p, k, hp, hk, h => by
    unfold kas_bin
    refine good_bind (good_mono (fun z hz => ?_) (place_good O hn hp (by omega) h k 0 k (Nat.zero_le _) (Nat.le_refl _) (by omega) (fun i a => absurd a (Nat.not_lt_zero _)) (fun i a b => absurd b (by omega))))
    exact bin_good O hn f _ (k + 1) (hp.bub _ _) (by omega) (bub_asc O (by rw [hp.size]; omega) hz.1 h hz.2.1 hz.2.2)

theorem sort_good (O : Ord lt) (hn : 0 < n) : Good lt n (fun r => Vp n r ∧ Asc lt r n) (kas_sort n) := by
  unfold kas_sort
  refine good_bind (good_mono (fun r hr => ?_) (count_good O hn (p := List.toArray (List.range n)) (Array.Perm.refl _)))
  obtain ⟨v, a, b, c⟩ := hr
  by_cases hlt : r.1 < n
  · rw [if_pos hlt]
    have e : max r.1 1 = r.1 := by omega
    rw [e]
    exact bin_good O hn _ _ _ v (by omega) c
  · rw [if_neg hlt]
    obtain e : r.1 = n := by omega
    rw [e] at c
    exact ⟨v, c⟩
end
end Mine

namespace Mine
open PySem PySem.W PyProof.Rows PySem.Calls PySem.Spec
/-- Python's order of two rows of ints -/
def ltL : List Int → List Int → Bool
  | [], [] => false
  | [], _ :: _ => true
  | _ :: _, [] => false
  | x :: xs, y :: ys => if x = y then ltL xs ys else decide (x < y)

theorem ltL_irr : ∀ a : List Int, ltL a a = false
  | [] => rfl
  | x :: a => by rw [ltL, if_pos rfl, ltL_irr a]
theorem ltL_asym : ∀ a b : List Int, ltL a b = true → ltL b a = false
  | [], [], h => by simp [ltL] at h
  | [], _ :: _, _ => rfl
  | _ :: _, [], h => by simp [ltL] at h
  | x :: a, y :: b, h => by
    rw [ltL] at h ⊢
    by_cases e : x = y
    · rw [if_pos e] at h
      rw [if_pos e.symm]
      exact ltL_asym a b h
    · rw [if_neg e] at h
      rw [if_neg fun q => e q.symm]
      simp at h ⊢
      omega
theorem ltL_tr : ∀ a b c : List Int, ltL b a = false → ltL c b = false → ltL c a = false
  | [], _, [], _, _ => rfl
  | [], _, _ :: _, _, _ => rfl
  | _ :: _, [], _, h, _ => by simp [ltL] at h
  | _ :: _, _ :: _, [], _, h => by simp [ltL] at h
  | x :: a, y :: b, z :: c, h1, h2 => by
    rw [ltL] at h1 h2 ⊢
    by_cases e1 : y = x
    · subst e1
      rw [if_pos rfl] at h1
      by_cases e2 : z = y
      · rw [if_pos e2] at h2 ⊢
        exact ltL_tr a b c h1 h2
      · rw [if_neg e2] at h2 ⊢
        exact h2
    · rw [if_neg e1] at h1
      simp at h1
      by_cases e2 : z = y
      · subst e2
        rw [if_neg e1]
        simp; omega
      · rw [if_neg e2] at h2
        simp at h2
        rw [if_neg (by omega)]
        simp; omega
theorem ltL_total : ∀ a b : List Int, ltL a b = false → ltL b a = false → a = b
  | [], [], _, _ => rfl
  | [], _ :: _, h, _ => by simp [ltL] at h
  | _ :: _, [], _, h => by simp [ltL] at h
  | x :: a, y :: b, h1, h2 => by
    rw [ltL] at h1 h2
    by_cases e : x = y
    · subst e
      rw [if_pos rfl] at h1 h2
      rw [ltL_total a b h1 h2]
    · rw [if_neg e] at h1
      rw [if_neg fun q => e q.symm] at h2
      simp at h1 h2
      omega

/-- the key: the size first, then the nodes -/
def kcut (c : List Int) : List Int := (c.length : Int) :: c
def ltC (c d : List Int) : Bool := ltL (kcut c) (kcut d)
theorem ltC_eq (c d : List Int) : ltC c d = if (c.length : Int) = d.length then ltL c d else decide ((c.length : Int) < d.length) := rfl
theorem ltC_ord (f : Nat → List Int) : Ord (fun i j => ltC (f i) (f j)) := ⟨fun _ _ h => ltL_asym _ _ h, fun _ _ _ h k => ltL_tr _ _ _ h k⟩

section
variable {prog : Program} {w : World} {A : Around} {E : Value → Shared → Prop} {s : Shared}
theorem itemsAre_of {vs : List Value} {ns : List Int} (h : IntsAre vs ns) : PySem.ItemsAre (intKind prog w) ns vs := by
  induction h with
  | nil => exact .nil
  | cons n t _ ih => exact .cons (intKind_is prog w n t) ih
theorem tupleKey_of {a : Addr} {vs : List Value} {ns : List Int} (h : IsTup s.heap a vs.toArray) (hi : IntsAre vs ns) : IsTupleKey (intKind prog w) s.heap ns a := by
  obtain ⟨o, ho, hc, n, hd⟩ := h
  exact ⟨o, _, n, ho, hc, hd, by simpa using itemsAre_of hi⟩
theorem eqBool_tup {a b : Addr} {vs ws : List Value} {ns ms : List Int} {Q : Bool → Shared → Prop} (hu : A.units < cLine) (h1 : IsTup s.heap a vs.toArray) (i1 : IntsAre vs ns) (h2 : IsTup s.heap b ws.toArray) (i2 : IntsAre ws ms) (h : Q (decide (ns = ms)) s) :
    wpAny (model prog w) A (eqBool (.ref a) (.ref b)) Q E s := wpAny_eqBool_tuple hu (tupleKey_of h1 i1) (tupleKey_of h2 i2) h

theorem tup_lt_tree {a b : Addr} {vs ws : List Value} {ns ms : List Int} {P : PySem.Fin → Shared → Prop} (h1 : IsTup s.heap a vs.toArray) (i1 : IntsAre vs ns) (h2 : IsTup s.heap b ws.toArray) (i2 : IntsAre ws ms) (h : P (.done (.ret (.bool (ltL ns ms)))) s) :
    wpAny (model prog w) A (Builtin.«tuple.__lt__» ⟨[.ref a, .ref b], []⟩) P E s := by
  have hTb := h2.typeIs
  obtain ⟨oa, hoa, _, na, hda⟩ := h1
  obtain ⟨ob, hob, _, nb, hdb⟩ := h2
  show wpAny _ _ (isInstance (.ref b) (.type "tuple") >>= _) _ _ s
  refine wpAny_bind (wpAny_isInstance hTb isSubtype_tuple_tuple ?_)
  simp only [Bool.not_true, Bool.false_eq_true, if_false]
  refine wpAny_bind (wpAny_tupleItemsOf hoa hda ?_)
  refine wpAny_bind (wpAny_tupleItemsOf hob hdb ?_)
  refine wpAny_bind ?_
  refine wpAny_forIn_list _ (fun rest r s' => r.1 = none ∧ s' = s ∧ ∃ vs' ws' ns' ms', rest = List.zip vs' ws' ∧ IntsAre vs' ns' ∧ IntsAre ws' ms' ∧ ltL ns' ms' = ltL ns ms ∧ (decide (vs'.length < ws'.length) = decide (vs.length < ws.length))) _ ?_ ?_ _ _
    ⟨rfl, rfl, vs, ws, ns, ms, rfl, i1, i2, rfl, rfl⟩
  · rintro ⟨u, v⟩ rest r s' ⟨hr, rfl, vs', ws', ns', ms', hz, j1, j2, hl, hsz⟩
    cases j1 with
    | nil => simp at hz
    | cons n t j1 =>
      cases j2 with
      | nil => simp at hz
      | cons n2 t2 j2 =>
        simp only [List.zip_cons_cons, List.cons.injEq, Prod.mk.injEq] at hz
        obtain ⟨⟨rfl, rfl⟩, rfl⟩ := hz
        refine wpAny_bind (wpAny_eqBool_int ?_)
        by_cases e : n = n2
        · subst e
          rw [show (n == n) = true from by simp]
          simp only [Bool.not_true, Bool.false_eq_true, if_false]
          refine wpAny_pure ⟨rfl, rfl, _, _, _, _, rfl, j1, j2, ?_, by simpa using hsz⟩
          rw [← hl, ltL, if_pos rfl]
        · rw [show (n == n2) = false from by simpa using e]
          simp only [Bool.not_false, if_true]
          refine wpAny_bind (wpAny_rule ?_)
          refine wpAny_bind ?_
          refine lt_int (Q := fun v s'' => wpAny _ _ _ _ _ s'') ?_
          rw [← hl, ltL, if_neg e] at h
          exact wpAny_bind (wpAny_pure (wpAny_pure (wpAny_pure h)))
  · rintro ⟨r1, r2⟩ s' ⟨hr, rfl, vs', ws', ns', ms', hz, j1, j2, hl, hsz⟩
    simp only at hr
    subst hr
    refine wpAny_pure ?_
    have hfin : (decide (vs.length < ws.length)) = ltL ns ms := by
      rw [← hsz, ← hl]
      cases j1 with
      | nil =>
        cases j2 with
        | nil => rfl
        | cons _ _ _ => simp [ltL]
      | cons _ _ _ =>
        cases j2 with
        | nil => simp [ltL]
        | cons _ _ _ => simp at hz
    show P (.done (.ret (.bool (decide (vs.toArray.size < ws.toArray.size))))) s'
    rw [List.size_toArray, List.size_toArray, hfin]
    exact h
theorem lt_tup {a b : Addr} {vs ws : List Value} {ns ms : List Int} {Q : Value → Shared → Prop} (hu : A.units < cLine) (h1 : IsTup s.heap a vs.toArray) (i1 : IntsAre vs ns) (h2 : IsTup s.heap b ws.toArray) (i2 : IntsAre ws ms) (h : Q (.bool (ltL ns ms)) s) :
    wpAny (model prog w) A (compareOp .Lt (.ref a) (.ref b)) Q E s :=
  wpAny_richCompare_same_room (op := .Lt) h1.typeIs h2.typeIs PySem.F.slot_tuple_lt
    (wpAny_call_entry PySem.F.slot_tuple_lt h1.typeIs PySem.F.entry_tuple_lt (tup_lt_tree h1 i1 h2 i2 ⟨_, rfl, (fun e => nomatch e), h⟩) (PySem.F.args_tuple_lt_2 _ _)) hu
end

/-- a row of tuples of ints -/
inductive TupsAre (h : Heap) : List Value → List (List Int) → Prop
  | nil : TupsAre h [] []
  | cons {a : Addr} {ws : List Value} {c : List Int} {vs : List Value} {cs : List (List Int)} : IsTup h a ws.toArray → IntsAre ws c → TupsAre h vs cs → TupsAre h (.ref a :: vs) (c :: cs)
theorem TupsAre.keeps {h h' : Heap} (hk : ∀ b o, h.get? b = some o → h'.get? b = some o) {vs : List Value} {cs : List (List Int)} (t : TupsAre h vs cs) : TupsAre h' vs cs := by
  induction t with
  | nil => exact .nil
  | cons a b _ ih => exact .cons (a.keeps hk) b ih
theorem TupsAre.length {h : Heap} {vs : List Value} {cs : List (List Int)} (t : TupsAre h vs cs) : vs.length = cs.length := by
  induction t with
  | nil => rfl
  | cons _ _ _ ih => rw [List.length_cons, List.length_cons, ih]
theorem TupsAre.snoc {h : Heap} {a : Addr} {ws : List Value} {c : List Int} (h1 : IsTup h a ws.toArray) (h2 : IntsAre ws c) {vs : List Value} {cs : List (List Int)} (t : TupsAre h vs cs) : TupsAre h (vs ++ [.ref a]) (cs ++ [c]) := by
  induction t with
  | nil => exact .cons h1 h2 .nil
  | cons a b _ ih => exact .cons a b ih
theorem TupsAre.at {h : Heap} {vs : List Value} {cs : List (List Int)} (t : TupsAre h vs cs) : ∀ {i : Nat} {v : Value}, vs[i]? = some v → ∃ a ws c, v = .ref a ∧ IsTup h a (List.toArray ws) ∧ IntsAre ws c ∧ cs[i]? = some c := by
  induction t with
  | nil => intro i v hv; simp at hv
  | cons a b _ ih =>
    intro i v hv
    cases i with
    | zero => simp at hv; exact ⟨_, _, _, hv.symm, a, b, rfl⟩
    | succ i => simp at hv; obtain ⟨a', ws, c, e1, e2, e3, e4⟩ := ih hv; exact ⟨a', ws, c, e1, e2, e3, by simpa using e4⟩
theorem TupsAre.map {h : Heap} {vs : List Value} {cs : List (List Int)} (t : TupsAre h vs cs) : ∀ p : List Nat, (∀ i ∈ p, i < vs.length) → TupsAre h (p.map fun i => vs.getD i Value.none) (p.map fun i => cs.getD i [])
  | [], _ => .nil
  | i :: p, hp => by
    have hi := hp i (.head _)
    obtain ⟨a, ws, c, e1, e2, e3, e4⟩ := t.at (List.getElem?_eq_getElem hi)
    have x1 : vs.getD i Value.none = .ref a := by rw [List.getD_eq_getElem?_getD, List.getElem?_eq_getElem hi, e1]; rfl
    have x2 : cs.getD i [] = c := by rw [List.getD_eq_getElem?_getD, e4]; rfl
    rw [List.map_cons, List.map_cons, x1, x2]
    exact .cons e2 e3 (TupsAre.map t p fun j hj => hp j (.tail _ hj))
end Mine

namespace Mine
open PySem PySem.W PyProof.Rows PySem.Calls PySem.Spec
/-- the pairs of a size and a tuple of ints -/
inductive KeysAre (h : Heap) : List Value → List (List Int) → Prop
  | nil : KeysAre h [] []
  | cons {k a : Addr} {o : Obj} {n : Nat} {t : Tok} {ws : List Value} {c : List Int} {ks : List Value} {cs : List (List Int)} : h.get? k = some o → o.cls = .type "tuple" → o.data = .seq #[.int (c.length : Int) t, .ref a] n → IsTup h a ws.toArray → IntsAre ws c → KeysAre h ks cs → KeysAre h (.ref k :: ks) (c :: cs)

theorem KeysAre.length {h : Heap} {vs : List Value} {cs : List (List Int)} (t : KeysAre h vs cs) : vs.length = cs.length := by
  induction t with
  | nil => rfl
  | cons _ _ _ _ _ _ ih => rw [List.length_cons, List.length_cons, ih]
theorem KeysAre.keeps {h h' : Heap} (hk : ∀ b o, h.get? b = some o → h'.get? b = some o) {vs : List Value} {cs : List (List Int)} (t : KeysAre h vs cs) : KeysAre h' vs cs := by
  induction t with
  | nil => exact .nil
  | cons a b c d e _ ih => exact .cons (hk _ _ a) b c (d.keeps hk) e ih
theorem KeysAre.app {h : Heap} {vs : List Value} {cs : List (List Int)} (t : KeysAre h vs cs) {vs' : List Value} {cs' : List (List Int)} (t' : KeysAre h vs' cs') : KeysAre h (vs ++ vs') (cs ++ cs') := by
  induction t with
  | nil => exact t'
  | cons a b c d e _ ih => exact .cons a b c d e ih
theorem KeysAre.at {h : Heap} {vs : List Value} {cs : List (List Int)} (t : KeysAre h vs cs) : ∀ {i : Nat} {v : Value}, vs[i]? = some v → ∃ k a o n u ws c, v = .ref k ∧ h.get? k = some o ∧ o.cls = .type "tuple" ∧ o.data = .seq #[.int ((List.length c : Nat) : Int) u, .ref a] n ∧ IsTup h a (List.toArray ws) ∧ IntsAre ws c ∧ cs[i]? = some c := by
  induction t with
  | nil => intro i v hv; simp at hv
  | cons a b c d e _ ih =>
    intro i v hv
    cases i with
    | zero => simp at hv; exact ⟨_, _, _, _, _, _, _, hv.symm, a, b, c, d, e, rfl⟩
    | succ i => simp at hv; obtain ⟨k, a', o, n, u, ws, c', e1, e2, e3, e4, e5, e6, e7⟩ := ih hv; exact ⟨k, a', o, n, u, ws, c', e1, e2, e3, e4, e5, e6, by simpa using e7⟩
theorem KeysAre.firsts {h : Heap} {vs : List Value} {cs : List (List Int)} (t : KeysAre h vs cs) : ∃ fs, KatTups h vs fs ∧ fs.length = vs.length ∧ ∀ v ∈ fs, ∃ n u, v = Value.int n u := by
  induction t with
  | nil => exact ⟨[], KatTups.nil, rfl, fun v hv => nomatch hv⟩
  | cons a b c d e _ ih =>
    obtain ⟨fs, h1, h2, h3⟩ := ih
    exact ⟨_ :: fs, KatTups.cons a b c rfl h1, by rw [List.length_cons, List.length_cons, h2], fun v hv => by
      rcases List.mem_cons.mp hv with rfl | hv
      · exact ⟨_, _, rfl⟩
      · exact h3 v hv⟩

section
variable {prog : Program} {w : World} {A : Around} {E : Value → Shared → Prop} {s : Shared}
theorem key_kind {ks : List Value} {cs : List (List Int)} {Q : SortKind → Shared → Prop} (t : KeysAre s.heap ks cs) (hne : 0 < ks.length) (h : Q (tuples' true) s) : wpAny (model prog w) A (keyKind' ks.toArray) Q E s := by
  obtain ⟨fs, h1, h2, h3⟩ := t.firsts
  refine kat_kind (T := .type "int") h1 (by omega) (fun v hv => ?_) (by decide) h
  obtain ⟨n, u, rfl⟩ := h3 v hv
  exact Looks.of_pure rfl
theorem key_lt {ks : List Value} {cs : List (List Int)} {i j : Nat} {Q : Bool → Shared → Prop} (hu : A.units < cLine) (t : KeysAre s.heap ks cs) (hi : i < ks.length) (hj : j < ks.length) (h : Q (ltC (cs.getD i []) (cs.getD j [])) s) :
    wpAny (model prog w) A (keyLt' (tuples' true) (ks.getD i Value.none) (ks.getD j Value.none)) Q E s := by
  obtain ⟨k1, a1, o1, n1, u1, w1, c1, e1, g1, cl1, d1, t1, i1, x1⟩ := t.at (List.getElem?_eq_getElem hi)
  obtain ⟨k2, a2, o2, n2, u2, w2, c2, e2, g2, cl2, d2, t2, i2, x2⟩ := t.at (List.getElem?_eq_getElem hj)
  have y1 : ks.getD i Value.none = .ref k1 := by rw [List.getD_eq_getElem?_getD, List.getElem?_eq_getElem hi, e1]; rfl
  have y2 : ks.getD j Value.none = .ref k2 := by rw [List.getD_eq_getElem?_getD, List.getElem?_eq_getElem hj, e2]; rfl
  have z1 : cs.getD i [] = c1 := by rw [List.getD_eq_getElem?_getD, x1]; rfl
  have z2 : cs.getD j [] = c2 := by rw [List.getD_eq_getElem?_getD, x2]; rfl
  rw [z1, z2, ltC_eq] at h
  rw [y1, y2]
  refine kat_lt g1 d1 g2 d2 ?_
  show KatLex prog w A true _ Q [(_, _), (_, _)] 0 s
  refine kat_cons (wpAny_eqBool_int (kat_go (fun e => ?_) (fun e => ?_)))
  · have e' : (c1.length : Int) = c2.length := by simpa using e
    rw [if_pos e'] at h
    refine kat_yes (kat_cons (eqBool_tup hu t1 i1 t2 i2 (kat_go (fun q => ?_) (fun q => ?_))))
    · have q' : c1 = c2 := of_decide_eq_true q
      subst q'
      rw [ltL_irr] at h
      exact kat_yes (kat_nil h)
    · refine kat_no (kat_one _ _ (lt_tup hu t1 i1 t2 i2 h))
  · have e' : ¬ (c1.length : Int) = c2.length := by simpa using e
    rw [if_neg e'] at h
    exact kat_no (oneLt_int h)

theorem key_run {ks : List Value} {cs : List (List Int)} {G : Array Nat → Shared → Prop} {n : Nat} (hu : A.units < cLine) (t : KeysAre s.heap ks cs) (hn : n = ks.length) (h0 : 0 < n)
    (h : ∀ p, Vp n p → Asc (fun i j => ltC (cs.getD i []) (cs.getD j [])) p n → G p s) : (kas_sort n).kasWp (kas_ask prog w A (tuples' true) ks) G s := by
  subst hn
  refine good_run (Inv := fun s' => s' = s) (post := fun r => Vp _ r ∧ Asc _ r _) (lt := fun i j => ltC (cs.getD i []) (cs.getD j [])) ?_ ?_ (sort_good (ltC_ord fun i => cs.getD i []) h0) rfl
  · rintro i j C s' hi hj rfl hC
    exact key_lt hu t hi hj (hC s' rfl)
  · rintro p s' ⟨h1, h2⟩ rfl
    exact h p h1 h2
end

/-- the sorted row of rows -/
theorem sorted_rows {cs : List (List Int)} {n : Nat} {p : Array Nat} (hn : n = cs.length) (hp : Vp n p) (ha : Asc (fun i j => ltC (cs.getD i []) (cs.getD j [])) p n) :
    (p.toList.map fun i => cs.getD i []).Perm cs ∧ (p.toList.map fun i => cs.getD i []).Pairwise (fun a b => ltC b a = false) := by
  subst hn
  constructor
  · have h1 : p.toList.Perm (List.range cs.length) := by
      have := Array.perm_iff_toList_perm.mp hp
      simpa using this
    have h2 := h1.map fun i => cs.getD i []
    have h3 : (List.range cs.length).map (fun i => cs.getD i []) = cs := by
      apply List.ext_getElem (by simp)
      intro i h1 h2
      simp at h1
      simp [h1]
    rw [h3] at h2
    exact h2
  · rw [List.pairwise_iff_getElem]
    intro i j hi hj hij
    have hi' : i < p.size := by simpa using hi
    have hj' : j < p.size := by simpa using hj
    have q := ha i j (Nat.le_of_lt hij) (by rw [← hp.size]; exact hj')
    simp only [List.getElem_map, Array.getElem_toList]
    have ei : at' p i = p[i] := by rw [at_eq, Array.getElem?_eq_getElem hi']; rfl
    have ej : at' p j = p[j] := by rw [at_eq, Array.getElem?_eq_getElem hj']; rfl
    rw [ei, ej] at q
    exact q

section
variable {prog : Program} {w : World} {A A' : Around} {E : Value → Shared → Prop} {s : Shared} {h₀ : Heap} {L l : Addr} {m : Str → Option Value} {news : List (Addr × Obj)} {vs : List Value} {cs : List (List Int)} {f : Value}

/-- what a key's call gives -/
def KeyCall (prog : Program) (w : World) (A : Around) (h₀ : Heap) (L : Addr) (m : Str → Option Value) (news : List (Addr × Obj)) (f : Value) : Prop :=
  ∀ (s : Shared) nl a ws c (Q : Value → Shared → Prop), Fr h₀ L s.heap m → News h₀ L s.heap nl → (∀ p ∈ news, p ∈ nl) → IsTup s.heap a (List.toArray ws) → IntsAre ws c → c.length ≤ 100 →
    (∀ h' tk k o n t, Fr h₀ L h' m → (∀ b x, s.heap.get? b = some x → h'.get? b = some x) → s.heap.get? k = none → h₀.get? k = none → k ≠ L → h'.get? k = some o → o.cls = .type "tuple" → o.data = .seq #[.int (c.length : Int) t, .ref a] n → Q (.ref k) { s with heap := h', toks := tk }) →
    wpAny (model prog w) A (call f [.ref a]) Q (fun _ _ => False) s

/-- the same but for the heap and the tokens -/
def Bg (s s' : Shared) : Prop := ∃ h tk, s' = { s with heap := h, toks := tk }
theorem Bg.rfl' (s : Shared) : Bg s s := ⟨s.heap, s.toks, rfl⟩
theorem Bg.step {s s' : Shared} (h : Bg s s') (g : Heap) (tk : Nat) : Bg s { s' with heap := g, toks := tk } := by
  obtain ⟨_, _, rfl⟩ := h
  exact ⟨g, tk, rfl⟩

theorem keys_go {s0 : Shared} (hf : KeyCall prog w A h₀ L m news f) {kS D : Addr} {e1 : Nat} {Fin : List Value → Nat → Shared → Prop}
    (hrow : ∀ h', Fr h₀ L h' m → News h₀ L h' news → TupsAre h' vs cs) (hkD : D ≠ kS) (hD : ∀ q ∈ news, q.1 ≠ D) (hK : ∀ q ∈ news, q.1 ≠ kS) (hsz : ∀ c ∈ cs, c.length ≤ 100)
    (fin : ∀ ks e (s : Shared) kl, Bg s0 s → Fr h₀ L s.heap m → News h₀ L s.heap ((kS, seqObj "list" (List.toArray ks) e) :: (D, seqObj "list" #[] e1) :: (kl ++ news)) → (∀ q ∈ kl, q.1 ≠ kS ∧ q.1 ≠ D) → (∀ h', Fr h₀ L h' m → News h₀ L h' (kl ++ news) → KeysAre h' ks cs) → ks.length = vs.length → Fin ks e s) :
    ∀ (r : List Value) (ks : List Value) (rc kc : List (List Int)) (ds : List Value) (e : Nat) (s : Shared) (kl : List (Addr × Obj)), Bg s0 s → ds ++ r = vs → kc ++ rc = cs → ds.length = kc.length → ks.length = ds.length →
      Fr h₀ L s.heap m → News h₀ L s.heap ((kS, seqObj "list" (List.toArray ks) e) :: (D, seqObj "list" #[] e1) :: (kl ++ news)) → (∀ q ∈ kl, q.1 ≠ kS ∧ q.1 ≠ D) → (∀ h', Fr h₀ L h' m → News h₀ L h' (kl ++ news) → KeysAre h' ks kc) →
      KatKeys prog w A h₀ L m kS f Fin r ks e s
  | [], ks, rc, kc, ds, e, s, kl, hbg, hv, hc, hl, hl2, F, N, hkl, hst => by
    have Nn : News h₀ L s.heap news := fun p hp => N p (.tail _ (.tail _ (List.mem_append_right _ hp)))
    have hlen := (hrow _ F Nn).length
    rw [List.append_nil] at hv
    subst hv
    obtain rfl : rc = [] := by
      have := congrArg List.length hc
      rw [List.length_append] at this
      exact List.eq_nil_of_length_eq_zero (by omega)
    rw [List.append_nil] at hc
    subst hc
    exact KatKeys.nil (fin ks e s kl hbg F N hkl hst hl2)
  | v :: r, ks, rc, kc, ds, e, s, kl, hbg, hv, hc, hl, hl2, F, N, hkl, hst => by
    have Nn : News h₀ L s.heap news := fun p hp => N p (.tail _ (.tail _ (List.mem_append_right _ hp)))
    have R := hrow _ F Nn
    have hvi : vs[ds.length]? = some v := by rw [← hv]; simp
    obtain ⟨a, ws, c, rfl, ht, hi, hci⟩ := R.at hvi
    obtain ⟨rc', rfl⟩ : ∃ rc', rc = c :: rc' := by
      rw [← hc, hl, List.getElem?_append_right (Nat.le_refl _), Nat.sub_self] at hci
      cases rc with
      | nil => simp at hci
      | cons x y => simp at hci; exact ⟨y, by rw [hci]⟩
    have hsc : c.length ≤ 100 := hsz c (by rw [← hc]; simp)
    refine KatKeys.cons (hf s _ a ws c _ F N (fun p hp => .tail _ (.tail _ (List.mem_append_right _ hp))) ht hi hsc ?_)
    intro h' tk k o n t F' hk hnew hk0 hkL hko hkc hkd
    have N' : News h₀ L h' ((kS, seqObj "list" (List.toArray ks) e) :: (D, seqObj "list" #[] e1) :: (((k, o) :: kl) ++ news)) := by
      intro p hp
      by_cases hpk : p = (k, o)
      · subst hpk
        exact ⟨hko, hkL, hk0⟩
      · have hp2 : p ∈ ((kS, seqObj "list" (List.toArray ks) e) :: (D, seqObj "list" #[] e1) :: (kl ++ news)) := by
          rcases List.mem_cons.mp hp with h | hp
          · exact h ▸ .head _
          · rcases List.mem_cons.mp hp with h | hp
            · exact h ▸ .tail _ (.head _)
            · rw [List.cons_append] at hp
              rcases List.mem_cons.mp hp with h | hp
              · exact absurd h hpk
              · exact .tail _ (.tail _ hp)
        have z := N p hp2
        exact ⟨hk _ _ z.1, z.2⟩
    have nkS : k ≠ kS := fun q => by
      have z := (N (kS, seqObj "list" (List.toArray ks) e) (.head _)).1
      dsimp only at z
      rw [← q, hnew] at z; cases z
    have nkD : k ≠ D := fun q => by
      have z := (N (D, seqObj "list" #[] e1) (.tail _ (.head _))).1
      dsimp only at z
      rw [← q, hnew] at z; cases z
    have hkl' : ∀ q ∈ (k, o) :: kl, q.1 ≠ kS ∧ q.1 ≠ D := fun q hq => by
      rcases List.mem_cons.mp hq with rfl | hq
      · exact ⟨nkS, nkD⟩
      · exact hkl q hq
    refine KatBack.intro F' N' (UpdF.head ?_) ?_
    · intro p hp
      rcases List.mem_cons.mp hp with rfl | hp
      · exact hkD
      · rcases List.mem_append.mp hp with hp | hp
        · exact (hkl' p hp).1
        · exact hK p hp
    · intro h2 c2 F2 N2
      refine keys_go hf hrow hkD hD hK hsz fin r (ks ++ [.ref k]) rc' (kc ++ [c]) (ds ++ [.ref a]) c2 { s with heap := h2, toks := tk } ((k, o) :: kl) (hbg.step h2 tk) (by rw [List.append_assoc]; exact hv) (by rw [List.append_assoc]; exact hc) (by simp [hl]) (by simp [hl2]) F2 N2 hkl' ?_
      intro h3 F3 N3
      have N3' : News h₀ L h3 (kl ++ news) := fun p hp => N3 p (.tail _ hp)
      have N3n : News h₀ L h3 news := fun p hp => N3' p (List.mem_append_right _ hp)
      have R3 := (hrow _ F3 N3n).at hvi
      obtain ⟨a3, ws3, c3, e3, ht3, hi3, hci3⟩ := R3
      obtain rfl : a = a3 := by simpa using e3
      rw [hci] at hci3
      obtain rfl := Option.some.inj hci3
      exact (hst _ F3 N3').app (.cons (N3 (k, o) (.head _)).1 hkc hkd ht3 hi3 .nil)

theorem snd_zip {ks vs : List Value} (hl : ks.length = vs.length) : (ks.toArray.zip vs.toArray).map (·.2) = vs.toArray := by
  apply Array.toList_inj.mp
  rw [Array.toList_map, ksk_zip]
  exact List.map_snd_zip (by simp [hl])

/-- a keyed sort of one item or none -/
theorem few_keyed {kw : List (Str × Value)} {Q : Value → Shared → Prop} (F : Fr h₀ L s.heap m) (N : News h₀ L s.heap news) (hl : s.heap.IsList l vs.toArray) (h2 : vs.length < 2)
    (ha1 : argsOk "sorted" ⟨[.ref l], kw⟩) (ha2 : ∀ x, argsOk "list.sort" ⟨[.ref x], kw⟩) (ht : ∀ x, Builtin.«list.sort» ⟨[.ref x], kw⟩ = ksk_tree x f false)
    (h : ∀ D kS e1 h', Fr h₀ L h' m → News h₀ L h' ((kS, seqObj "list" #[] 0) :: (D, seqObj "list" #[] e1) :: news) → D < kS → (∀ q ∈ news, q.1 < D) →
      KatKeys prog w A.in1.in1 h₀ L m kS f (fun ks e s' => KatFin h₀ L m kS D ks e e1 vs (fun s4 => Q (.ref D) s4) s') vs [] 0 { s with heap := h' }) :
    wpAny (model prog w) A (call (.builtin "sorted") [.ref l] kw) Q E s := by
  refine call_function_entry_kw kind_sorted plain_sorted entry_sorted ha1 ?_
  unfold Builtin.«sorted»
  refine wpAny_bind (m := checkCount "sorted" 1 1 _) (wpAny_pure ?_)
  refine wpAny_bind (collect_list hl ?_ (by rw [sizeLine_eq]; omega))
  refine wpAny_bind (wpAny_newList ?_ (by rw [sizeLine_eq]; omega))
  generalize hg : (s.heap.push (seqObj "list" #[] 0)).update s.heap.objs.size (Obj.mapSeq (· ++ vs.toArray)) = g
  have gz : g.objs.size = s.heap.objs.size + 1 := by rw [← hg, Heap.size_update, size_push']
  have gk : ∀ b o, s.heap.get? b = some o → g.get? b = some o := fun b o q => by
    have hlt : b < s.heap.objs.size := Heap.lt_size q
    rw [← hg, Heap.get?_update_ne _ _ _ _ (Nat.ne_of_lt hlt), Heap.get?_push_ne _ _ _ (Nat.ne_of_lt hlt)]
    exact q
  have Fg := F.kept gk
  have Ng := N.grown gk
  have hD0 : h₀.get? g.objs.size = none := Heap.get?_none_of_le (by rw [gz]; exact Nat.le_trans F.above (Nat.le_succ_of_le (Nat.le_of_lt F.ns.lt)))
  have hDL : g.objs.size ≠ L := by rw [gz]; exact Nat.ne_of_gt (Nat.lt_succ_of_lt F.ns.lt)
  have hDn : ∀ q ∈ news, q.1 < g.objs.size := fun q hq => Heap.lt_size (Ng q hq).1
  have hoD : (g.push (seqObj "list" vs.toArray 0)).get? g.objs.size = some (seqObj "list" vs.toArray 0) := Heap.get?_push_size _ rfl
  show wpAny _ _ _ _ _ { s with heap := g.push (seqObj "list" vs.toArray 0) }
  refine wpAny_bind (wpAny_holding (wpAny_call_entry_kw slot_list_sort ⟨_, hoD, rfl⟩ entry_list_sort ?body (ha2 _)))
  case body =>
    show wpAny (model prog w) A.in1.in1 (Builtin.«list.sort» ⟨[.ref g.objs.size], kw⟩) _ _ _
    rw [ht]
    have s1 := Heap.SameBut.update (g.push (seqObj "list" vs.toArray 0)) g.objs.size (Obj.mapSeq fun _ => (#[] : Array Value))
    obtain ⟨e1, ho1⟩ : ∃ e1, ((g.push (seqObj "list" vs.toArray 0)).update g.objs.size (Obj.mapSeq fun _ => (#[] : Array Value))).get? g.objs.size = some (seqObj "list" #[] e1) := ⟨_, get?_update_seq hoD fun _ => #[]⟩
    have F1 := kas_fr (Fg.push (seqObj "list" vs.toArray 0)) s1 hDL hD0
    have N1 := kas_news (Ng.grown fun b x e => Heap.get?_push_of_some (seqObj "list" vs.toArray 0) e) s1 (fun p hp => Nat.ne_of_lt (hDn p hp))
    have hz1 : ((g.push (seqObj "list" vs.toArray 0)).update g.objs.size (Obj.mapSeq fun _ => (#[] : Array Value))).objs.size = g.objs.size + 1 := by rw [Heap.size_update, size_push']
    unfold ksk_tree
    refine wpAny_bind (listItems_at hoD rfl ?_)
    refine wpAny_bind (listUpdate_at hoD rfl ?_ (by rw [List.size_toArray, sizeLine_eq]; omega) (Nat.zero_le _))
    revert F1 N1 hz1 ho1
    dsimp only
    generalize (g.push (seqObj "list" vs.toArray 0)).update g.objs.size (Obj.mapSeq fun _ => (#[] : Array Value)) = g1
    intro ho1 F1 N1 hz1
    refine wpAny_bind (seqEpoch_at ho1 rfl ?_)
    refine wpAny_bind (wpAny_newTuple ?_ (by show vs.length ≤ _; rw [sizeLine_eq]; omega))
    refine wpAny_bind (wpAny_newList ?_ (Nat.zero_le _))
    refine wpAny_holding ?_
    have hoK : ((g1.push (seqObj "tuple" vs.toArray 0)).push (seqObj "list" #[] 0)).get? (g1.push (seqObj "tuple" vs.toArray 0)).objs.size = some (seqObj "list" #[] 0) := Heap.get?_push_size _ rfl
    have hz2 : (g1.push (seqObj "tuple" vs.toArray 0)).objs.size = g.objs.size + 2 := by rw [size_push', hz1]
    have hLg : L < g.objs.size := by rw [gz]; exact Nat.lt_succ_of_lt F.ns.lt
    have F2 := (F1.push (seqObj "tuple" vs.toArray 0)).push (seqObj "list" #[] 0)
    have K := h g.objs.size (g1.push (seqObj "tuple" vs.toArray 0)).objs.size e1 _ F2 (fun p hp => ?_) (by rw [hz2]; exact Nat.lt_add_of_pos_right (by decide)) hDn
    · show wpAny _ _ _ _ _ { s with heap := (g1.push (seqObj "tuple" vs.toArray 0)).push (seqObj "list" #[] 0) }
      unfold ksk_rest
      refine wpAny_bind (wpAny_rule ?_)
      first
        | rw [List.forIn_toArray]
        | (rw [← Array.forIn_toList]; simp only [List.toList_toArray])
        | rw [← Array.forIn_toList]
      refine wpAny_bind (wpAny_mono (kat_fold (n := vs.length) (by omega) (fun x ks e s' C hz hx => ?_) vs [] 0 _ (by simp) hoK K) (fun _ s' hd => ?_) fun _ _ x => x)
      · refine wpAny_bind (wpAny_attempt (wpAny_mono hx (fun k s'' hk => ?_) fun _ _ hF => hF.elim))
        obtain ⟨nl, u, F', N', U, c⟩ := hk
        obtain ⟨pre, post, rfl, hu, x1, x2⟩ := U.split
        have nk := N' (_, seqObj "list" (List.toArray ks) e) (List.mem_append_right _ (.head _))
        have ea : (List.toArray ks).push k = List.toArray (ks ++ [k]) := by simp
        have q2 := Heap.SameBut.update s''.heap (g1.push (seqObj "tuple" vs.toArray 0)).objs.size (Obj.mapSeq (·.push k))
        have hc2 := get?_update_seq nk.1 (·.push k)
        rw [ea] at hc2
        refine wpAny_bind (listUpdate_at nk.1 rfl ?_ (by rw [List.size_toArray, sizeLine_eq]; omega) (Nat.le_trans (Nat.le_of_eq (Array.size_push ..)) (by rw [List.size_toArray, sizeLine_eq]; omega)))
        exact wpAny_pure ⟨rfl, k, _, hc2, c _ _ (kas_fr F' q2 nk.2.1 nk.2.2) (by rw [hu]; exact news_set N' x1 x2 q2 hc2)⟩
      · obtain ⟨ks, e, hk', hlk, fin⟩ := hd
        refine wpAny_bind (listItems_at hk' rfl ?_)
        unfold ksk_end
        dsimp only
        rw [if_neg (by simp), if_pos (by simpa using h2), if_pos (by simpa using h2)]
        refine wpAny_bind (wpAny_pure ?_)
        rw [StateT.run_pure]
        refine wpAny_bind (wpAny_pure ?_)
        refine kat_tail (h₀ := h₀) (L := L) (m := m) (e := e) (ks := ks) (out := vs) (st := SortSt.mk' general' (ks.toArray.zip vs.toArray) #[] 7 none) (snd_zip hlk) (by omega) (by omega) rfl ?_
        exact fin.mono fun s4 hq => ⟨_, rfl, wpAny_pure ⟨_, rfl, hq⟩⟩
    · rcases List.mem_cons.mp hp with rfl | hp
      · exact ⟨hoK, by show _ ≠ L; rw [hz2]; exact Nat.ne_of_gt (Nat.lt_add_right 2 hLg), Heap.get?_none_of_le (by rw [hz2]; exact Nat.le_trans F.above (Nat.le_of_lt (Nat.lt_add_right 2 hLg)))⟩
      · rcases List.mem_cons.mp hp with rfl | hp
        · exact ⟨Heap.get?_push_of_some _ (Heap.get?_push_of_some _ ho1), hDL, hD0⟩
        · exact ⟨Heap.get?_push_of_some _ (Heap.get?_push_of_some _ (N1 p hp).1), (N1 p hp).2⟩

/-- the rows, sorted by their keys -/
theorem sorted_keyed {kw : List (Str × Value)} {Q : Value → Shared → Prop} (hu : A.units + 50 < cLine) (F : Fr h₀ L s.heap m) (N : News h₀ L s.heap news) (hl : s.heap.IsList l vs.toArray) (h64 : vs.length < 64)
    (ha1 : argsOk "sorted" ⟨[.ref l], kw⟩) (ha2 : ∀ x, argsOk "list.sort" ⟨[.ref x], kw⟩) (ht : ∀ x, Builtin.«list.sort» ⟨[.ref x], kw⟩ = ksk_tree x f false)
    (hf : KeyCall prog w A.in1.in1 h₀ L m news f) (hr0 : TupsAre h₀ vs cs) (hsz : ∀ c ∈ cs, c.length ≤ 100)
    (h : ∀ D s' out cs' n, Bg s s' → Fr h₀ L (Shared.heap s') m → News h₀ L s'.heap ((D, listOf (List.toArray out) n) :: news) → (∀ q ∈ news, q.1 < D) → TupsAre h₀ out cs' → cs'.Perm cs → cs'.Pairwise (fun a b => ltC b a = false) → (∀ v ∈ out, v ∈ vs) → Q (.ref D) s') :
    wpAny (model prog w) A (call (.builtin "sorted") [.ref l] kw) Q E s := by
  have hrow : ∀ h', Fr h₀ L h' m → News h₀ L h' news → TupsAre h' vs cs := fun h' F' _ => hr0.keeps F'.keep
  have fin : ∀ {kS D : Addr} {e e1 : Nat} {ks out : List Value} {cs' : List (List Int)} {kl : List (Addr × Obj)} {s2 : Shared}, Bg s s2 → Fr h₀ L s2.heap m → News h₀ L s2.heap ((kS, seqObj "list" (List.toArray ks) e) :: (D, seqObj "list" #[] e1) :: (kl ++ news)) → (∀ q ∈ kl, q.1 ≠ kS ∧ q.1 ≠ D) →
      D < kS → (∀ q ∈ news, q.1 < D) → TupsAre h₀ out cs' → cs'.Perm cs → cs'.Pairwise (fun a b => ltC b a = false) → (∀ v ∈ out, v ∈ vs) → KatFin h₀ L m kS D ks e e1 out (fun s4 => Q (.ref D) s4) s2 := by
    intro kS D e e1 ks out cs' kl s2 hbg F N hkl hDK hn hr hp hs hv
    refine KatFin.intro F N (UpdF.head ?_) fun h2 c2 F2 N2 => KasFin.intro F2 N2 (UpdF.tail (Nat.ne_of_gt hDK) (UpdF.head ?_)) fun h3 c3 F3 N3 => ?_
    · intro p hp
      rcases List.mem_cons.mp hp with rfl | hp
      · exact Nat.ne_of_lt hDK
      · rcases List.mem_append.mp hp with hp | hp
        · exact (hkl p hp).1
        · exact Nat.ne_of_lt (Nat.lt_trans (hn p hp) hDK)
    · intro p hp
      rcases List.mem_append.mp hp with hp | hp
      · exact (hkl p hp).2
      · exact Nat.ne_of_lt (hn p hp)
    · have N4 : News h₀ L h3 ((D, listOf (List.toArray out) c3) :: news) := fun p hp => by
        rcases List.mem_cons.mp hp with rfl | hp
        · exact N3 _ (.tail _ (.head _))
        · exact N3 _ (.tail _ (.tail _ (List.mem_append_right _ hp)))
      exact h D { s2 with heap := h3 } out cs' c3 (hbg.step h3 _) F3 N4 hn hr hp hs hv
  have hlen := (hrow _ F N).length
  rcases Nat.lt_or_ge vs.length 2 with h2 | h2
  · refine few_keyed F N hl h2 ha1 ha2 ht fun D kS e1 h' F' N' l0 l1 => ?_
    refine keys_go hf hrow (Nat.ne_of_lt l0) (fun q hq => Nat.ne_of_lt (l1 q hq)) (fun q hq => Nat.ne_of_lt (Nat.lt_trans (l1 q hq) l0)) hsz ?_ vs [] cs [] [] 0 _ [] (Bg.step (Bg.rfl' s) h' s.toks) rfl rfl rfl rfl F' N' (fun q hq => nomatch hq) (fun _ _ _ => .nil)
    intro ks e s2 kl hbg F2 N2 hkl hst hkl2
    refine fin hbg F2 N2 hkl l0 l1 hr0 (List.Perm.refl _) ?_ (fun v hv => hv)
    rw [List.pairwise_iff_getElem]
    intro i j hi hj hij
    omega
  · refine kat_sortedK F N hl h2 h64 ha1 ha2 ht fun D kS e1 h' F' N' l0 l1 => ?_
    refine keys_go hf hrow (Nat.ne_of_lt l0) (fun q hq => Nat.ne_of_lt (l1 q hq)) (fun q hq => Nat.ne_of_lt (Nat.lt_trans (l1 q hq) l0)) hsz ?_ vs [] cs [] [] 0 _ [] (Bg.step (Bg.rfl' s) h' s.toks) rfl rfl rfl rfl F' N' (fun q hq => nomatch hq) (fun _ _ _ => .nil)
    intro ks e s2 kl hbg F2 N2 hkl hst hkl2
    have K := hst _ F2 fun p hp => N2 p (.tail _ (.tail _ hp))
    refine key_kind K (by omega) ?_
    show (kas_sort vs.length).kasWp (kas_ask prog w A.in1.in1 (tuples' true) ks) _ s2
    refine key_run (by show A.units + 1 + 1 < cLine; omega) K hkl2.symm (by omega) fun p vp ap => ?_
    obtain ⟨q1, q2⟩ := sorted_rows (cs := cs) hlen vp ap
    have hlt : ∀ i ∈ p.toList, i < vs.length := fun i hi => by
      have := (Array.mem_toList_iff.mp hi)
      have := vp.mem_iff.mp this
      simpa using this
    refine fin hbg F2 N2 hkl l0 l1 (hr0.map p.toList hlt) q1 q2 fun v hv => ?_
    obtain ⟨i, hi, rfl⟩ := List.mem_map.mp hv
    have := hlt i hi
    show vs.getD i Value.none ∈ vs
    rw [List.getD_eq_getElem?_getD, List.getElem?_eq_getElem this]
    exact List.getElem_mem this
end
end Mine

namespace Mine
open PySem PySem.W PyProof.Rows PySem.Calls PySem.Spec
theorem KeysAre.map {h : Heap} {vs : List Value} {cs : List (List Int)} (t : KeysAre h vs cs) : ∀ p : List Nat, (∀ i ∈ p, i < vs.length) → KeysAre h (p.map fun i => vs.getD i Value.none) (p.map fun i => cs.getD i [])
  | [], _ => .nil
  | i :: p, hp => by
    have hi := hp i (.head _)
    obtain ⟨k, a, o, n, u, ws, c, e1, e2, e3, e4, e5, e6, e7⟩ := t.at (List.getElem?_eq_getElem hi)
    have x1 : vs.getD i Value.none = .ref k := by rw [List.getD_eq_getElem?_getD, List.getElem?_eq_getElem hi, e1]; rfl
    have x2 : cs.getD i [] = c := by rw [List.getD_eq_getElem?_getD, e7]; rfl
    rw [List.map_cons, List.map_cons, x1, x2]
    exact .cons e2 e3 e4 e5 e6 (KeysAre.map t p fun j hj => hp j (.tail _ hj))
section
variable {prog : Program} {w : World} {A : Around} {E : Value → Shared → Prop} {s : Shared} {h₀ : Heap} {L l : Addr} {m : Str → Option Value} {news : List (Addr × Obj)} {vs : List Value} {cs : List (List Int)}

/-- a plain sort of one item or none -/
theorem few_plain {Q : Value → Shared → Prop} (F : Fr h₀ L s.heap m) (N : News h₀ L s.heap news) (hl : s.heap.IsList l vs.toArray) (h2 : vs.length < 2)
    (h : ∀ D n h', Fr h₀ L h' m → News h₀ L h' ((D, listOf vs.toArray n) :: news) → (∀ q ∈ news, q.1 < D) → Q (.ref D) { s with heap := h' }) :
    wpAny (model prog w) A (call (.builtin "sorted") [.ref l]) Q E s := by
  refine Calls.call_function_entry kind_sorted plain_sorted entry_sorted (args_sorted1 _) ?_
  unfold Builtin.«sorted»
  refine wpAny_bind (m := checkCount "sorted" 1 1 _) (wpAny_pure ?_)
  refine wpAny_bind (collect_list hl ?_ (by rw [sizeLine_eq]; omega))
  refine wpAny_bind (wpAny_newList ?_ (by rw [sizeLine_eq]; omega))
  generalize hg : (s.heap.push (seqObj "list" #[] 0)).update s.heap.objs.size (Obj.mapSeq (· ++ vs.toArray)) = g
  have gz : g.objs.size = s.heap.objs.size + 1 := by rw [← hg, Heap.size_update, size_push']
  have gk : ∀ b o, s.heap.get? b = some o → g.get? b = some o := fun b o q => by
    have hlt : b < s.heap.objs.size := Heap.lt_size q
    rw [← hg, Heap.get?_update_ne _ _ _ _ (Nat.ne_of_lt hlt), Heap.get?_push_ne _ _ _ (Nat.ne_of_lt hlt)]
    exact q
  have Fg := F.kept gk
  have Ng := N.grown gk
  have hLg : L < g.objs.size := by rw [gz]; exact Nat.lt_succ_of_lt F.ns.lt
  have hD0 : h₀.get? g.objs.size = none := Heap.get?_none_of_le (Nat.le_trans F.above (Nat.le_of_lt hLg))
  have hDn : ∀ q ∈ news, q.1 < g.objs.size := fun q hq => Heap.lt_size (Ng q hq).1
  have hoD : (g.push (seqObj "list" vs.toArray 0)).get? g.objs.size = some (seqObj "list" vs.toArray 0) := Heap.get?_push_size _ rfl
  show wpAny _ _ _ _ _ { s with heap := g.push (seqObj "list" vs.toArray 0) }
  refine wpAny_bind (wpAny_holding (wpAny_call_entry slot_list_sort ⟨_, hoD, rfl⟩ entry_list_sort ?body (args_list_sort _)))
  case body =>
    show wpAny (model prog w) A.in1.in1 (Builtin.«list.sort» ⟨[.ref g.objs.size], []⟩) _ _ _
    rw [list_sort_plain]
    have s1 := Heap.SameBut.update (g.push (seqObj "list" vs.toArray 0)) g.objs.size (Obj.mapSeq fun _ => (#[] : Array Value))
    obtain ⟨e1, ho1⟩ : ∃ e1, ((g.push (seqObj "list" vs.toArray 0)).update g.objs.size (Obj.mapSeq fun _ => (#[] : Array Value))).get? g.objs.size = some (seqObj "list" #[] e1) := ⟨_, get?_update_seq hoD fun _ => #[]⟩
    have F1 := kas_fr (Fg.push (seqObj "list" vs.toArray 0)) s1 (Nat.ne_of_gt hLg) hD0
    have N1 := kas_news (Ng.grown fun b x e => Heap.get?_push_of_some (seqObj "list" vs.toArray 0) e) s1 (fun p hp => Nat.ne_of_lt (hDn p hp))
    refine wpAny_bind (listItems_at hoD rfl ?_)
    refine wpAny_bind (listUpdate_at hoD rfl ?_ (by rw [List.size_toArray, sizeLine_eq]; omega) (Nat.zero_le _))
    revert F1 N1 ho1
    dsimp only
    generalize (g.push (seqObj "list" vs.toArray 0)).update g.objs.size (Obj.mapSeq fun _ => (#[] : Array Value)) = g1
    intro ho1 F1 N1
    refine wpAny_bind (seqEpoch_at ho1 rfl ?_)
    refine wpAny_bind (wpAny_newTuple ?_ (by show vs.length ≤ _; rw [sizeLine_eq]; omega))
    refine wpAny_bind (wpAny_newList ?_ (Nat.zero_le _))
    refine wpAny_holding ?_
    have F2 := (F1.push (seqObj "tuple" vs.toArray 0)).push (seqObj "list" #[] 0)
    have N2 := (N1.grown fun b x e => Heap.get?_push_of_some (seqObj "tuple" vs.toArray 0) e).grown fun b x e => Heap.get?_push_of_some (seqObj "list" #[] 0) e
    have ho2 : ((g1.push (seqObj "tuple" vs.toArray 0)).push (seqObj "list" #[] 0)).get? g.objs.size = some (seqObj "list" #[] e1) := Heap.get?_push_of_some _ (Heap.get?_push_of_some _ ho1)
    show wpAny (model prog w) A.in1.in1 _ _ _ { s with heap := (g1.push (seqObj "tuple" vs.toArray 0)).push (seqObj "list" #[] 0) }
    (try dsimp only)
    rw [if_pos (by simpa using h2), if_pos (by simpa using h2)]
    refine wpAny_bind (wpAny_pure ?_)
    rw [StateT.run_pure]
    refine wpAny_bind (wpAny_pure ?_)
    dsimp only
    have hout : (arrOf (SortSt.mk' general' (vs.toArray.zip vs.toArray) #[] 7 none)).map (·.2) = vs.toArray := snd_zip rfl
    rw [hout]
    have s2 := Heap.SameBut.update ((g1.push (seqObj "tuple" vs.toArray 0)).push (seqObj "list" #[] 0)) g.objs.size (Obj.mapSeq fun _ => vs.toArray)
    obtain ⟨c2, hc2⟩ : ∃ c2, (((g1.push (seqObj "tuple" vs.toArray 0)).push (seqObj "list" #[] 0)).update g.objs.size (Obj.mapSeq fun _ => vs.toArray)).get? g.objs.size = some (seqObj "list" vs.toArray c2) := ⟨_, get?_update_seq ho2 fun _ => vs.toArray⟩
    refine wpAny_bind (seqEpoch_at ho2 rfl ?_)
    refine wpAny_bind (listUpdate_at ho2 rfl ?_ (Nat.zero_le _) (by rw [List.size_toArray, sizeLine_eq]; omega))
    show wpAny _ _ (if (e1 != e1) = true then _ else _) _ _ _
    simp only [bne_self_eq_false, Bool.false_eq_true, if_false]
    refine wpAny_pure ⟨_, rfl, wpAny_pure ⟨_, rfl, h g.objs.size c2 _ (kas_fr F2 s2 (Nat.ne_of_gt hLg) hD0) (fun p hp => ?_) hDn⟩⟩
    rcases List.mem_cons.mp hp with rfl | hp
    · exact ⟨hc2, Nat.ne_of_gt hLg, hD0⟩
    · exact kas_news N2 s2 (fun p hp => Nat.ne_of_lt (hDn p hp)) p hp

/-- the pairs, sorted -/
theorem sorted_pairs {Q : Value → Shared → Prop} (hu : A.units + 50 < cLine) (F : Fr h₀ L s.heap m) (N : News h₀ L s.heap news) (hl : s.heap.IsList l vs.toArray) (h64 : vs.length < 64)
    (hrow : ∀ h', Fr h₀ L h' m → News h₀ L h' news → KeysAre h' vs cs)
    (h : ∀ D h' (p : List Nat) n, Fr h₀ L h' m → News h₀ L h' ((D, listOf (List.toArray (p.map fun i => vs.getD i Value.none)) n) :: news) → (∀ q ∈ news, q.1 < D) → (∀ i ∈ p, i < vs.length) → (p.map fun i => cs.getD i []).Perm cs → (p.map fun i => cs.getD i []).Pairwise (fun a b => ltC b a = false) → Q (.ref D) { s with heap := h' }) :
    wpAny (model prog w) A (call (.builtin "sorted") [.ref l]) Q E s := by
  have hlen := (hrow _ F N).length
  rcases Nat.lt_or_ge vs.length 2 with h2 | h2
  · have all : ∀ {α : Type} (l : List α) (d : α), (List.range l.length).map (fun i => l.getD i d) = l := by
      intro α l d
      apply List.ext_getElem (by simp)
      intro i h1 h2
      simp at h1
      simp [h1]
    have e1 := all vs Value.none
    have e2 := all cs []
    rw [← hlen] at e2
    refine few_plain F N hl h2 fun D n h' F' N' l1 => h D h' (List.range vs.length) n F' (by rw [e1]; exact N') l1 (fun i hi => List.mem_range.mp hi) (by rw [e2]) ?_
    rw [e2, List.pairwise_iff_getElem]
    intro i j hi hj hij
    omega
  · refine kat_sorted F N hl h2 h64 fun D e1 h' F' N' l1 => ?_
    have K := hrow _ F' fun p hp => N' p (.tail _ hp)
    refine key_kind (s := { s with heap := h' }) K (by omega) ?_
    refine key_run (by show A.units + 1 + 1 < cLine; omega) K rfl (by omega) fun p vp ap => ?_
    obtain ⟨q1, q2⟩ := sorted_rows (cs := cs) hlen vp ap
    refine KasFin.intro F' N' (UpdF.head fun p hp => Nat.ne_of_lt (l1 p hp)) fun h2 c2 F2 N2 => ?_
    refine h D h2 p.toList c2 F2 N2 l1 (fun i hi => ?_) q1 q2
    have := (Array.mem_toList_iff.mp hi)
    have := vp.mem_iff.mp this
    simpa using this
end
end Mine

namespace Mine
open PySem PySem.W PyProof.Rows PySem.Calls PySem.Spec
local macro_rules | `(tactic| walk_at "eval ListComp") => `(tactic| refine Stop.out ?_)
local macro_rules | `(tactic| walk_at "pyIter ref") => `(tactic| refine Stop.out ?_)
local macro_rules | `(tactic| walk_at "call ref") => `(tactic| refine Stop.out ?_)

local macro_rules | `(tactic| walk_at "call builtin:len") => `(tactic| ((with_reducible show wpAny _ _ (call (Value.builtin "len") [Value.ref _]) _ _ _); (refine' lenT ?F ?t ?i ?f ?_; (case F => k_asm); (case t => assumption); (case i => assumption); (case f => omega); k_whole)))
local macro_rules | `(tactic| walk_at "subscriptTail") => `(tactic| ((with_reducible show wpAny _ _ (subscriptTail _ _ (Value.ref _) (Value.int _ _)) _ _ _); (refine' itemT ?F ?t ?i ?a ?b ?f ?_ ?k; (case F => k_asm); (case t => assumption); (case i => assumption); (case a => omega); (case b => omega); (case f => omega); (case k => with_unfolding_all rfl)); intro t'))

local macro_rules | `(tactic| walk_at "call builtin:sorted") => `(tactic| refine Stop.out ?_)
local macro_rules | `(tactic| walk_at "call builtin:list.append") => `(tactic| refine Stop.out ?_)


/-- a call of a lambda that stands in the ledger -/
theorem enterL {prog : Program} {w : World} {A₀ A : Around} {Q E : Value → Shared → Prop} {s : Shared} {base h₀ : Heap} {outer : List Env} {L : Addr} {m : Str → Option Value} {env : Env} {news : List (Addr × Obj)}
    {K : Frag} {p : Program} {loose : List Str} {mean : ExcName → Option Value} {mg mb : Str → Option Value} {name qual : Str} {params : Arguments} {body : Expr} {scope : Scope} {cl : List (Str × Addr)} {pm ctv : Value} {c' f : Addr} {vals : List Value} {binds : List (Str × Value)} (bs : List (Str × Value))
    (B : Below A₀ base outer h₀) (F : Fr h₀ L s.heap m) (X₀ : K.In h₀) (N : News h₀ L s.heap news) (T : Top p loose mean mg mb h₀) (hA : A.frames = some (env :: outer)) (hf : env.frame = some L) (hke : env.scope.kind = .function)
    (ho : (f, kla_obj name qual params body scope cl pm c' ctv) ∈ news) (hcd : s.heap.CodeRec (.ref c') qual) (hroom : A.depth < recursionLimit)
    (hbind : bindArgs (kla_fn name qual params body scope cl pm (.ref c') ctv) ⟨vals, []⟩ = pure binds) (hbs : binds.reverse = bs) (hloc : ∀ y ∈ binds, scope.names.lookup y.1 = some .local)
    (hco : scope.isCoroutine = false) (hgen : scope.isGenerator = false) (hk : scope.kind = .function) (hcell : ∀ x ∈ scope.names, x.2 ≠ .cell)
    (h : ∀ g L' h₁ tk, Fr h₀ L g m → Fr g L' h₁ (kstB (fun _ => none) bs) → News g L' h₁ news → Below A base (env :: outer) g → K.In g → Top p loose mean mg mb g → GSub s.heap g (news.map (·.1)) →
      wpAny (model prog w) (A.deeper (envX qual scope L' f (.ref c') cl)) (eval body (envX qual scope L' f (.ref c') cl)) (fun v s' => RetQ h₀ L m g Q (.ret v) s') (fun _ _ => False) { s with heap := h₁, toks := tk }) :
    wpAny (model prog w) A (call (.ref f) vals) Q E s := by
  obtain ⟨FG, BG, st, lv⟩ := groundX (R := fun r s' => match r with | .ok (.ret v) => Q v s' | .ok _ => False | .error e => E e s') B F N hA hf hke
  refine wpAny_call (kla_callFunE hroom (N _ ho).1 rfl hco hgen rfl hcd ?_)
  rw [hbind]
  refine wpAny_pure (wpAny_newFunctionEnv hcell hloc (fun h₁ hns hsb => ⟨((T.nolimit).keeps F.keep).fresh _ hsb, ?_⟩) hk)
  have hk₁ : ∀ b o, s.heap.get? b = some o → h₁.get? b = some o := fun b o e => hsb.extBut b o (Nat.ne_of_lt (Heap.lt_size e)) (Heap.get?_push_of_some _ e)
  have e : (fun y => List.lookup y binds.reverse) = kstB (fun _ => none) bs := by
    funext y; rw [lookup_kstB, hbs]
  have F' : Fr (hideAll s.heap (news.map (·.1))) s.heap.objs.size h₁ (kstB (fun _ => none) bs) := by
    rw [← e]
    exact ⟨hns, fun b o e => hk₁ b o (of_hideAll _ e), Nat.le_of_eq (hideAll_size _ _)⟩
  exact kla_codeExpr (wpAny_mono (h _ s.heap.objs.size h₁ _ FG F'
    (fun p hp => ⟨hk₁ _ _ (N p hp).1, Nat.ne_of_lt (Heap.lt_size (N p hp).1), hideAll_none _ (List.mem_map_of_mem hp)⟩) BG (X₀.keeps st) (T.keeps st) (fun b o e n => hideAll_get _ e n)) (fun v s' hl => lv _ _ hl) fun _ _ y => y.elim)

theorem any_succ {α : Type} {l : List α} {j : Nat} {x : α} (h : l[j]? = some x) (p : α → Bool) : (l.take (j + 1)).any p = ((l.take j).any p || p x) := by
  rw [List.take_add_one, h, List.any_append]
  simp
theorem foldl_succ {α β : Type} {l : List α} {j : Nat} {x : α} (h : l[j]? = some x) (f : β → α → β) (b : β) : (l.take (j + 1)).foldl f b = f ((l.take j).foldl f b) x := by
  rw [List.take_add_one, h, List.foldl_append]
  rfl
theorem TupsAre.keepT {h h' : Heap} (hk : ∀ b o, o.cls = .type "tuple" → h.get? b = some o → h'.get? b = some o) {vs : List Value} {cs : List (List Int)} (t : TupsAre h vs cs) : TupsAre h' vs cs := by
  induction t with
  | nil => exact .nil
  | cons a b _ ih =>
    obtain ⟨o, h1, h2, h3⟩ := a
    exact .cons ⟨o, hk _ _ h2 h1, h2, h3⟩ b ih

/-- the rows that stay, in turn -/
def keepF (kept : List (List Int)) (cut : List Int) : List (List Int) := if kept.any (fun o => o.all fun x => cut.contains x) = true then kept else kept ++ [cut]

theorem wd_ok {prog : Program} {w : World} {p : Program} {loose : List Str} {mean : ExcName → Option Value} {mg mb : Str → Option Value}
  {dp un : Nat} {gd : Option (List Code)} {cn : Str} {cs : Scope} {a : Addr} {ccd : Value} {cl : List (Str × Addr)} {outer : List Env} {A₀ : Around} {base h₀ : Heap} {L : Addr} {m : Str → Option Value} {s : Shared} {Q E : Value → Shared → Prop}
  {l : Addr} {vs : List Value} {zs : List (List Int)}
  (B : Below A₀ base outer h₀) (F : Fr h₀ L s.heap m) (X : (hd.heap_39 w.params).In h₀) (T : Top p loose mean mg mb h₀) (hk : cs.kind = .function)
  (hd : dp + 2 < recursionLimit) (hu : un + 100 < cLine)
  (C : CodeHd h₀ 34 30) (N : News h₀ L s.heap [(30, tabObj #[])])
  (hl : s.heap.IsList l vs.toArray) (t1 : TupsAre s.heap vs zs) (l1 : vs.length < 64) (l2 : ∀ c ∈ zs, c.length ≤ 100)
  (ret : ∀ h' tk D vs' n zs' ps, Fr h₀ L h' m → (∀ b o, b ≠ 30 → s.heap.get? b = some o → h'.get? b = some o) → s.heap.get? D = none → News h₀ L h' [(D, listOf (List.toArray vs') n), (30, tabObj ps)] → List.Perm zs' zs → List.Pairwise (α := List Int) (fun a b => ltC b a = false) zs' → (∀ v ∈ vs', v ∈ vs) → TupsAre h' vs' (zs'.foldl keepF []) → Q (.ref D) { s with heap := h', toks := tk }) :
  wpAny (model prog w) (ktrTop dp un gd cn cs L a ccd cl outer) (call (.ref 35) [.ref l]) Q E s := by
  k_dflt (refine' enterG [(Str.ofString "cuts", .ref l)] ?k1 ?k2 ?k3 ?k4 ?k5 ?kA ?kF ?kK ?k6 ?k7 ?k8 ?k9 ?kr ?kB ?c2 ?c3 ?c4 ?c5 ?_; (case kA => exact rfl); (case kF => exact rfl); (case kK => assumption); (case k1 => k_asm); (case k2 => k_asm); (case k3 => k_asm); (case k4 => k_asm); (case k5 => k_asm); (case k6 => k_is); (case k7 => k_is); (case k8 => ktr_room); (case k9 => exact BindsTo.of_eq rfl); (case kr => with_unfolding_all exact rfl); (case c5 => decide); (case kB => exact locs rfl); (case c2 => exact rfl); (case c3 => exact rfl); (case c4 => exact rfl))
  intro g L1 h1 tk FG F1 N1 B1 X1 T1 kG
  have h30 : s.heap.get? 30 = some (tabObj #[]) := (N _ (.head _)).1
  have kG' : ∀ b o, b ≠ 30 → s.heap.get? b = some o → g.get? b = some o := fun b o hb e => kG b o e (by simpa using hb)
  have hl1 : g.IsList l vs.toArray := by
    obtain ⟨o, h1, h2, h3⟩ := hl
    refine ⟨o, kG' _ _ ?_ h1, h2, h3⟩
    rintro rfl
    rw [h30] at h1
    cases h1
    cases h2
  have t1' : TupsAre g vs zs := t1.keepT fun b o hc e => kG' b o (by rintro rfl; rw [h30] at e; cases e; cases hc) e
  have C1 : CodeHd g 34 30 := C.keeps fun b o e => FG.keep b o e
  k_steps
  rename_i K hA lK hB F2 N2 f c oc cvs ct cf hC tk2 F3 N3 q1 q2 lc lf
  unfold Stop
  show wpAny _ _ (call (Value.builtin _) [Value.ref _] [(PySem.Str.ofString "key", _)]) _ _ _
  obtain ⟨ps, N4⟩ : ∃ ps, News g L1 hC [(f, _), (c, oc), (K, listOf #[] 0), (30, tabObj ps)] := ⟨_, N3⟩
  refine sorted_keyed (cs := zs) ?u F3 N4 (hl1.at fun o e => F3.keep _ o e) l1 (ksk_s1 _ _) (fun x => ksk_l1 _ _) (fun x => ksk_t1 _ _) ?call t1' l2 ?_
  case u => show un + 3 + 50 < cLine; omega
  case call =>
    intro s2 nl a ws c2 Q2 F5 N5 hsub ht hi hlc k
    have N6 : News g L1 s2.heap [(f, _), (c, oc)] := fun p hp => N5 p (hsub p (by simp at hp ⊢; rcases hp with h | h; exact .inl h; exact .inr (.inl h)))
    have t2 := ht
    clear N5
    have N8 := N6
    refine enterL [(Str.ofString "row", .ref a)] B1 F5 X1 N6 T1 rfl rfl rfl (.head _) (codeRec_news N6 (.tail _ (.head _)) q1 q2) ?room rfl rfl (locs rfl) rfl rfl rfl (by decide) ?_
    case room => show dp + 1 < recursionLimit; omega
    intro g3 L3 h3 tk3 FG3 F6 N6 B3 X3 T3 kG3
    have t3 : IsTup g3 a ws.toArray := by
      obtain ⟨o, e1, e2, n, e3⟩ := ht
      refine ⟨o, kG3 _ _ e1 ?_, e2, n, e3⟩
      simp only [List.map_cons, List.map_nil, List.mem_cons, List.not_mem_nil, or_false]
      rintro (rfl | rfl)
      · have z : s2.heap.get? a = some _ := (N8 _ (.head _)).1
        rw [e1] at z
        cases z
        exact absurd (Value.type.inj e2) (by decide)
      · have z : s2.heap.get? a = some _ := (N8 _ (.tail _ (.head _))).1
        rw [e1] at z
        cases z
        rw [q1] at e3
        cases e3
    clear t1 t1' hl hl1 t2 ht
    have big : (c2.length : Int) < 2 ^ 62 := by omega
    k_steps
    rename_i D3 h7 F7 N7 ld
    refine retQ F7 N7 fun F9 N9 => ?_
    have hkeep : ∀ b x, s2.heap.get? b = some x → h7.get? b = some x := by
      intro b x e
      by_cases e1 : b = f
      · subst e1
        have z : s2.heap.get? b = some _ := (N8 _ (.head _)).1
        rw [e] at z
        cases z
        exact (N7 _ (.tail _ (.head _))).1
      · by_cases e2 : b = c
        · subst e2
          have z : s2.heap.get? b = some _ := (N8 _ (.tail _ (.head _))).1
          rw [e] at z
          cases z
          exact (N7 _ (.tail _ (.tail _ (.head _)))).1
        · exact F7.keep _ _ (kG3 _ _ e (by simp [e1, e2]))
    have hnew : s2.heap.get? D3 = none := by
      cases q : s2.heap.get? D3 with
      | none => rfl
      | some o =>
        have z : g3.get? D3 = none := (N7 _ (.head _)).2.2
        rw [kG3 _ _ q (by simp only [List.map_cons, List.map_nil, List.mem_cons, List.not_mem_nil, or_false]; rintro (e | e); exact absurd e (Nat.ne_of_gt ld.1); exact absurd e (Nat.ne_of_gt ld.2))] at z
        cases z
    exact k _ _ D3 _ 0 _ F9 hkeep hnew (N9 _ (.head _)).2.2 (N9 _ (.head _)).2.1 (N7 _ (.head _)).1 rfl rfl
  intro D s' out zs' n hbg F5 N5 l3 t5 hp hs hov
  obtain ⟨hz, tz, rfl⟩ := hbg
  dsimp only at F5 N5
  have N6 : News g L1 hz [(D, listOf out.toArray n), (K, listOf #[] 0), (30, tabObj ps)] := fun p hp => N5 p (by simp at hp ⊢; rcases hp with h | h | h; exact .inl h; exact .inr (.inr (.inr (.inl h))); exact .inr (.inr (.inr (.inr h))))
  have lKD : K < D := l3 (K, listOf #[] 0) (.tail _ (.tail _ (.head _)))
  have hlen : out.length < 64 := by
    have e1 := t5.length
    have e2 := hp.length_eq
    have e3 := t1'.length
    omega
  clear N5 l3 N4 N3 N2 F3 F2 l1 hl hl1 t1 C1 C q1 q2
  refine loopL (σ := List Value × List (List Int) × Nat) (fun c => [(D, listOf out.toArray n), (K, listOf (List.toArray c.1) c.2.2), (30, tabObj ps)]) (fun _ => []) [Str.ofString "free", Str.ofString "other"]
    (fun i c => TupsAre g c.1 c.2.1 ∧ c.2.1 = (zs'.take i).foldl keepF [] ∧ c.1.length ≤ i ∧ ∀ v ∈ c.1, v ∈ vs) ([], [], 0) rfl (fun _ => .head _) F5 N6 (fun p hp => hp) (by simp) ⟨.nil, rfl, Nat.le_refl _, fun v hv => nomatch hv⟩ ?_ ?_
  · rintro i v ⟨kv, kc, e⟩ u h2 tk2 own hv hoff ⟨tk1, hkc, hkl, hkm⟩ F7 N7
    obtain ⟨ca, ws, c, rfl, ht, hi, hci⟩ := t5.at hv
    dsimp only at N7 hoff tk1 hkc hkl hkm
    have hlt : i < out.length := (List.getElem?_eq_some_iff.mp hv).1
    have hkv : kv.length < 64 := by omega
    have hkv2 : kv.toArray.size < 64 := by rw [List.size_toArray]; exact hkv
    clear F5 N6 t1' F
    k_steps
    rename_i h3 F8 N8
    unfold Stop
    refine loopL (σ := Bool) (fun _ => [(D, listOf out.toArray n), (K, listOf kv.toArray e), (30, tabObj ps)] ++ own) (fun b => [(Str.ofString "free", .bool b)]) []
      (fun i b => b = !((kc.take i).any fun o => o.all fun x => c.contains x)) true rfl (fun _ => .tail _ (.head _)) F8 N8 (fun p hp => hp) (by simp) rfl ?_ ?_
    · rintro j v b u2 h4 tk4 own2 hv2 hoff2 hb F9 N9
      obtain ⟨oa, os, oc2, rfl, hto, hio, hco⟩ := tk1.at hv2
      try dsimp only at hoff2
      clear F8 N8 F7 N7 t5
      k_steps
      unfold Stop
      refine within_ok B1 F9 X1 T1 rfl ?room (hto.keeps F9.keep) hio (ht.keeps F9.keep) (by assumption) ?_
      case room => show dp + 1 + 1 < recursionLimit; omega
      intro h5 tk5 F10 kp
      have N10 := N9.grown kp
      k_steps
      · rename_i ha h6 F11 N11
        refine js_end false F11 N11 (fun p hp => List.mem_append_left _ hp) (fun p hp => List.mem_append_right _ hp) hoff2 (by kst_all) ?_ ?_
        · intro z h1 h2 _
          have h2' : z ≠ Str.ofString "free" := h2 _ (.head _)
          simp [h1, h2', kstB]
        · show false = _
          rw [any_succ hco, ha, Bool.or_true]; rfl
      · rename_i ha
        refine js_end b F10 N10 (fun p hp => List.mem_append_left _ hp) (fun p hp => List.mem_append_right _ hp) hoff2 (by kst_all) ?_ ?_
        · intro z h1 h2 _
          have h2' : z ≠ Str.ofString "free" := h2 _ (.head _)
          simp [h1, h2', kstB]
        · show b = _
          rw [any_succ hco, ha, Bool.or_false, ← hb]
    · intro b u2 h4 tk4 hb F9 N9
      clear F8 N8 F7 N7
      have hb2 : b = !(kc.any fun o => o.all fun x => c.contains x) := by
        have q := tk1.length
        rw [hb, q, List.take_length]
      have hKown : ∀ p ∈ (30, tabObj ps) :: own, p.1 ≠ K := fun p hp => by
        rcases List.mem_cons.mp hp with rfl | hp
        · exact Nat.ne_of_lt lK
        · exact hoff p hp K (by simp)
      k_steps
      · rename_i hbt
        unfold Stop
        refine append_K F9 N9 (Upd.tail (Nat.ne_of_gt lKD) (Upd.head hKown)) ?_ (by rw [List.size_toArray, sizeLine_eq]; omega)
        intro h5 F10 N10
        k_steps
        have hkf : kc.any (fun o => o.all fun x => c.contains x) = false := by rw [hbt] at hb2; simpa using hb2.symm
        have e1 : kv.toArray.push (Value.ref ca) = (kv ++ [Value.ref ca]).toArray := by simp
        rw [e1] at N10
        refine js_end (kv ++ [.ref ca], kc ++ [c], e + 1) F10 N10 (fun p hp => by
          rcases List.mem_cons.mp hp with rfl | hp
          · exact .head _
          rcases List.mem_cons.mp hp with rfl | hp
          · exact .tail _ (.head _)
          rw [List.mem_singleton.mp hp]
          exact .tail _ (.tail _ (.head _))) (fun p hp => .tail _ (.tail _ (.tail _ hp))) hoff (by simp) ?_ ⟨tk1.snoc ht (by assumption), ?_, by simp; omega, ?_⟩
        · intro z h1 _ h3
          simp only [List.contains_cons, List.contains_nil, Bool.or_false, Bool.or_eq_false_iff, beq_eq_false_iff_ne, ne_eq] at h3
          simp [h1, h3.1, h3.2, kstB]
        · dsimp only
          rw [foldl_succ hci, ← hkc, keepF, hkf, if_neg (by simp)]
        · intro v hvm
          rcases List.mem_append.mp hvm with h | h
          · exact hkm v h
          · rw [List.mem_singleton.mp h]
            exact hov _ (List.mem_of_getElem? hv)
      · rename_i hbt
        have hkf : kc.any (fun o => o.all fun x => c.contains x) = true := by rw [hbt] at hb2; simpa using hb2.symm
        refine js_end (kv, kc, e) F9 N9 (fun p hp => List.mem_append_left own hp) (fun p hp => .tail _ (.tail _ (.tail _ hp))) hoff (by simp) ?_ ⟨tk1, ?_, by dsimp only; omega, hkm⟩
        · intro z h1 _ h3
          simp only [List.contains_cons, List.contains_nil, Bool.or_false, Bool.or_eq_false_iff, beq_eq_false_iff_ne, ne_eq] at h3
          simp [h1, h3.1, h3.2, kstB]
        · dsimp only
          rw [foldl_succ hci, ← hkc, keepF, hkf, if_pos rfl]
  · rintro ⟨kv, kc, e⟩ u h2 tk2 ⟨tk1, hkc, hkl, hkm⟩ F7 N7
    dsimp only at N7 tk1 hkc hkl hkm
    clear F5 N6
    k_steps
    refine retQ F7 N7 fun F8 N8 => ?_
    refine ret _ _ K kv e zs' ps F8 (fun b o hb eq => F7.keep _ _ (kG' _ _ hb eq)) ?_ (fun p hp => N8 p (.tail _ hp)) hp hs hkm ?_
    · cases q : s.heap.get? K with
      | none => rfl
      | some o =>
        have z : g.get? K = none := (N7 _ (.tail _ (.head _))).2.2
        rw [kG' _ _ (Nat.ne_of_gt lK) q] at z
        cases z
    · have q := t5.length
      rw [q, List.take_length] at hkc
      rw [← hkc]
      exact tk1.keeps F7.keep
end Mine

namespace Mine
open PySem PySem.W PyProof.Rows PySem.Calls PySem.Spec
local macro_rules | `(tactic| walk_at "eval ListComp") => `(tactic| refine Stop.out ?_)
local macro_rules | `(tactic| walk_at "pyIter ref") => `(tactic| refine Stop.out ?_)
local macro_rules | `(tactic| walk_at "call ref") => `(tactic| refine Stop.out ?_)

local macro_rules | `(tactic| walk_at "exec For Name Name cons nil") => `(tactic| (k_here; (rename Fr _ _ _ _ => lF'); (with_unfolding_all refine' For_invVF lF' ?k1 ?k2 ?_; (case k1 => exact rfl); (case k2 => exact rfl); k_whole)))
local macro_rules | `(tactic| walk_at "exec For Name Call cons nil") => `(tactic| (k_here; (rename Fr _ _ _ _ => lF'); (with_unfolding_all refine' For_invVF lF' ?k1 ?k2 ?_; (case k1 => exact rfl); (case k2 => exact rfl); k_whole)))
local macro_rules | `(tactic| walk_at "exec For Name Subscript cons nil") => `(tactic| (k_here; (rename Fr _ _ _ _ => lF'); (with_unfolding_all refine' For_invVF lF' ?k1 ?k2 ?_; (case k1 => exact rfl); (case k2 => exact rfl); k_whole)))

local macro_rules | `(tactic| walk_at "pad one") => `(tactic| refine Stop.out ?_)
local macro_rules | `(tactic| walk_at "pad two") => `(tactic| refine Stop.out ?_)
local macro_rules | `(tactic| walk_at "pad three") => `(tactic| refine Stop.out ?_)
local macro_rules | `(tactic| walk_at "call builtin:list.append") => `(tactic| refine Stop.out ?_)

/-- tuples of ints that stand in the ledger -/
inductive TupsIn (tl : List (Addr × Obj)) : List Value → List (List Int) → Prop
  | nil : TupsIn tl [] []
  | cons {a : Addr} {o : Obj} {n : Nat} {ws : List Value} {c : List Int} {vs : List Value} {cs : List (List Int)} : (a, o) ∈ tl → o.cls = .type "tuple" → o.data = .seq ws.toArray n → IntsAre ws c → TupsIn tl vs cs → TupsIn tl (.ref a :: vs) (c :: cs)
theorem TupsIn.are {tl : List (Addr × Obj)} {vs : List Value} {cs : List (List Int)} (t : TupsIn tl vs cs) {h : Heap} (N : ∀ p ∈ tl, h.get? p.1 = some p.2) : TupsAre h vs cs := by
  induction t with
  | nil => exact .nil
  | cons a b c d _ ih => exact .cons ⟨_, N _ a, b, _, c⟩ d ih
theorem TupsIn.more {tl tl' : List (Addr × Obj)} (hs : ∀ p ∈ tl, p ∈ tl') {vs : List Value} {cs : List (List Int)} (t : TupsIn tl vs cs) : TupsIn tl' vs cs := by
  induction t with
  | nil => exact .nil
  | cons a b c d _ ih => exact .cons (hs _ a) b c d ih
theorem TupsIn.snoc {tl : List (Addr × Obj)} {a : Addr} {o : Obj} {n : Nat} {ws : List Value} {c : List Int} {vs : List Value} {cs : List (List Int)} (t : TupsIn tl vs cs) (h1 : (a, o) ∈ tl) (h2 : o.cls = .type "tuple") (h3 : o.data = .seq ws.toArray n) (h4 : IntsAre ws c) : TupsIn tl (vs ++ [.ref a]) (cs ++ [c]) := by
  induction t with
  | nil => exact .cons h1 h2 h3 h4 .nil
  | cons a b c d _ ih => exact .cons a b c d ih
theorem TupsIn.length {tl : List (Addr × Obj)} {vs : List Value} {cs : List (List Int)} (t : TupsIn tl vs cs) : vs.length = cs.length := by
  induction t with
  | nil => rfl
  | cons _ _ _ _ _ ih => rw [List.length_cons, List.length_cons, ih]

/-- a union that is not too large -/
def mk (k : Int) (a b : List Int) : Option (List Int) := if k < ((mrg a b).length : Int) then none else some (mrg a b)
def unionsOf (k : Int) (lc rc : List (List Int)) : List (List Int) := lc.flatMap fun a => rc.filterMap fun b => mk k a b

theorem News.add2 {h₀ h : Heap} {L : Addr} {a b x : Addr × Obj} {rest : List (Addr × Obj)} (N : News h₀ L h (a :: b :: rest)) (h1 : h.get? x.1 = some x.2) (h2 : x.1 ≠ L) (h3 : h₀.get? x.1 = none) : News h₀ L h (a :: b :: x :: rest) := by
  intro p hp
  simp only [List.mem_cons] at hp
  rcases hp with rfl | rfl | rfl | hp
  · exact N _ (.head _)
  · exact N _ (.tail _ (.head _))
  · exact ⟨h1, h2, h3⟩
  · exact N _ (.tail _ (.tail _ hp))
theorem unions_succ {k : Int} {lc rc : List (List Int)} {i : Nat} {c : List Int} (h : lc[i]? = some c) : unionsOf k (lc.take (i + 1)) rc = unionsOf k (lc.take i) rc ++ rc.filterMap (fun b => mk k c b) := by
  unfold unionsOf
  rw [List.take_add_one, h, List.flatMap_append]
  simp
theorem fm_succ {k : Int} {rc : List (List Int)} {c x : List Int} {j : Nat} (h : rc[j]? = some x) : (rc.take (j + 1)).filterMap (fun b => mk k c b) = (rc.take j).filterMap (fun b => mk k c b) ++ (mk k c x).toList := by
  rw [List.take_add_one, h, List.filterMap_append]
  simp [List.filterMap_cons]
  cases mk k c x <;> rfl

theorem TupsAre.inn {h : Heap} {tl : List (Addr × Obj)} (N : ∀ p ∈ tl, h.get? p.1 = some p.2) {vs : List Value} {cs : List (List Int)} (t : TupsAre h vs cs) (hm : ∀ v ∈ vs, ∃ p ∈ tl, v = Value.ref p.1) : TupsIn tl vs cs := by
  induction t with
  | nil => exact .nil
  | cons a b _ ih =>
    obtain ⟨p, hp, e⟩ := hm _ (.head _)
    obtain ⟨o, h1, h2, n, h3⟩ := a
    cases e
    have e2 := N p hp
    rw [h1] at e2
    cases e2
    exact .cons (o := p.2) hp h2 h3 b (ih fun v hv => hm v (.tail _ hv))
theorem TupsIn.refs {tl : List (Addr × Obj)} {vs : List Value} {cs : List (List Int)} (t : TupsIn tl vs cs) : ∀ v ∈ vs, ∃ p ∈ tl, v = Value.ref p.1 := by
  induction t with
  | nil => intro v hv; nomatch hv
  | cons a b c d _ ih =>
    intro v hv
    rcases List.mem_cons.mp hv with rfl | hv
    · exact ⟨_, a, rfl⟩
    · exact ih v hv
theorem TupsIn.take {tl : List (Addr × Obj)} {vs : List Value} {cs : List (List Int)} (t : TupsIn tl vs cs) : ∀ n : Nat, TupsIn tl (vs.take n) (cs.take n) := by
  induction t with
  | nil => intro n; simpa using .nil
  | cons a b c d _ ih =>
    intro n
    cases n with
    | zero => exact .nil
    | succ n => exact .cons a b c d (ih n)

theorem keepF_len : ∀ (l b : List (List Int)), (l.foldl keepF b).length ≤ b.length + l.length
  | [], b => Nat.le_refl _
  | x :: l, b => by
    have h := keepF_len l (keepF b x)
    have h2 : (keepF b x).length ≤ b.length + 1 := by
      unfold keepF
      split
      · omega
      · simp
    rw [List.foldl_cons, List.length_cons]
    omega
theorem keepF_sub : ∀ (l b : List (List Int)), ∀ x ∈ l.foldl keepF b, x ∈ b ∨ x ∈ l
  | [], b, x, h => .inl h
  | y :: l, b, x, h => by
    rcases keepF_sub l (keepF b y) x h with h | h
    · unfold keepF at h
      split at h
      · exact .inl h
      · rcases List.mem_append.mp h with h | h
        · exact .inl h
        · exact .inr (List.mem_singleton.mp h ▸ .head _)
    · exact .inr (.tail _ h)
theorem mk_len {k : Int} {a b c : List Int} (h : mk k a b = some c) : (c.length : Int) ≤ k := by
  unfold mk at h
  split at h
  · cases h
  · obtain rfl := Option.some.inj h
    omega
theorem mrg_len : ∀ a b : List Int, (mrg a b).length ≤ a.length + b.length
  | [], b => by rw [mrg_nil']; simp
  | x :: a, [] => by rw [mrg_nil]; simp
  | x :: a, y :: b => by
    rw [mrg]
    split
    · have := mrg_len a (y :: b); simp at this ⊢; omega
    · split
      · have := mrg_len (x :: a) b; simp at this ⊢; omega
      · have := mrg_len a b; simp at this ⊢; omega
termination_by a b => a.length + b.length
theorem unions_len {k : Int} {lc rc : List (List Int)} {z : List Int} (h : z ∈ unionsOf k lc rc) : ∃ a ∈ lc, ∃ b ∈ rc, z = mrg a b := by
  unfold unionsOf at h
  obtain ⟨a, ha, h⟩ := List.mem_flatMap.mp h
  obtain ⟨b, hb, h⟩ := List.mem_filterMap.mp h
  unfold mk at h
  split at h
  · cases h
  · exact ⟨a, ha, b, hb, (Option.some.inj h).symm⟩

structure NSt where
  vs : List Value
  cs : List (List Int)
  e : Nat
  tl : List (Addr × Obj)

theorem node_cuts_ok {prog : Program} {w : World} {p : Program} {loose : List Str} {mean : ExcName → Option Value} {mg mb : Str → Option Value}
  {dp un : Nat} {gd : Option (List Code)} {cn : Str} {cs : Scope} {a : Addr} {ccd : Value} {cl : List (Str × Addr)} {outer : List Env} {A₀ : Around} {base h₀ : Heap} {L : Addr} {m : Str → Option Value} {s : Shared} {Q E : Value → Shared → Prop}
  {al ar : Addr} {lv rv : List Value} {lc rc : List (List Int)} {nd k most : Int} {t0 t1 t2 : Tok}
  (B : Below A₀ base outer h₀) (F : Fr h₀ L s.heap m) (X : (hd.heap_39 w.params).In h₀) (T : Top p loose mean mg mb h₀) (hk : cs.kind = .function)
  (hd : dp + 3 < recursionLimit) (hu : un + 200 < cLine)
  (C : CodeHd h₀ 34 30) (N : News h₀ L s.heap [(30, tabObj #[])])
  (hl : s.heap.IsList al lv.toArray) (tl1 : TupsAre s.heap lv lc) (hr : s.heap.IsList ar rv.toArray) (tr1 : TupsAre s.heap rv rc)
  (ll : lv.length ≤ 7) (lr : rv.length ≤ 7) (l2 : ∀ c ∈ lc, c.length ≤ 40) (r2 : ∀ c ∈ rc, c.length ≤ 40) (hm0 : 0 < most) (hm1 : most < 100)
  (ret : ∀ h' tk D vs' n zs' ps, Fr h₀ L h' m → (∀ b o, b ≠ 30 → s.heap.get? b = some o → h'.get? b = some o) → News h₀ L h' [(D, listOf (List.toArray vs') n), (30, tabObj ps)] → List.Perm zs' (unionsOf k lc rc) → List.Pairwise (α := List Int) (fun a b => ltC b a = false) zs' →
    TupsAre h' vs' ((zs'.foldl keepF []).take most.toNat ++ [[nd]]) → Q (.ref D) { s with heap := h', toks := tk }) :
  wpAny (model prog w) (ktrTop dp un gd cn cs L a ccd cl outer) (call (.ref 42) [.int nd t0, .ref al, .ref ar, .int k t1, .int most t2]) Q E s := by
  k_dflt (refine' enterG [(Str.ofString "most", .int most t2), (Str.ofString "k", .int k t1), (Str.ofString "right", .ref ar), (Str.ofString "left", .ref al), (Str.ofString "node", .int nd t0)] ?k1 ?k2 ?k3 ?k4 ?k5 ?kA ?kF ?kK ?k6 ?k7 ?k8 ?k9 ?kr ?kB ?c2 ?c3 ?c4 ?c5 ?_; (case kA => exact rfl); (case kF => exact rfl); (case kK => assumption); (case k1 => k_asm); (case k2 => k_asm); (case k3 => k_asm); (case k4 => k_asm); (case k5 => k_asm); (case k6 => k_is); (case k7 => k_is); (case k8 => ktr_room); (case k9 => exact BindsTo.of_eq rfl); (case kr => with_unfolding_all exact rfl); (case c5 => decide); (case kB => exact locs rfl); (case c2 => exact rfl); (case c3 => exact rfl); (case c4 => exact rfl))
  intro g L1 h1 tk FG F1 N1 B1 X1 T1 kG
  have h30 : s.heap.get? 30 = some (tabObj #[]) := (N _ (.head _)).1
  have kG' : ∀ b o, b ≠ 30 → s.heap.get? b = some o → g.get? b = some o := fun b o hb e => kG b o e (by simpa using hb)
  have kL : ∀ {a : Addr} {vs : Array Value}, s.heap.IsList a vs → g.IsList a vs := by
    rintro a vs ⟨o, h1, h2, h3⟩
    refine ⟨o, kG' _ _ ?_ h1, h2, h3⟩
    rintro rfl
    rw [h30] at h1
    cases h1
    cases h2
  have kT : ∀ {vs : List Value} {cs : List (List Int)}, TupsAre s.heap vs cs → TupsAre g vs cs := fun t => t.keepT fun b o hc e => kG' b o (by rintro rfl; rw [h30] at e; cases e; cases hc) e
  have hl1 := kL hl
  have hr1 := kL hr
  have tl2 := kT tl1
  have tr2 := kT tr1
  have C1 : CodeHd g 34 30 := C.keeps fun b o e => FG.keep b o e
  clear kL kT hl hr tl1 tr1 C F B X T
  k_steps
  rename_i M hA lM hB F2 N2
  unfold Stop
  refine loopB (σ := NSt) (fun c => (M, listOf (List.toArray c.vs) c.e) :: (30, tabObj #[]) :: c.tl) (fun _ => []) [Str.ofString "other", Str.ofString "cut"]
    (fun i c => TupsIn c.tl c.vs c.cs ∧ c.cs = unionsOf k (lc.take i) rc ∧ c.vs.length ≤ 7 * i ∧ (∀ p ∈ c.tl, p.1 ≠ M ∧ p.1 ≠ 30)) ⟨[], [], 0, []⟩ rfl hl1 F2 N2 (fun p hp => hp) (by simp) ⟨.nil, rfl, Nat.le_refl _, (fun p hp => nomatch hp)⟩ ?_ ?_
  · rintro i v ⟨vs, cs1, e, tl⟩ u h2 tk2 own hv hoff ⟨p1, p2, p3, p4⟩ F3 N3
    obtain ⟨a1, w1, c1, rfl, ht1, hi1, hc1⟩ := tl2.at hv
    dsimp only at p1 p2 p3 p4 hoff N3
    have hlt : i < lv.length := (List.getElem?_eq_some_iff.mp hv).1
    have hs1 : c1.length ≤ 40 := l2 _ (List.mem_of_getElem? hc1)
    clear F2 N2
    k_steps
    rename Fr _ _ _ _ => F3
    rename News _ _ _ _ => N3
    unfold Stop
    refine loopB (σ := NSt) (fun c => (M, listOf (List.toArray c.vs) c.e) :: (30, tabObj #[]) :: (c.tl ++ own)) (fun _ => []) [Str.ofString "cut"]
      (fun j c => TupsIn c.tl c.vs c.cs ∧ c.cs = cs1 ++ (rc.take j).filterMap (fun b => mk k c1 b) ∧ c.vs.length ≤ 7 * i + j ∧ (∀ p ∈ c.tl, p.1 ≠ M ∧ p.1 ≠ 30) ∧ (∀ p ∈ c.tl, ∀ q ∈ own, q.1 ≠ p.1)) ⟨vs, cs1, e, tl⟩ rfl hr1 F3 N3 (fun p hp => hp) (by simp) ⟨p1, by simp, (by dsimp only; omega), p4, ?_⟩ ?_ ?_
    · intro p hp q hq
      exact hoff q hq p.1 (.tail _ (.tail _ (List.mem_map_of_mem hp)))
    · rintro j v2 ⟨vs2, cs2, e2, tl2'⟩ u2 h4 tk4 own2 hv2 hoff2 ⟨q1, q2, q3, q4, q5⟩ F5 N5
      obtain ⟨a2, w2, c2, rfl, ht2, hi2, hc2⟩ := tr2.at hv2
      dsimp only at q1 q2 q3 q4 q5 hoff2 N5
      have hlt2 : j < rv.length := (List.getElem?_eq_some_iff.mp hv2).1
      have hs2 : c2.length ≤ 40 := r2 _ (List.mem_of_getElem? hc2)
      clear F3 N3
      k_steps
      unfold Stop
      refine merge_ok B1 F5 X1 T1 rfl ?room ?units (ht1.keeps F5.keep) (by assumption) (ht2.keeps F5.keep) (by assumption) (by omega) (by omega) ?_ ?_
      case room => show dp + 1 + 1 < recursionLimit; omega
      case units => show un + 3 + 100 < cLine; omega
      · intro hk1 h5 tk5 F6 kp
        have N6 := N5.grown kp
        clear F5 N5
        k_steps
        rename Fr _ _ _ _ => F7
        rename News _ _ _ _ => N7
        refine js_end ⟨vs2, cs2, e2, tl2'⟩ F7 N7 (fun p hp => List.mem_append_left own2 hp) (fun p hp => List.mem_append_right _ hp) hoff2 (by simp) ?_ ⟨q1, ?_, by dsimp only; omega, q4, q5⟩
        · intro z h1 _ h3
          simp only [List.contains_cons, List.contains_nil, Bool.or_false, beq_eq_false_iff_ne, ne_eq] at h3
          simp [h1, h3, kstB]
        · dsimp only
          rw [fm_succ hc2, q2]
          simp [mk, hk1]
      · intro hk1 h5 tk5 r ws F6 kp hnew htr hir
        obtain ⟨o, hro, hrc, nr, hrd⟩ := htr
        have hrL : r ≠ L1 := by
          obtain ⟨oL, _, _, hL, _⟩ := F5.ns
          rintro rfl
          have z : h4.get? r = some oL := hL
          dsimp only at hnew
          rw [hnew] at z
          cases z
        have hr0 : g.get? r = none := by
          cases q : g.get? r with
          | none => rfl
          | some o2 =>
            have z := F5.keep _ _ q
            dsimp only at hnew
            rw [hnew] at z
            cases z
        have hold : ∀ p ∈ ((M, listOf (List.toArray vs2) e2) :: (30, tabObj #[]) :: (tl2' ++ own) ++ own2), p.1 ≠ r := by
          rintro p hp rfl
          have z := (N5 p hp).1
          dsimp only at hnew
          rw [hnew] at z
          cases z
        have N6 : News g L1 h5 ((M, listOf (List.toArray vs2) e2) :: (30, tabObj #[]) :: (r, o) :: ((tl2' ++ own) ++ own2)) := News.add2 (N5.grown kp) hro hrL hr0
        clear F5 N5
        k_steps
        rename Fr _ _ _ _ => F7
        rename News _ _ _ _ => N7
        unfold Stop
        have hM : ∀ p ∈ ((30, tabObj #[]) :: (r, o) :: ((tl2' ++ own) ++ own2)), p.1 ≠ M := by
          intro p hp
          simp only [List.mem_cons, List.mem_append] at hp
          rcases hp with rfl | rfl | (hp | hp) | hp
          · exact Nat.ne_of_lt lM
          · exact fun e => hold _ (.head _) e.symm
          · exact (q4 p hp).1
          · exact hoff p hp M (.head _)
          · exact hoff2 p hp M (.head _)
        refine append_K F7 N7 (Upd.head hM) ?_ (by rw [List.size_toArray, sizeLine_eq]; omega)
        intro h7 F8 N8
        k_steps
        have e1 : vs2.toArray.push (Value.ref r) = (vs2 ++ [Value.ref r]).toArray := by simp
        rw [e1] at N8
        refine js_end ⟨vs2 ++ [.ref r], cs2 ++ [mrg c1 c2], e2 + 1, (r, o) :: tl2'⟩ F8 N8 ?_ ?_ ?_ (by simp) ?_ ⟨(q1.more fun p hp => .tail _ hp).snoc (.head _) hrc hrd hir, ?_, by simp; omega, ?_, ?_⟩
        · intro p hp
          simp only [List.mem_cons, List.mem_append, List.cons_append] at hp ⊢
          rcases hp with h | h | h | h | h
          · exact .inl h
          · exact .inr (.inl h)
          · exact .inr (.inr (.inl h))
          · exact .inr (.inr (.inr (.inl (.inl h))))
          · exact .inr (.inr (.inr (.inl (.inr h))))
        · intro p hp
          exact .tail _ (.tail _ (.tail _ (List.mem_append_right _ hp)))
        · intro p hp b hb
          simp only [List.map_cons, List.map_append, List.cons_append, List.mem_cons, List.mem_append] at hb
          rcases hb with h | h | h | h | h
          · exact hoff2 p hp b (h ▸ .head _)
          · exact hoff2 p hp b (h ▸ .tail _ (.head _))
          · rw [h]
            exact hold p (List.mem_append_right _ hp)
          · exact hoff2 p hp b (.tail _ (.tail _ (by rw [List.map_append]; exact List.mem_append_left _ h)))
          · exact hoff2 p hp b (.tail _ (.tail _ (by rw [List.map_append]; exact List.mem_append_right _ h)))
        · intro z h1 _ h3
          simp only [List.contains_cons, List.contains_nil, Bool.or_false, beq_eq_false_iff_ne, ne_eq] at h3
          simp [h1, h3, kstB]
        · dsimp only
          rw [fm_succ hc2, q2, List.append_assoc]
          simp [mk, hk1]
        · intro p hp
          rcases List.mem_cons.mp hp with rfl | hp
          · exact ⟨fun e => hold _ (.head _) e.symm, fun e => hold _ (.tail _ (.head _)) e.symm⟩
          · exact q4 p hp
        · intro p hp q hq
          rcases List.mem_cons.mp hp with rfl | hp
          · exact hold q (.tail _ (.tail _ (List.mem_append_left _ (List.mem_append_right _ hq))))
          · exact q5 p hp q hq
    · rintro ⟨vs2, cs2, e2, tl2'⟩ u2 h4 tk4 ⟨q1, q2, q3, q4, q5⟩ F5 N5
      dsimp only at q1 q2 q3 q4 q5 N5
      clear F3 N3
      k_steps
      have e0 := tr2.length
      refine js_end ⟨vs2, cs2, e2, tl2'⟩ F5 N5 ?_ ?_ ?_ (by simp) ?_ ⟨q1, ?_, by dsimp only; omega, q4⟩
      · intro p hp
        simp only [List.mem_cons, List.mem_append] at hp ⊢
        rcases hp with h | h | h
        · exact .inl h
        · exact .inr (.inl h)
        · exact .inr (.inr (.inl h))
      · intro p hp
        exact .tail _ (.tail _ (List.mem_append_right _ hp))
      · intro p hp b hb
        simp only [List.map_cons, List.mem_cons] at hb
        rcases hb with h | h | h
        · exact hoff p hp b (h ▸ .head _)
        · exact hoff p hp b (h ▸ .tail _ (.head _))
        · obtain ⟨q, hq, rfl⟩ := List.mem_map.mp h
          exact q5 q hq p hp
      · intro z h1 _ h3
        simp only [List.contains_cons, List.contains_nil, Bool.or_false, Bool.or_eq_false_iff, beq_eq_false_iff_ne, ne_eq] at h3
        simp [h1, h3.1, h3.2, kstB]
      · dsimp only
        rw [unions_succ hc1, ← p2, q2, e0, List.take_length]
  · rintro ⟨vs, cs1, e, tl⟩ u h2 tk2 ⟨p1, p2, p3, p4⟩ F3 N3
    dsimp only at p1 p2 p3 p4 N3
    clear F2 N2
    k_steps
    unfold Stop
    have tM := p1.are fun p hp => (N3 p (.tail _ (.tail _ hp))).1
    have e0 := tl2.length
    have e1 := tr2.length
    have e2 := p1.length
    rw [e0, List.take_length] at p2
    refine wd_ok B1 F3 X1 T1 rfl ?room ?units C1 (fun p hp => N3 p (.tail _ (by rw [List.mem_singleton.mp hp]; exact .head _))) ⟨_, (N3 _ (.head _)).1, rfl, _, rfl⟩ tM (by omega) ?sz ?_
    case room => show dp + 1 + 2 < recursionLimit; omega
    case units => show un + 3 + 100 < cLine; omega
    case sz =>
      intro c hc
      rw [p2] at hc
      obtain ⟨a, ha, b, hb, rfl⟩ := unions_len hc
      have z := mrg_len a b
      have z1 := l2 a ha
      have z2 := r2 b hb
      omega
    intro hz tz D vs' n zs' ps F4 kp hnew N4 hp hs hv' t4
    k_steps
    have N5 : News g L1 hz ((D, listOf vs'.toArray n) :: (30, tabObj ps) :: tl) := by
      intro p hp
      rcases List.mem_cons.mp hp with rfl | hp
      · exact N4 _ (.head _)
      rcases List.mem_cons.mp hp with rfl | hp
      · exact N4 _ (.tail _ (.head _))
      · have z := N3 p (.tail _ (.tail _ hp))
        exact ⟨kp _ _ (p4 p hp).2 z.1, z.2⟩
    have t5 := t4.inn (fun p hp => (N5 p (.tail _ (.tail _ hp))).1) fun v hv => p1.refs v (hv' v hv)
    have lD : ∀ p ∈ tl, p.1 ≠ D := fun p hp e => by
      have z := (N3 p (.tail _ (.tail _ hp))).1
      dsimp only at hnew
      rw [e, hnew] at z
      cases z
    have l5 : vs'.length ≤ 49 := by
      have z1 := t4.length
      have z2 := keepF_len zs' []
      have z3 := hp.length_eq
      simp only [List.length_nil] at z2
      omega
    refine kmk_slice (lo := none) (hi := some most) F4 N5 ⟨_, (N5 _ (.head _)).1, rfl, _, rfl⟩ .none (.int _ _) ?_ (by with_unfolding_all rfl) (by intro _; with_unfolding_all rfl) (by rw [List.size_toArray, sizeLine_eq]; omega)
    intro D2 h5 F6 N6 l6
    have em : most = (most.toNat : Int) := by omega
    rw [em, slicePick_upto' vs'.toArray most.toNat] at N6
    k_steps
    rename_i h6 D3 h7 F7 N7 l7
    unfold Stop
    have hx : ∀ p ∈ (D, listOf vs'.toArray n) :: (30, tabObj ps) :: tl, p.1 ≠ D2 := fun p hp => Nat.ne_of_lt (l6 p hp)
    refine append_K F7 N7 (Upd.tail (Nat.ne_of_gt l7.1) (Upd.head hx)) ?_ (by rw [List.size_toArray, List.length_take, Array.length_toList, List.size_toArray, sizeLine_eq]; omega)
    intro h8 F8 N8
    k_steps
    have e8 : (List.take most.toNat vs'.toArray.toList).toArray.push (Value.ref D3) = (vs'.take most.toNat ++ [Value.ref D3]).toArray := by simp
    rw [e8] at N8
    refine retQ F8 N8 fun F9 N9 => ?_
    refine ret _ _ D2 _ _ zs' ps F9 (fun b o hb eq => F8.keep _ _ (kG' _ _ hb eq)) (fun p hp => N9 p (by
      rcases List.mem_cons.mp hp with rfl | hp
      · exact .tail _ (.head _)
      · rw [List.mem_singleton.mp hp]
        exact .tail _ (.tail _ (.tail _ (.head _))))) (by rw [← p2]; exact hp) hs ?_
    exact ((t5.take most.toNat).are fun p hp => (N8 p (.tail _ (.tail _ (.tail _ (.tail _ hp))))).1).snoc ⟨_, (N8 _ (.head _)).1, rfl, _, rfl⟩ (.cons _ _ .nil)
end Mine

namespace Mine
open PySem PySem.W PyProof.Rows PySem.Calls PySem.Spec
local macro_rules | `(tactic| walk_at "eval ListComp") => `(tactic| refine Stop.out ?_)
local macro_rules | `(tactic| walk_at "pyIter ref") => `(tactic| refine Stop.out ?_)
local macro_rules | `(tactic| walk_at "call ref") => `(tactic| refine Stop.out ?_)

local macro_rules | `(tactic| walk_at "exec For Name Name cons nil") => `(tactic| (k_here; (rename Fr _ _ _ _ => lF'); (with_unfolding_all refine' For_invVF lF' ?k1 ?k2 ?_; (case k1 => exact rfl); (case k2 => exact rfl); k_whole)))
local macro_rules | `(tactic| walk_at "exec For Name Call cons nil") => `(tactic| (k_here; (rename Fr _ _ _ _ => lF'); (with_unfolding_all refine' For_invVF lF' ?k1 ?k2 ?_; (case k1 => exact rfl); (case k2 => exact rfl); k_whole)))
local macro_rules | `(tactic| walk_at "exec For Name Subscript cons nil") => `(tactic| (k_here; (rename Fr _ _ _ _ => lF'); (with_unfolding_all refine' For_invVF lF' ?k1 ?k2 ?_; (case k1 => exact rfl); (case k2 => exact rfl); k_whole)))

local macro_rules | `(tactic| walk_at "call builtin:list.append") => `(tactic| refine Stop.out ?_)
local macro_rules | `(tactic| walk_at "call builtin:list.reverse") => `(tactic| refine Stop.out ?_)

theorem ints_rev {vs : List Value} {ns : List Int} (h : IntsAre vs ns) : IntsAre vs.reverse ns.reverse := by
  induction h with
  | nil => exact .nil
  | cons n t _ ih => rw [List.reverse_cons, List.reverse_cons]; exact ksk_snoc ih

structure BSt where
  vs : List Value
  ns : List Int
  e : Nat
  r : Int
  tr : Tok

theorem beads_ok {prog : Program} {w : World} {p : Program} {loose : List Str} {mean : ExcName → Option Value} {mg mb : Str → Option Value}
  {dp un : Nat} {gd : Option (List Code)} {cn : Str} {cs : Scope} {a : Addr} {ccd : Value} {cl : List (Str × Addr)} {outer : List Env} {A₀ : Around} {base h₀ : Heap} {L : Addr} {m : Str → Option Value} {s : Shared} {Q E : Value → Shared → Prop}
  {a1 : Addr} {vs1 : List Value} {n1 : List Int}
  (B : Below A₀ base outer h₀) (F : Fr h₀ L s.heap m) (X : (hd.heap_39 w.params).In h₀) (T : Top p loose mean mg mb h₀) (hk : cs.kind = .function)
  (hd : dp + 1 < recursionLimit) (hu : un + 100 < cLine)
  (t1 : s.heap.IsList a1 vs1.toArray) (i1 : IntsAre vs1 n1) (l1 : n1.length ≤ 63)
  (ret : ∀ h' tk D ws zs n, Fr h₀ L h' m → (∀ b o, s.heap.get? b = some o → h'.get? b = some o) → s.heap.get? D = none → News h₀ L h' [(D, listOf (List.toArray ws) n)] → IntsAre ws zs → zs.length ≤ 60 → Q (.ref D) { s with heap := h', toks := tk }) :
  wpAny (model prog w) (ktrTop dp un gd cn cs L a ccd cl outer) (call (.ref 49) [.ref a1]) Q E s := by
  have N : News h₀ L s.heap [] := News.nil
  k_dflt (refine' enterG [(Str.ofString "script", .ref a1)] ?k1 ?k2 ?k3 ?k4 ?k5 ?kA ?kF ?kK ?k6 ?k7 ?k8 ?k9 ?kr ?kB ?c2 ?c3 ?c4 ?c5 ?_; (case kA => exact rfl); (case kF => exact rfl); (case kK => assumption); (case k1 => k_asm); (case k2 => k_asm); (case k3 => k_asm); (case k4 => k_asm); (case k5 => k_asm); (case k6 => k_is); (case k7 => k_is); (case k8 => ktr_room); (case k9 => exact BindsTo.of_eq rfl); (case kr => with_unfolding_all exact rfl); (case c5 => decide); (case kB => exact locs rfl); (case c2 => exact rfl); (case c3 => exact rfl); (case c4 => exact rfl))
  intro g L1 h1 tk FG F1 N1 B1 X1 T1 kG
  have st := stayIn kG
  have t1' : g.IsList a1 vs1.toArray := t1.at fun o e => st a1 o e
  clear t1 kG FG F B X T N
  k_steps
  rename_i M hA lM0 hB S ws hC F2 N2 iS cS lS lMS
  clear lS lM0
  unfold Stop
  have lS : ws.length ≤ 36 := by rw [iS.length, cS]; omega
  refine loopL (σ := BSt) (fun c => [(S, listOf ws.toArray 0), (M, listOf (List.toArray c.vs) c.e)]) (fun _ => []) [Str.ofString "rest", Str.ofString "lap"]
    (fun i c => IntsAre c.vs c.ns ∧ c.ns.length ≤ 10 * i) ⟨[], [], 0, 0, 0⟩ rfl (fun _ => .head _) F2 N2 (fun p hp => hp) (by simp) ⟨.nil, Nat.le_refl _⟩ ?_ ?_
  · rintro i v ⟨vs, ns, e, r0, tr0⟩ u h2 tk2 own hv hoff ⟨p1, p2⟩ F3 N3
    obtain ⟨x, tx, rfl, hx⟩ := ints_at iS hv
    have hlt : i < ws.length := (List.getElem?_eq_some_iff.mp hv).1
    dsimp only at p1 p2 N3 hoff
    clear F2 N2
    k_steps
    · rename IsRange _ _ _ _ _ _ _ _ => hR
      rename Fr _ _ _ _ => F4
      rename News _ _ _ _ => N4
      unfold Stop
      refine loopR (σ := BSt) (n := 10) (fun c => [(S, listOf ws.toArray 0), (M, listOf (List.toArray c.vs) c.e)] ++ own) (fun c => [(Str.ofString "rest", .int c.r c.tr)]) []
        (fun j c => IntsAre c.vs c.ns ∧ c.ns.length ≤ 10 * i + j) ⟨vs, ns, e, ?rrA, ?ttA⟩ rfl hR (by decide) (by decide) F4 N4 ?knA ?k0A ?kpA ?_ ?_
      case knA => exact fun p hp => hp
      case kpA => exact ⟨by assumption, p2⟩
      case k0A =>
        intro p hp
        rw [List.mem_singleton.mp hp]
        exact if_pos rfl
      · rintro j tj ⟨vs3, ns3, e3, r3, tr3⟩ u3 h5 tk5 own2 hj hoff2 ⟨q1, q2⟩ F5 N5
        dsimp only at q1 q2 hoff2
        clear F3 N3 F4 N4
        k_steps
        unfold Stop
        have hM : ∀ p ∈ own ++ own2, p.1 ≠ M := by
          intro p hp
          rcases List.mem_append.mp hp with hp | hp
          · exact hoff p hp M (.tail _ (.head _))
          · exact hoff2 p hp M (.tail _ (.head _))
        have iv := IntsAre.length q1
        refine append_K F5 N5 (Upd.tail (Nat.ne_of_gt lMS) (Upd.head hM)) ?_ (by show (List.toArray vs3).size ≤ _; rw [List.size_toArray, sizeLine_eq]; omega)
        intro h7 F7 N7
        have e1 : Array.push (List.toArray vs3) (Value.int (r3.fmod 199) (tk5 + 1)) = (vs3 ++ [Value.int (r3.fmod 199) (tk5 + 1)]).toArray := by simp
        dsimp only at N7
        rw [e1] at N7
        k_steps
        · rename Fr _ _ _ _ => F8
          rename News _ _ _ _ => N8
          refine js_end ⟨vs3 ++ [Value.int (r3.fmod 199) (tk5 + 1)], ns3 ++ [r3.fmod 199], e3 + 1, 0, 0⟩ F8 N8 ?_ ?_ hoff (by simp) ?_ ⟨ksk_snoc q1, by simp; omega⟩
          · intro p hp
            rcases List.mem_cons.mp hp with rfl | hp
            · exact .head _
            · rw [List.mem_singleton.mp hp]
              exact .tail _ (.head _)
          · intro p hp
            exact .tail _ (.tail _ (List.mem_append_left _ hp))
          · intro z h1 _ h3
            simp only [List.contains_cons, List.contains_nil, Bool.or_false, Bool.or_eq_false_iff, beq_eq_false_iff_ne, ne_eq] at h3
            simp [h1, h3.1, h3.2, kstB]
        · rename Fr _ _ _ _ => F8
          rename News _ _ _ _ => N8
          refine js_end ⟨vs3 ++ [Value.int (r3.fmod 199) (tk5 + 1)], ns3 ++ [r3.fmod 199], e3 + 1, ?r9A, ?t9A⟩ F8 N8 ?_ ?_ hoff2 ?k9A ?_ ⟨ksk_snoc q1, by simp; omega⟩
          case k9A =>
            intro p hp
            rw [List.mem_singleton.mp hp]
            exact if_pos rfl
          · intro p hp
            exact List.mem_append_left own2 hp
          · intro p hp
            exact .tail _ (.tail _ (List.mem_append_right _ hp))
          · intro z h1 h2 _
            have h2' : z ≠ Str.ofString "rest" := h2 _ (.head _)
            simp [h1, h2', kstB]
      · rintro ⟨vs3, ns3, e3, r3, tr3⟩ u3 h5 tk5 ⟨q1, q2⟩ F5 N5
        dsimp only at q1 q2
        clear F3 N3 F4 N4
        k_steps
        refine js_end ⟨vs3, ns3, e3, 0, 0⟩ F5 N5 (fun p hp => List.mem_append_left own hp) (fun p hp => List.mem_append_right _ hp) hoff (by simp) ?_ ⟨q1, by dsimp only; omega⟩
        · intro z h1 _ h3
          simp only [List.contains_cons, List.contains_nil, Bool.or_false, Bool.or_eq_false_iff, beq_eq_false_iff_ne, ne_eq] at h3
          simp [h1, h3.1, h3.2, kstB]
    · rename IsRange _ _ _ _ _ _ _ _ => hR
      rename Fr _ _ _ _ => F4
      rename News _ _ _ _ => N4
      unfold Stop
      refine loopR (σ := BSt) (n := 10) (fun c => [(S, listOf ws.toArray 0), (M, listOf (List.toArray c.vs) c.e)] ++ own) (fun c => [(Str.ofString "rest", .int c.r c.tr)]) []
        (fun j c => IntsAre c.vs c.ns ∧ c.ns.length ≤ 10 * i + j) ⟨vs, ns, e, ?rrB, ?ttB⟩ rfl hR (by decide) (by decide) F4 N4 ?knB ?k0B ?kpB ?_ ?_
      case knB => exact fun p hp => hp
      case kpB => exact ⟨by assumption, p2⟩
      case k0B =>
        intro p hp
        rw [List.mem_singleton.mp hp]
        exact if_pos rfl
      · rintro j tj ⟨vs3, ns3, e3, r3, tr3⟩ u3 h5 tk5 own2 hj hoff2 ⟨q1, q2⟩ F5 N5
        dsimp only at q1 q2 hoff2
        clear F3 N3 F4 N4
        k_steps
        unfold Stop
        have hM : ∀ p ∈ own ++ own2, p.1 ≠ M := by
          intro p hp
          rcases List.mem_append.mp hp with hp | hp
          · exact hoff p hp M (.tail _ (.head _))
          · exact hoff2 p hp M (.tail _ (.head _))
        have iv := IntsAre.length q1
        refine append_K F5 N5 (Upd.tail (Nat.ne_of_gt lMS) (Upd.head hM)) ?_ (by show (List.toArray vs3).size ≤ _; rw [List.size_toArray, sizeLine_eq]; omega)
        intro h7 F7 N7
        have e1 : Array.push (List.toArray vs3) (Value.int (r3.fmod 199) (tk5 + 1)) = (vs3 ++ [Value.int (r3.fmod 199) (tk5 + 1)]).toArray := by simp
        dsimp only at N7
        rw [e1] at N7
        k_steps
        · rename Fr _ _ _ _ => F8
          rename News _ _ _ _ => N8
          refine js_end ⟨vs3 ++ [Value.int (r3.fmod 199) (tk5 + 1)], ns3 ++ [r3.fmod 199], e3 + 1, 0, 0⟩ F8 N8 ?_ ?_ hoff (by simp) ?_ ⟨ksk_snoc q1, by simp; omega⟩
          · intro p hp
            rcases List.mem_cons.mp hp with rfl | hp
            · exact .head _
            · rw [List.mem_singleton.mp hp]
              exact .tail _ (.head _)
          · intro p hp
            exact .tail _ (.tail _ (List.mem_append_left _ hp))
          · intro z h1 _ h3
            simp only [List.contains_cons, List.contains_nil, Bool.or_false, Bool.or_eq_false_iff, beq_eq_false_iff_ne, ne_eq] at h3
            simp [h1, h3.1, h3.2, kstB]
        · rename Fr _ _ _ _ => F8
          rename News _ _ _ _ => N8
          refine js_end ⟨vs3 ++ [Value.int (r3.fmod 199) (tk5 + 1)], ns3 ++ [r3.fmod 199], e3 + 1, ?r9B, ?t9B⟩ F8 N8 ?_ ?_ hoff2 ?k9B ?_ ⟨ksk_snoc q1, by simp; omega⟩
          case k9B =>
            intro p hp
            rw [List.mem_singleton.mp hp]
            exact if_pos rfl
          · intro p hp
            exact List.mem_append_left own2 hp
          · intro p hp
            exact .tail _ (.tail _ (List.mem_append_right _ hp))
          · intro z h1 h2 _
            have h2' : z ≠ Str.ofString "rest" := h2 _ (.head _)
            simp [h1, h2', kstB]
      · rintro ⟨vs3, ns3, e3, r3, tr3⟩ u3 h5 tk5 ⟨q1, q2⟩ F5 N5
        dsimp only at q1 q2
        clear F3 N3 F4 N4
        k_steps
        refine js_end ⟨vs3, ns3, e3, 0, 0⟩ F5 N5 (fun p hp => List.mem_append_left own hp) (fun p hp => List.mem_append_right _ hp) hoff (by simp) ?_ ⟨q1, by dsimp only; omega⟩
        · intro z h1 _ h3
          simp only [List.contains_cons, List.contains_nil, Bool.or_false, Bool.or_eq_false_iff, beq_eq_false_iff_ne, ne_eq] at h3
          simp [h1, h3.1, h3.2, kstB]
  · rintro ⟨vs, ns, e, r0, tr0⟩ u h2 tk2 ⟨p1, p2⟩ F3 N3
    dsimp only at p1 p2 N3
    clear F2 N2
    k_steps
    rename_i D ws5 h4 F4 N4 i5 c5 l5 l6 h5 F5 N5
    unfold Stop
    show wpAny _ _ (call (Value.builtin "list.reverse") [Value.ref D]) _ _ _
    have ie := i5.length
    refine kl_reverse F5 N5 rfl (Upd.head ?_) (by rw [List.toList_toArray, sizeLine_eq]; omega) ?_
    · intro p hp
      rcases List.mem_cons.mp hp with rfl | hp
      · exact Nat.ne_of_lt l6.1
      · rw [List.mem_singleton.mp hp]
        exact Nat.ne_of_lt l6.2
    intro h6 F6 N6
    k_steps
    refine retQ F6 N6 fun F7 N7 => ?_
    refine ret _ _ D ws5.reverse (List.take 60 ns).reverse 0 F7 (fun b o eq => F6.keep _ _ (st _ _ eq)) ?_ (fun p hp => by rw [List.mem_singleton.mp hp]; exact N7 _ (.head _)) ?_ ?_
    · cases q : s.heap.get? D with
      | none => rfl
      | some o =>
        have z : g.get? D = none := (N6 _ (.head _)).2.2
        rw [st _ _ q] at z
        cases z
    · exact ints_rev i5
    · rw [List.length_reverse]; omega
end Mine

namespace Mine
open PySem PySem.W PyProof.Rows PySem.Calls PySem.Spec
local macro_rules | `(tactic| walk_at "eval ListComp") => `(tactic| refine Stop.out ?_)
local macro_rules | `(tactic| walk_at "pyIter ref") => `(tactic| refine Stop.out ?_)
local macro_rules | `(tactic| walk_at "call ref") => `(tactic| refine Stop.out ?_)

local macro_rules | `(tactic| walk_at "exec For Name Name cons nil") => `(tactic| (k_here; (rename Fr _ _ _ _ => lF'); (with_unfolding_all refine' For_invVF lF' ?k1 ?k2 ?_; (case k1 => exact rfl); (case k2 => exact rfl); k_whole)))
local macro_rules | `(tactic| walk_at "exec For Name Call cons nil") => `(tactic| (k_here; (rename Fr _ _ _ _ => lF'); (with_unfolding_all refine' For_invVF lF' ?k1 ?k2 ?_; (case k1 => exact rfl); (case k2 => exact rfl); k_whole)))
local macro_rules | `(tactic| walk_at "exec For Name Subscript cons nil") => `(tactic| (k_here; (rename Fr _ _ _ _ => lF'); (with_unfolding_all refine' For_invVF lF' ?k1 ?k2 ?_; (case k1 => exact rfl); (case k2 => exact rfl); k_whole)))

local macro_rules | `(tactic| walk_at "call builtin:list.append") => `(tactic| refine Stop.out ?_)
local macro_rules | `(tactic| walk_at "call builtin:sorted") => `(tactic| refine Stop.out ?_)
local macro_rules | `(tactic| walk_at "call type:tuple") => `(tactic| refine Stop.out ?_)

theorem News.swap {h₀ h h' : Heap} {L b : Addr} {o o' : Obj} {rest : List (Addr × Obj)} (N : News h₀ L h ((b, o) :: rest)) (N' : News h₀ L h' [(b, o')]) (hk : ∀ a x, a ≠ b → h.get? a = some x → h'.get? a = some x) (hr : ∀ p ∈ rest, p.1 ≠ b) : News h₀ L h' ((b, o') :: rest) := by
  intro p hp
  rcases List.mem_cons.mp hp with rfl | hp
  · exact N' _ (.head _)
  · have z := N p (.tail _ hp)
    exact ⟨hk _ _ (hr p hp) z.1, z.2⟩

theorem News.swap2 {h₀ h h' : Heap} {L b : Addr} {o o' : Obj} {x : Addr × Obj} {rest : List (Addr × Obj)} (N : News h₀ L h (x :: (b, o) :: rest)) (N' : News h₀ L h' [(b, o')]) (hk : ∀ a x, a ≠ b → h.get? a = some x → h'.get? a = some x) (hx : x.1 ≠ b) (hr : ∀ p ∈ rest, p.1 ≠ b) : News h₀ L h' (x :: (b, o') :: rest) := by
  intro p hp
  rcases List.mem_cons.mp hp with rfl | hp
  · have z := N _ (.head _)
    exact ⟨hk _ _ hx z.1, z.2⟩
  · exact News.swap (fun p hp => N p (.tail _ hp)) N' hk hr p hp

theorem size_of {r : Int} (h : Stop (0 ≤ r ∧ r < 4)) : Builtin.Range.small 0 r 1 = true ∧ Builtin.Range.rangeSize 0 r 1 = (r.toNat : Int) := by
  obtain ⟨h0, h1⟩ := h
  have e : r = 0 ∨ r = 1 ∨ r = 2 ∨ r = 3 := by omega
  rcases e with rfl | rfl | rfl | rfl <;> decide

theorem strict_of {zs ys : List Int} (h : zs.Nodup) (hp : ys.Perm zs) (ho : ys.Pairwise (· ≤ ·)) : ys.Pairwise (· < ·) := by
  have hn : ys.Nodup := hp.nodup_iff.mpr h
  exact (ho.and hn).imp fun {a b} h => by have h1 := h.1; have h2 := h.2; omega

structure ISt where
  vs : List Value
  ns : List Int
  n : Nat
  ss : List Value
  zs : List Int
  e : Nat

structure SSt where
  vs : List Value
  ns : List Int
  n : Nat
  ws : List Value
  cs : List (List Int)
  e : Nat
  tl : List (Addr × Obj)

/-- a row as the law draws it -/
def RowOk (c : List Int) : Prop := c.Pairwise (· < ·) ∧ c.length ≤ 3

theorem side_ok {prog : Program} {w : World} {p : Program} {loose : List Str} {mean : ExcName → Option Value} {mg mb : Str → Option Value}
  {dp un : Nat} {gd : Option (List Code)} {cn : Str} {cs : Scope} {a : Addr} {ccd : Value} {cl : List (Str × Addr)} {outer : List Env} {A₀ : Around} {base h₀ : Heap} {L : Addr} {m : Str → Option Value} {s : Shared} {Q E : Value → Shared → Prop}
  {b st : Addr} {vs sv : List Value} {ns : List Int} {n : Nat}
  (B : Below A₀ base outer h₀) (F : Fr h₀ L s.heap m) (X : (hd.heap_39 w.params).In h₀) (T : Top p loose mean mg mb h₀) (hk : cs.kind = .function)
  (hd : dp + 2 < recursionLimit) (hu : un + 200 < cLine)
  (N : News h₀ L s.heap [(b, listOf vs.toArray n)]) (i1 : IntsAre vs ns) (l1 : ns.length ≤ 60)
  (t1 : s.heap.IsList st sv.toArray) (hne : st ≠ b) (l2 : sv.length ≤ 4)
  (ret : ∀ h' tk D vs' ns' n' ws cs e tl, Fr h₀ L h' m → News h₀ L h' ((b, listOf (List.toArray vs') n') :: (D, listOf (List.toArray (sv ++ ws)) e) :: tl) → IntsAre vs' ns' → ns'.length ≤ 60 → TupsIn tl ws cs → (∀ c ∈ cs, RowOk c) → cs.length ≤ 3 →
    (∀ p ∈ (D, listOf (List.toArray (sv ++ ws)) e) :: tl, s.heap.get? p.1 = none) → (∀ p ∈ tl, p.1 ≠ D) → (∀ a o, a ≠ b → s.heap.get? a = some o → h'.get? a = some o) → Q (.ref D) { s with heap := h', toks := tk }) :
  wpAny (model prog w) (ktrTop dp un gd cn cs L a ccd cl outer) (call (.ref 63) [.ref b, .ref st]) Q E s := by
  k_dflt (refine' enterG [(Str.ofString "start", .ref st), (Str.ofString "beads", .ref b)] ?k1 ?k2 ?k3 ?k4 ?k5 ?kA ?kF ?kK ?k6 ?k7 ?k8 ?k9 ?kr ?kB ?c2 ?c3 ?c4 ?c5 ?_; (case kA => exact rfl); (case kF => exact rfl); (case kK => assumption); (case k1 => k_asm); (case k2 => k_asm); (case k3 => k_asm); (case k4 => k_asm); (case k5 => k_asm); (case k6 => k_is); (case k7 => k_is); (case k8 => ktr_room); (case k9 => exact BindsTo.of_eq rfl); (case kr => with_unfolding_all exact rfl); (case c5 => decide); (case kB => exact locs rfl); (case c2 => exact rfl); (case c3 => exact rfl); (case c4 => exact rfl))
  intro g L1 h1 tk FG F1 N1 B1 X1 T1 kG
  have kG' : ∀ a o, a ≠ b → s.heap.get? a = some o → g.get? a = some o := fun a o ha e => kG a o e (by simpa using ha)
  have t2 : g.IsList st sv.toArray := t1.at fun o e => kG' st o hne e
  clear t1 kG FG F B X T
  k_steps
  rename_i C c0 hA lC hB F2 N2
  unfold Stop
  have N2b : News g L1 hB [(b, listOf vs.toArray n)] := fun p hp => N2 p (.tail _ hp)
  refine bead_ok B1 F2 X1 T1 rfl ?room ?units N2b i1 (by omega) (by decide) (by decide) ?_
  case room => show dp + 1 + 1 < recursionLimit; omega
  case units => show un + 3 + 100 < cLine; omega
  intro r tr h3 tk3 vs3 ns3 n3 F3 N3b i3 l3 hr0 hr1 kp3
  have N3 : News g L1 h3 ((b, listOf vs3.toArray n3) :: [(C, listOf sv.toArray c0)]) := News.swap (fun p hp => N2 p (by simp at hp ⊢; rcases hp with h | h; exact .inr h; exact .inl h)) N3b kp3 (fun p hp => by rw [List.mem_singleton.mp hp]; exact Nat.ne_of_gt lC)
  clear F2 N2 N2b N3b kp3
  have hrr : Stop (0 ≤ r ∧ r < 4) := ⟨hr0, hr1⟩
  clear hr0 hr1
  k_steps
  rename IsRange _ _ _ _ _ _ _ _ => hR
  rename Fr _ _ _ _ => F4
  rename News _ _ _ _ => N4
  unfold Stop
  refine loopR (σ := SSt) (n := r.toNat) (fun c => (b, listOf (List.toArray c.vs) c.n) :: (C, listOf (List.toArray (sv ++ c.ws)) c.e) :: c.tl) (fun _ => []) [Str.ofString "spots", Str.ofString "turn_now", Str.ofString "spot"]
    (fun i c => IntsAre c.vs c.ns ∧ c.ns.length ≤ 60 ∧ TupsIn c.tl c.ws c.cs ∧ (∀ z ∈ c.cs, RowOk z) ∧ c.cs.length ≤ i ∧ (∀ p ∈ c.tl, p.1 ≠ C ∧ p.1 ≠ b) ∧ (∀ p ∈ c.tl, s.heap.get? p.1 = none)) ⟨vs3, ns3, n3, [], [], c0, []⟩ rfl hR ?small ?size F4 N4 ?hn (by simp) ⟨by assumption, by dsimp only; omega, .nil, (fun z hz => nomatch hz), Nat.le_refl _, (fun p hp => nomatch hp), (fun p hp => nomatch hp)⟩ ?_ ?_
  case small => exact (size_of hrr).1
  case size => exact (size_of hrr).2
  case hn => intro p hp; simpa using hp
  · rintro i ti ⟨vs5, ns5, n5, ws5, cs5, e5, tl5⟩ u h5 tk5 own hi hoff ⟨p1, p2, p3, p4, p5, p6, p7⟩ F5 N5
    dsimp only at p1 p2 p3 p4 p5 p6 p7 hoff N5
    clear F4 N4
    k_steps
    rename_i S h6 F6 N6 lS h7 F7 N7
    unfold Stop
    have lSb : b < S := lS (b, listOf vs5.toArray n5) (.head _)
    have hb : ∀ p ∈ (C, listOf (sv ++ ws5).toArray e5) :: (tl5 ++ own), p.1 ≠ b := by
      intro p hp
      rcases List.mem_cons.mp hp with rfl | hp
      · exact Nat.ne_of_gt lC
      · rcases List.mem_append.mp hp with hp | hp
        · exact (p6 p hp).2
        · exact hoff p hp b (.head _)
    have hS : ∀ p ∈ (b, listOf vs5.toArray n5) :: (C, listOf (sv ++ ws5).toArray e5) :: (tl5 ++ own), p.1 < S := lS
    refine bead_ok B1 F7 X1 T1 rfl ?room2 ?units2 (n := n5) (vs := vs5) (fun p hp => N7 p (by rw [List.mem_singleton.mp hp]; exact .tail _ (.head _))) p1 (by omega) (by decide) (by decide) ?_
    case room2 => show dp + 1 + 1 < recursionLimit; omega
    case units2 => show un + 3 + 100 < cLine; omega
    intro r2 tr2 h8 tk8 vs8 ns8 n8 F8 N8b i8 l8 hr20 hr21 kp8
    have N8 : News g L1 h8 ((S, listOf #[] 0) :: (b, listOf vs8.toArray n8) :: (C, listOf (sv ++ ws5).toArray e5) :: (tl5 ++ own)) := News.swap2 N7 N8b kp8 (Nat.ne_of_gt lSb) hb
    have hrr2 : Stop (0 ≤ r2 ∧ r2 < 4) := ⟨hr20, hr21⟩
    clear F6 N6 F7 N7 N8b kp8 hr20 hr21 hR
    k_steps
    rename IsRange _ _ _ _ _ _ _ _ => hR
    rename Fr _ _ _ _ => F9
    rename News _ _ _ _ => N9
    unfold Stop
    refine loopR (σ := ISt) (n := r2.toNat) (fun c => (S, listOf (List.toArray c.ss) c.e) :: (b, listOf (List.toArray c.vs) c.n) :: (C, listOf (sv ++ ws5).toArray e5) :: (tl5 ++ own)) (fun _ => []) [Str.ofString "spot"]
      (fun j c => IntsAre c.vs c.ns ∧ c.ns.length ≤ 60 ∧ IntsAre c.ss c.zs ∧ c.zs.Nodup ∧ c.zs.length ≤ j) ⟨vs8, ns8, n8, [], [], 0⟩ rfl hR (size_of hrr2).1 (size_of hrr2).2 F9 N9 ?hn2 (by simp) ⟨by assumption, by dsimp only; omega, .nil, .nil, Nat.le_refl _⟩ ?_ ?_
    case hn2 => exact fun p hp => hp
    · rintro j tj ⟨vs10, ns10, n10, ss10, zs10, e10⟩ u2 h10 tk10 own2 hj hoff2 ⟨q1, q2, q3, q4, q5⟩ F10 N10
      dsimp only at q1 q2 q3 q4 q5 hoff2 N10
      have hoff2' := hoff2
      clear F9 N9
      k_steps
      unfold Stop
      refine bead_ok B1 F10 X1 T1 rfl ?room3 ?units3 (n := n10) (vs := vs10) (fun p hp => N10 p (by rw [List.mem_singleton.mp hp]; exact .tail _ (.head _))) q1 (by omega) (by decide) (by decide) ?_
      case room3 => show dp + 1 + 1 < recursionLimit; omega
      case units3 => show un + 3 + 100 < cLine; omega
      intro r3 tr3 h11 tk11 vs11 ns11 n11 F11 N11b i11 l11 hr30 hr31 kp11
      have hb2 : ∀ p ∈ ((C, listOf (sv ++ ws5).toArray e5) :: (tl5 ++ own)) ++ own2, p.1 ≠ b := by
        intro p hp
        rcases List.mem_append.mp hp with hp | hp
        · exact hb p hp
        · exact hoff2 p hp b (.tail _ (.head _))
      have N11 : News g L1 h11 ((S, listOf ss10.toArray e10) :: (b, listOf vs11.toArray n11) :: (((C, listOf (sv ++ ws5).toArray e5) :: (tl5 ++ own)) ++ own2)) := News.swap2 N10 N11b kp11 (Nat.ne_of_gt lSb) hb2
      clear F10 N10 N11b kp11 q1 hr30 hr31
      k_steps
      · rename Fr _ _ _ _ => F12
        rename News _ _ _ _ => N12
        refine js_end ⟨vs11, ns11, n11, ss10, zs10, e10⟩ F12 N12 ?_ ?_ hoff2' (by simp) ?_ ⟨i11, by dsimp only; omega, q3, q4, by dsimp only; omega⟩
        · intro p hp
          rcases List.mem_cons.mp hp with rfl | hp
          · exact .head _
          rcases List.mem_cons.mp hp with rfl | hp
          · exact .tail _ (.head _)
          · exact .tail _ (.tail _ (List.mem_append_left own2 hp))
        · intro p hp
          exact .tail _ (.tail _ (List.mem_append_right _ hp))
        · intro z h1 _ h3
          simp only [List.contains_cons, List.contains_nil, Bool.or_false, beq_eq_false_iff_ne, ne_eq] at h3
          simp [h1, h3, kstB]
      · rename_i hnin
        rename Fr _ _ _ _ => F12
        rename News _ _ _ _ => N12
        unfold Stop
        have hSr : ∀ p ∈ (b, listOf vs11.toArray n11) :: (((C, listOf (sv ++ ws5).toArray e5) :: (tl5 ++ own)) ++ own2), p.1 ≠ S := by
          intro p hp
          rcases List.mem_cons.mp hp with rfl | hp
          · exact Nat.ne_of_lt lSb
          rcases List.mem_append.mp hp with hp | hp
          · exact Nat.ne_of_lt (hS p (.tail _ hp))
          · exact hoff2 p hp S (.head _)
        have iz := q3.length
        have hr2o := hrr2.out
        refine append_K F12 N12 (Upd.head hSr) ?_ (by rw [List.size_toArray, sizeLine_eq]; omega)
        intro h13 F13 N13
        have ea : ss10.toArray.push (Value.int (1 + r3) tk11) = (ss10 ++ [Value.int (1 + r3) tk11]).toArray := by simp
        rw [ea] at N13
        k_steps
        refine js_end ⟨vs11, ns11, n11, ss10 ++ [Value.int (1 + r3) tk11], zs10 ++ [1 + r3], e10 + 1⟩ F13 N13 ?_ ?_ hoff2' (by simp) ?_ ⟨i11, by dsimp only; omega, ksk_snoc q3, ?_, by simp; omega⟩
        · intro p hp
          rcases List.mem_cons.mp hp with rfl | hp
          · exact .head _
          rcases List.mem_cons.mp hp with rfl | hp
          · exact .tail _ (.head _)
          · exact .tail _ (.tail _ (List.mem_append_left own2 hp))
        · intro p hp
          exact .tail _ (.tail _ (List.mem_append_right _ hp))
        · intro z h1 _ h3
          simp only [List.contains_cons, List.contains_nil, Bool.or_false, beq_eq_false_iff_ne, ne_eq] at h3
          simp [h1, h3, kstB]
        · rw [any_contains] at hnin
          have hni : ¬ (1 + r3) ∈ zs10 := by simpa using hnin
          refine List.nodup_append.mpr ⟨q4, by simp, ?_⟩
          intro x hx y hy
          rw [List.mem_singleton.mp hy]
          rintro rfl
          exact hni hx
    · rintro ⟨vs10, ns10, n10, ss10, zs10, e10⟩ u2 h10 tk10 ⟨q1, q2, q3, q4, q5⟩ F10 N10
      dsimp only at q1 q2 q3 q4 q5 N10
      clear F9 N9
      k_steps
      unfold Stop
      have hz3 : zs10.length ≤ 3 := by
        have := hrr2.out
        omega
      refine kso_sorted F10 N10 ⟨_, (N10 _ (.head _)).1, rfl, _, rfl⟩ q3 (by omega) ?_
      intro D vs12 zs12 c12 h12 F12 N12 lD i12 e12 p12 o12 _
      clear F10 N10
      have hs12 := strict_of q4 p12 o12
      have iv := i12.length
      have iz := q3.length
      have N12' : News g L1 h12 ((D, listOf vs12.toArray c12) :: (b, listOf vs10.toArray n10) :: (C, listOf (sv ++ ws5).toArray e5) :: (tl5 ++ own)) := fun p hp => N12 p (by
        rcases List.mem_cons.mp hp with rfl | hp
        · exact .head _
        · exact .tail _ (.tail _ hp))
      k_steps
      unfold Stop
      show wpAny _ _ (call (.type "tuple") [.ref D]) _ _ _
      refine kde_tupleOf (zs := vs12) F12 N12' ⟨_, (N12' _ (.head _)).1, rfl, _, rfl⟩ (by rw [List.size_toArray]; omega) (by simp) ?_
      intro T h13 F13 N13 lT
      clear F12 N12 N12'
      have lTC : C < T := lT (C, listOf (sv ++ ws5).toArray e5) (.tail _ (.tail _ (.head _)))
      have lTb : b < T := lT (b, listOf vs10.toArray n10) (.tail _ (.head _))
      have N14 : News g L1 h13 ((T, { cls := .type "tuple", data := .seq vs12.toArray }) :: (b, listOf vs10.toArray n10) :: (C, listOf (sv ++ ws5).toArray e5) :: (tl5 ++ own)) := fun p hp => N13 p (by
        rcases List.mem_cons.mp hp with rfl | hp
        · exact .head _
        · exact .tail _ (.tail _ hp))
      have hTr : ∀ p ∈ tl5 ++ own, p.1 < T := fun p hp => lT p (.tail _ (.tail _ (.tail _ hp)))
      clear N13 lT
      k_steps
      unfold Stop
      have hC : ∀ p ∈ tl5 ++ own, p.1 ≠ C := by
        intro p hp
        rcases List.mem_append.mp hp with hp | hp
        · exact (p6 p hp).1
        · exact hoff p hp C (.tail _ (.head _))
      have hw := p3.length
      refine append_K F13 N14 (Upd.tail (Nat.ne_of_gt lTC) (Upd.tail (Nat.ne_of_lt lC) (Upd.head hC))) ?_ (by rw [List.size_toArray, List.length_append, sizeLine_eq]; have := hrr.out; omega)
      intro h15 F15 N15
      have ea : (sv ++ ws5).toArray.push (Value.ref T) = (sv ++ (ws5 ++ [Value.ref T])).toArray := by simp
      rw [ea] at N15
      clear F13 N14
      k_steps
      refine js_end ⟨vs10, ns10, n10, ws5 ++ [.ref T], cs5 ++ [zs12], e5 + 1, (T, { cls := .type "tuple", data := .seq vs12.toArray }) :: tl5⟩ F15 N15 ?_ ?_ ?_ (by simp) ?_
        ⟨q1, q2, (p3.more fun p hp => .tail _ hp).snoc (.head _) rfl rfl i12, ?_, by simp; omega, ?_, ?_⟩
      · intro p hp
        rcases List.mem_cons.mp hp with rfl | hp
        · exact .tail _ (.head _)
        rcases List.mem_cons.mp hp with rfl | hp
        · exact .tail _ (.tail _ (.head _))
        rcases List.mem_cons.mp hp with rfl | hp
        · exact .head _
        · exact .tail _ (.tail _ (.tail _ (List.mem_append_left own hp)))
      · intro p hp
        exact .tail _ (.tail _ (.tail _ (List.mem_append_right tl5 hp)))
      · intro p hp x hx
        simp only [List.map_cons, List.mem_cons] at hx
        rcases hx with rfl | rfl | rfl | hx
        · exact hoff p hp _ (.head _)
        · exact hoff p hp _ (.tail _ (.head _))
        · exact Nat.ne_of_lt (hTr p (List.mem_append_right _ hp))
        · exact hoff p hp x (.tail _ (.tail _ hx))
      · intro z h1 _ h3
        simp only [List.contains_cons, List.contains_nil, Bool.or_false, Bool.or_eq_false_iff, beq_eq_false_iff_ne, ne_eq] at h3
        simp [h1, h3.1, h3.2.1, h3.2.2, kstB]
      · intro z hz
        rcases List.mem_append.mp hz with hz | hz
        · exact p4 z hz
        · rw [List.mem_singleton.mp hz]
          exact ⟨hs12, by omega⟩
      · intro p hp
        rcases List.mem_cons.mp hp with rfl | hp
        · exact ⟨Nat.ne_of_gt lTC, Nat.ne_of_gt lTb⟩
        · exact p6 p hp
      · intro p hp
        rcases List.mem_cons.mp hp with rfl | hp
        · show s.heap.get? T = none
          cases q : s.heap.get? T with
          | none => rfl
          | some o =>
            have z : g.get? T = none := (N15 _ (.head _)).2.2
            rw [kG' _ _ (Nat.ne_of_gt lTb) q] at z
            cases z
        · exact p7 p hp
  · rintro ⟨vs5, ns5, n5, ws5, cs5, e5, tl5⟩ u h5 tk5 ⟨p1, p2, p3, p4, p5, p6, p7⟩ F5 N5
    dsimp only at p1 p2 p3 p4 p5 p6 p7 N5
    clear F4 N4
    k_steps
    have h3 := hrr.out
    show RetQ _ _ _ _ _ (Flow.ret (Value.ref C)) _
    refine retQ F5 N5 fun F6 N6 => ?_
    refine ret _ _ C vs5 ns5 n5 ws5 cs5 e5 tl5 F6 N6 p1 p2 p3 p4 (by omega) ?_ (fun p hp => (p6 p hp).1) (fun x o hx eq => F5.keep _ _ (kG' _ _ hx eq))
    intro p hp
    rcases List.mem_cons.mp hp with rfl | hp
    · show s.heap.get? C = none
      cases q : s.heap.get? C with
      | none => rfl
      | some o =>
        have z : g.get? C = none := (N5 _ (.tail _ (.head _))).2.2
        rw [kG' _ _ (Nat.ne_of_gt lC) q] at z
        cases z
    · exact p7 p hp
end Mine

namespace Mine
open PySem PySem.W PyProof.Rows PySem.Calls PySem.Spec
theorem side_news {h₀ h h' : Heap} {L B : Addr} {ob ob' : Obj} {c1 c2 : Addr × Obj} {R new : List (Addr × Obj)} (N : News h₀ L h ((B, ob) :: c1 :: c2 :: R)) (N' : News h₀ L h' ((B, ob') :: new)) (hk : ∀ a x, a ≠ B → h.get? a = some x → h'.get? a = some x)
    (hb : ∀ p ∈ c1 :: c2 :: R, p.1 ≠ B) (hnew : ∀ p ∈ new, h.get? p.1 = none) : News h₀ L h' ((B, ob') :: c1 :: c2 :: (R ++ new)) ∧ (∀ p ∈ c1 :: c2 :: (R ++ new), p.1 ≠ B) ∧ ∀ p ∈ new, p.1 ≠ c1.1 ∧ p.1 ≠ c2.1 := by
  have hne : ∀ p ∈ new, ∀ q ∈ (B, ob) :: c1 :: c2 :: R, p.1 ≠ q.1 := by
    intro p hp q hq e
    have z := (N q hq).1
    rw [← e, hnew p hp] at z
    cases z
  refine ⟨?_, ?_, fun p hp => ⟨hne p hp _ (.tail _ (.head _)), hne p hp _ (.tail _ (.tail _ (.head _)))⟩⟩
  · intro p hp
    rcases List.mem_cons.mp hp with rfl | hp
    · exact N' _ (.head _)
    rcases List.mem_cons.mp hp with rfl | hp
    · have z := N p (.tail _ (.head _))
      exact ⟨hk _ _ (hb _ (.head _)) z.1, z.2⟩
    rcases List.mem_cons.mp hp with rfl | hp
    · have z := N p (.tail _ (.tail _ (.head _)))
      exact ⟨hk _ _ (hb _ (.tail _ (.head _))) z.1, z.2⟩
    rcases List.mem_append.mp hp with hp | hp
    · have z := N p (.tail _ (.tail _ (.tail _ hp)))
      exact ⟨hk _ _ (hb _ (.tail _ (.tail _ hp))) z.1, z.2⟩
    · exact N' p (.tail _ hp)
  · intro p hp
    rcases List.mem_cons.mp hp with rfl | hp
    · exact hb _ (.head _)
    rcases List.mem_cons.mp hp with rfl | hp
    · exact hb _ (.tail _ (.head _))
    rcases List.mem_append.mp hp with hp | hp
    · exact hb p (.tail _ (.tail _ hp))
    · exact hne p hp _ (.head _)

theorem TupsIn.app {tl : List (Addr × Obj)} {vs : List Value} {cs : List (List Int)} (t : TupsIn tl vs cs) {vs' : List Value} {cs' : List (List Int)} (t' : TupsIn tl vs' cs') : TupsIn tl (vs ++ vs') (cs ++ cs') := by
  induction t with
  | nil => exact t'
  | cons a b c d _ ih => exact .cons a b c d ih

/-- a loop's state between its turns, its variable a cell -/
def JC {σ : Type} (C : Addr) (Ld : σ → List (Addr × Obj)) (ps : σ → List (Str × Value)) (stored : List Str) (m₀ : Str → Option Value) (P : Nat → σ → Prop) (i : Nat) (m : Str → Option Value) (nx : List (Addr × Obj)) : Prop :=
  ∃ (co : Obj) (cv : Option Value) (c : σ), co.data = .cell cv ∧ nx = (C, co) :: Ld c ∧ (∀ p ∈ ps c, m p.1 = some p.2) ∧ (∀ z, (∀ p ∈ ps c, z ≠ p.1) → stored.contains z = false → m z = m₀ z) ∧ P i c

theorem jc_end {σ : Type} {C : Addr} {Ld : σ → List (Addr × Obj)} {ps : σ → List (Str × Value)} {stored : List Str} {m₀ m' : Str → Option Value} {P : Nat → σ → Prop} {i : Nat} {h₀ h' : Heap} {L : Addr} {own news' : List (Addr × Obj)} {s₁ : Shared} {tk : Nat} {co : Obj} {cv : Option Value} (c : σ)
    (F : Fr h₀ L h' m') (N : News h₀ L h' news') (hd : co.data = .cell cv) (hn : ∀ p ∈ (C, co) :: Ld c, p ∈ news') (ho : ∀ p ∈ own, p ∈ news') (ha : OwnOff own (C :: (Ld c).map (·.1)))
    (hk : ∀ p ∈ ps c, m' p.1 = some p.2) (hr : ∀ z, (∀ p ∈ ps c, z ≠ p.1) → stored.contains z = false → m' z = m₀ z) (hp : P i c) :
    InvEndG h₀ L (JC C Ld ps stored m₀ P i) own s₁ { s₁ with heap := h', toks := tk } :=
  InvEndG.intro F N ⟨co, cv, c, hd, rfl, hk, hr, hp⟩ ha hn ho

section
variable {prog : Program} {w : World} {A : Around} {E : Value → Shared → Prop} {s : Shared} {env : Env} {h₀ : Heap} {x : Str} {body : List Stmt} {Q : Flow → Shared → Prop}
theorem fr_map {L : Addr} {h : Heap} {m m' : Str → Option Value} (F : Fr h₀ L h m) (e : ∀ z, m z = m' z) : Fr h₀ L h m' := by
  have : m = m' := funext e
  exact this ▸ F

theorem for_cell {σ : Type} (Ld : σ → List (Addr × Obj)) (ps : σ → List (Str × Value)) (stored : List Str) (P : Nat → σ → Prop) (c₀ : σ) {C l : Addr} {co : Obj} {cv : Option Value} {vs : List Value} {nn : Nat} {m₀ : Str → Option Value} {px pos : Pos} {iter : Expr}
    (hh : A.handled = none) (hkf : env.scope.kind = .function) (hkx : env.kindOf x = some .cell) (hcx : env.cells.lookup x = some C) (hco : co.data = .cell cv)
    (hl : ∀ c, (l, listOf vs.toArray nn) ∈ Ld c) (hCl : ∀ i c, P i c → ∀ p ∈ Ld c, p.1 ≠ C)
    (F : Fr h₀ env.locals s.heap m₀) (N : News h₀ env.locals s.heap ((C, co) :: Ld c₀)) (hk : ∀ p ∈ ps c₀, m₀ p.1 = some p.2) (hp : P 0 c₀)
    (hiter : ∀ Q : Value → Shared → Prop, Q (.ref l) s → wpAny (model prog w) A (eval iter env) Q E s)
    (turn : ∀ i v c (u : Str → Option Value) h tk own co, vs[i]? = some v → OwnOff own (C :: (Ld c).map (·.1)) → P i c → co.data = .cell (some v) → Fr h₀ env.locals h (kstB (fun z => if stored.contains z then u z else m₀ z) (ps c)) → News h₀ env.locals h ((C, co) :: (Ld c ++ own)) →
      wpAny (model prog w) A (execs body env) (InvPostG h₀ env.locals (JC C Ld ps stored m₀ P (i + 1)) own { s with heap := h, toks := tk } Q) E { s with heap := h, toks := tk })
    (done : ∀ c (u : Str → Option Value) h tk co cv, P vs.length c → co.data = .cell cv → Fr h₀ env.locals h (kstB (fun z => if stored.contains z then u z else m₀ z) (ps c)) → News h₀ env.locals h ((C, co) :: Ld c) → Q .next { s with heap := h, toks := tk })
    (hs : ∀ x, foldedSetIterable iter env x = pure x := by intro _; rfl)
    (hE : PassesOwn (model prog w) A env E := by passes_own) :
    wpAny (model prog w) A (exec (.For (.Name x px) iter body [] pos) env) Q E s := by
  have hls : s.heap.IsList l vs.toArray := ⟨_, (N _ (.tail _ (hl c₀))).1, rfl, _, rfl⟩
  obtain ⟨ol, hol, _⟩ := id hls
  have hlt : l < s.heap.objs.size := Heap.lt_size hol
  refine wpAny_For (hiter _ (wpAny_pyIter_list hls ?_)) hs
  have W := Walks.list (prog := prog) (w := w) hh s.heap.objs.size l (Nat.ne_of_lt hlt) vs.toArray
  have hlen : vs.toArray.size = vs.length := by simp
  rw [hlen] at W
  simp only [List.getElem?_toArray] at W
  generalize hI : s.heap.objs.size = I at *
  have hIL : I ≠ env.locals := by rw [← hI]; exact Nat.ne_of_gt F.ns.lt
  have hI0 : h₀.get? I = none := by rw [← hI]; exact next_is_new F
  have hlI : l ≠ I := Nat.ne_of_lt hlt
  have toM : ∀ {m' : Str → Option Value} {c : σ}, (∀ p ∈ ps c, m' p.1 = some p.2) → (∀ z, (∀ p ∈ ps c, z ≠ p.1) → stored.contains z = false → m' z = m₀ z) → ∀ z, m' z = kstB (fun z => if stored.contains z then m' z else m₀ z) (ps c) z := by
    intro m' c h1 h2 z
    have gen : ∀ (l : List (Str × Value)), (∀ p ∈ l, m' p.1 = some p.2) → (∀ p ∈ l, z ≠ p.1) ∨ m' z = kstB (fun z => if stored.contains z then m' z else m₀ z) l z := by
      intro l
      induction l with
      | nil => intro _; exact .inl fun p hp => nomatch hp
      | cons p r ih =>
        intro h
        by_cases e : z = p.1
        · refine .inr ?_
          subst e
          rw [h p (.head _)]
          simp [kstB]
        · rcases ih fun q hq => h q (.tail _ hq) with h3 | h3
          · refine .inl fun q hq => ?_
            rcases List.mem_cons.mp hq with rfl | hq
            · exact e
            · exact h3 q hq
          · refine .inr ?_
            rw [h3]
            simp [kstB, e]
    have base : ∀ (l : List (Str × Value)), (∀ p ∈ l, z ≠ p.1) → kstB (fun z => if stored.contains z then m' z else m₀ z) l z = if stored.contains z then m' z else m₀ z := by
      intro l
      induction l with
      | nil => intro _; rfl
      | cons p r ih =>
        intro h
        have e : ¬ z = p.1 := h p (.head _)
        have := ih fun q hq => h q (.tail _ hq)
        simp only [kstB] at this ⊢
        rw [if_neg e]
        exact this
    rcases gen (ps c) h1 with h3 | h3
    · rw [base _ h3]
      cases e : stored.contains z with
      | true => simp
      | false => simp; exact h2 z h3 e
    · exact h3
  refine codeAny_forLoop
    (fun k s' => ∃ h' tk m' co' cv' c i, s' = { s with heap := h', toks := tk } ∧ h'.IsListIter I l i ∧ Fr h₀ env.locals h' m' ∧ News h₀ env.locals h' ((C, co') :: Ld c) ∧ co'.data = .cell cv' ∧ (∀ p ∈ (C, co') :: Ld c, p.1 ≠ I) ∧
      (∀ p ∈ ps c, m' p.1 = some p.2) ∧ (∀ z, (∀ p ∈ ps c, z ≠ p.1) → stored.contains z = false → m' z = m₀ z) ∧ P i c ∧ i ≤ vs.length ∧ k = vs.length + 1 - i) ?_ (vs.length + 1)
    ⟨_, s.toks, m₀, co, cv, c₀, 0, rfl, ⟨_, by rw [← hI]; exact Heap.get?_push_size _ rfl, rfl, rfl⟩, F.push _, fun p hp => ⟨Heap.get?_push_of_some _ (N p hp).1, (N p hp).2⟩, hco, fun p hp => Nat.ne_of_lt (by rw [← hI]; exact Heap.lt_size (N p hp).1), hk, fun _ _ _ => rfl, hp, Nat.zero_le _, rfl⟩
  rintro k s' ⟨h', tk, m', co', cv', c, i, rfl, hit, F', N', hd', hne, hk', hr', hP, hi, rfl⟩
  have hlist : ∀ {h2 : Heap} {co2 : Obj}, News h₀ env.locals h2 ((C, co2) :: Ld c) → h2.IsList l vs.toArray := fun N2 => ⟨_, (N2 _ (.tail _ (hl c))).1, rfl, _, rfl⟩
  have next : ∀ h₁ : Heap, (∀ b o, b ∉ [I] → h'.get? b = some o → h₁.get? b = some o) → Fr h₀ env.locals h₁ m' ∧ News h₀ env.locals h₁ ((C, co') :: Ld c) := fun h₁ hk₁ =>
    ⟨⟨F'.ns.at' fun o e => hk₁ _ o (by simp; exact Ne.symm hIL) e, fun b o e => hk₁ b o (by simp; rintro rfl; rw [hI0] at e; cases e) (F'.keep b o e), F'.above⟩, fun p hp => ⟨hk₁ _ _ (by simp; exact hne p hp) (N' p hp).1, (N' p hp).2⟩⟩
  by_cases hlt2 : i < vs.length
  · refine W.item i _ _ _ hlt2 ⟨hit, hlist N'⟩ fun v h₁ tk₁ hv hst₁ hk₁ => ?_
    obtain ⟨F₁, N₁⟩ := next h₁ hk₁
    refine wpAny_assign_Name (wpAny_storeName_cell hkf hkx hcx ⟨co', (N₁ _ (.head _)).1, hd'⟩ fun h₂ hv₂ hs₂ => ?_)
    obtain ⟨co2, hco2, hd2⟩ := hv₂
    have hC := (N₁ _ (.head _)).2
    have F₂ : Fr h₀ env.locals h₂ m' := kas_fr F₁ hs₂ hC.1 hC.2
    have hIC : I ≠ C := fun e => hne _ (.head _) e.symm
    obtain ⟨io, hio, hic, hid⟩ := hst₁.1
    have hio2 : h₂.get? I = some io := (hs₂.2 I hIC).trans hio
    have N₂ : News h₀ env.locals h₂ ((C, co2) :: (Ld c ++ [(I, io)])) := by
      intro p hp
      rcases List.mem_cons.mp hp with rfl | hp
      · exact ⟨hco2, hC⟩
      rcases List.mem_append.mp hp with hp | hp
      · have z := N₁ p (.tail _ hp)
        exact ⟨(hs₂.2 p.1 (hCl i c hP p hp)).trans z.1, z.2⟩
      · rw [List.mem_singleton.mp hp]
        exact ⟨hio2, hIL, hI0⟩
    have hoff : OwnOff [(I, io)] (C :: (Ld c).map (·.1)) := by
      intro p hp b hb
      rw [List.mem_singleton.mp hp]
      rcases List.mem_cons.mp hb with rfl | hb
      · exact hIC
      · obtain ⟨q, hq, rfl⟩ := List.mem_map.mp hb
        exact Ne.symm (hne q (.tail _ hq))
    refine wpAny_passesOwn hE (wpAny_mono (turn i v c m' h₂ tk₁ [(I, io)] co2 hv hoff hP hd2 (fr_map F₂ (toM hk' hr')) N₂) (fun f s₃ h₃ => ?_) fun _ _ e => e)
    have fin : InvEndG h₀ env.locals (JC C Ld ps stored m₀ P (i + 1)) [(I, io)] { s with heap := h₂, toks := tk₁ } s₃ → ∃ m, m < vs.length + 1 - i ∧ ∃ h' tk m' co' cv' c i, s₃ = { s with heap := h', toks := tk } ∧ h'.IsListIter I l i ∧ Fr h₀ env.locals h' m' ∧ News h₀ env.locals h' ((C, co') :: Ld c) ∧ co'.data = .cell cv' ∧ (∀ p ∈ (C, co') :: Ld c, p.1 ≠ I) ∧
      (∀ p ∈ ps c, m' p.1 = some p.2) ∧ (∀ z, (∀ p ∈ ps c, z ≠ p.1) → stored.contains z = false → m' z = m₀ z) ∧ P i c ∧ i ≤ vs.length ∧ m = vs.length + 1 - i := by
      rintro ⟨h3, tk3, m3, news3, nx, e3, F3, N3, hn3, ho3, ha3, co3, cv3, c3, hd3, rfl, hk3, hr3, hP3⟩
      refine ⟨vs.length + 1 - (i + 1), by omega, h3, tk3, m3, co3, cv3, c3, i + 1, e3, ⟨io, (N3 _ (ho3 _ (.head _))).1, hic, hid⟩, F3, fun p hp => N3 p (hn3 p hp), hd3, fun p hp e => ?_, hk3, hr3, hP3, hlt2, rfl⟩
      exact ha3 (I, io) (.head _) p.1 (List.mem_map_of_mem hp) e.symm
    cases f with
    | ret v => exact h₃
    | brk => exact h₃
    | next => exact fin h₃
    | cont => exact fin h₃
  · have hin : i = vs.length := by omega
    subst hin
    refine W.done _ _ _ ⟨hit, hlist N'⟩ fun h₁ tk₁ hk₁ => wpAny_execs_nil ?_
    obtain ⟨F₁, N₁⟩ := next h₁ hk₁
    exact done c m' h₁ tk₁ co' cv' hP hd' (fr_map F₁ (toM hk' hr')) N₁
end

/-- lists of ints that stand in the ledger -/
inductive ListsIn (tl : List (Addr × Obj)) : List Value → List (List Int) → Prop
  | nil : ListsIn tl [] []
  | cons {a : Addr} {n : Nat} {ws : List Value} {c : List Int} {vs : List Value} {cs : List (List Int)} : (a, listOf ws.toArray n) ∈ tl → IntsAre ws c → ListsIn tl vs cs → ListsIn tl (.ref a :: vs) (c :: cs)
theorem ListsIn.more {tl tl' : List (Addr × Obj)} (hs : ∀ p ∈ tl, p ∈ tl') {vs : List Value} {cs : List (List Int)} (t : ListsIn tl vs cs) : ListsIn tl' vs cs := by
  induction t with
  | nil => exact .nil
  | cons a b _ ih => exact .cons (hs _ a) b ih
theorem ListsIn.snoc {tl : List (Addr × Obj)} {a : Addr} {n : Nat} {ws : List Value} {c : List Int} {vs : List Value} {cs : List (List Int)} (t : ListsIn tl vs cs) (h1 : (a, listOf ws.toArray n) ∈ tl) (h4 : IntsAre ws c) : ListsIn tl (vs ++ [.ref a]) (cs ++ [c]) := by
  induction t with
  | nil => exact .cons h1 h4 .nil
  | cons a b _ ih => exact .cons a b ih
theorem ListsIn.length {tl : List (Addr × Obj)} {vs : List Value} {cs : List (List Int)} (t : ListsIn tl vs cs) : vs.length = cs.length := by
  induction t with
  | nil => rfl
  | cons _ _ _ ih => rw [List.length_cons, List.length_cons, ih]
theorem ListsIn.at {tl : List (Addr × Obj)} {vs : List Value} {cs : List (List Int)} (t : ListsIn tl vs cs) : ∀ {i : Nat} {v : Value}, vs[i]? = some v → ∃ a n ws c, v = .ref a ∧ (a, listOf (List.toArray ws) n) ∈ tl ∧ IntsAre ws c ∧ cs[i]? = some c := by
  induction t with
  | nil => intro i v hv; simp at hv
  | cons a b _ ih =>
    intro i v hv
    cases i with
    | zero => simp at hv; exact ⟨_, _, _, _, hv.symm, a, b, rfl⟩
    | succ i => simp at hv; obtain ⟨a', n, ws, c, e1, e2, e3, e4⟩ := ih hv; exact ⟨a', n, ws, c, e1, e2, e3, by simpa using e4⟩
theorem TupsIn.at {tl : List (Addr × Obj)} {vs : List Value} {cs : List (List Int)} (t : TupsIn tl vs cs) : ∀ {i : Nat} {v : Value}, vs[i]? = some v → ∃ a o n ws c, v = .ref a ∧ (a, o) ∈ tl ∧ Obj.cls o = .type "tuple" ∧ o.data = .seq (List.toArray ws) n ∧ IntsAre ws c ∧ cs[i]? = some c := by
  induction t with
  | nil => intro i v hv; simp at hv
  | cons a b c d _ ih =>
    intro i v hv
    cases i with
    | zero => simp at hv; exact ⟨_, _, _, _, _, hv.symm, a, b, c, d, rfl⟩
    | succ i => simp at hv; obtain ⟨a', o, n, ws, c, e1, e2, e3, e4, e5, e6⟩ := ih hv; exact ⟨a', o, n, ws, c, e1, e2, e3, e4, e5, by simpa using e6⟩

def addU (k : Int) (acc : List (List Int)) (x : List Int) : List (List Int) := if (x.length : Int) ≤ k ∧ x ∉ acc then acc ++ [x] else acc
def uniRow (k : Int) (acc : List (List Int)) (a : List Int) (rc : List (List Int)) : List (List Int) := rc.foldl (fun acc b => addU k acc (mrg a b)) acc
def uniAll (k : Int) (lc rc : List (List Int)) : List (List Int) := lc.foldl (fun acc a => uniRow k acc a rc) []

structure USt where
  vs : List Value
  cs : List (List Int)
  e : Nat
  tl : List (Addr × Obj)
theorem allLt_mem {d : Nat} {l : List (Addr × Obj)} (h : AllLt d l) : ∀ p ∈ l, @LT.lt Nat _ p.1 d := by
  induction l with
  | nil => intro p hp; cases hp
  | cons q r ih =>
    intro p hp
    cases hp with
    | head => exact h.1
    | tail _ hp => exact ih h.2 p hp
end Mine

namespace Mine
open PySem PySem.W PyProof.Rows PySem.Calls PySem.Spec
def dL (c : List Int) : PyData := .list (c.map PyData.int)
def dT (c : List Int) : PyData := .tuple (c.map PyData.int)
theorem eqv_ints : ∀ a b : List Int, PyData.eqvAll (a.map PyData.int) (b.map PyData.int) = decide (a = b)
  | [], [] => by simp [PyData.eqvAll]
  | [], _ :: _ => by simp [PyData.eqvAll]
  | _ :: _, [] => by simp [PyData.eqvAll]
  | x :: a, y :: b => by
    rw [List.map_cons, List.map_cons, PyData.eqvAll, eqv_ints a b, PyData.eqv]
    by_cases e : x = y <;> simp [e]
theorem eqv_dL (a b : List Int) : PyData.eqv (dL a) (dL b) = decide (a = b) := by
  unfold dL
  rw [PyData.eqv]
  exact eqv_ints a b
theorem eqv_dT (a b : List Int) : PyData.eqv (dT a) (dT b) = decide (a = b) := by
  unfold dT
  rw [PyData.eqv]
  exact eqv_ints a b
theorem eqvAll_dT : ∀ a b : List (List Int), PyData.eqvAll (a.map dT) (b.map dT) = decide (a = b)
  | [], [] => by simp [PyData.eqvAll]
  | [], _ :: _ => by simp [PyData.eqvAll]
  | _ :: _, [] => by simp [PyData.eqvAll]
  | x :: a, y :: b => by
    rw [List.map_cons, List.map_cons, PyData.eqvAll, eqvAll_dT a b, eqv_dT]
    by_cases e : x = y <;> simp [e]
theorem any_dL (x : List Int) : ∀ cs : List (List Int), ((cs.map dL).any fun y => PyData.eqv y (dL x)) = decide (x ∈ cs)
  | [] => rfl
  | c :: cs => by
    rw [List.map_cons, List.any_cons, any_dL x cs, eqv_dL]
    by_cases e : c = x
    · subst e; simp
    · have e2 : ¬ x = c := fun q => e q.symm
      simp [e, e2]
theorem lay_ints : ∀ a : List Int, PyData.canLayAll0 (a.map PyData.int) = true
  | [] => rfl
  | x :: a => by simp [PyData.canLayAll0, PyData.canLay0, lay_ints a]
theorem lay_dL : ∀ cs : List (List Int), PyData.canLayAll0 (cs.map dL) = true
  | [] => rfl
  | x :: a => by simp [PyData.canLayAll0, dL, PyData.canLay0, lay_ints x, lay_dL a]
theorem lay_dT : ∀ cs : List (List Int), PyData.canLayAll0 (cs.map dT) = true
  | [] => rfl
  | x :: a => by simp [PyData.canLayAll0, dT, PyData.canLay0, lay_ints x, lay_dT a]
theorem depth_ints : ∀ a : List Int, PyData.depthAll (a.map PyData.int) = 0
  | [] => rfl
  | x :: a => by rw [List.map_cons, PyData.depthAll, depth_ints a, PyData.depth]; rfl
theorem depth_dL (a : List Int) : (dL a).depth = 1 := by unfold dL; rw [PyData.depth, depth_ints]
theorem depth_dT (a : List Int) : (dT a).depth = 1 := by unfold dT; rw [PyData.depth, depth_ints]
theorem depthAll_dT : ∀ cs : List (List Int), PyData.depthAll (cs.map dT) ≤ 1
  | [] => Nat.zero_le _
  | x :: a => by
    have := depthAll_dT a
    rw [List.map_cons, PyData.depthAll, depth_dT]
    omega

theorem reads_dL {h : Heap} {a : Addr} {ws : List Value} {c : List Int} {n : Nat} (ho : h.get? a = some (listOf ws.toArray n)) (hi : IntsAre ws c) : Reads h (.ref a) (dL c) [a] := by
  have := hi.reads h
  exact reads_list_at ho rfl rfl (by simpa using this)
theorem ListsIn.reads {tl : List (Addr × Obj)} {vs : List Value} {cs : List (List Int)} (t : ListsIn tl vs cs) {h : Heap} (N : ∀ p ∈ tl, h.get? p.1 = some p.2) : ∃ as, ReadsAll h vs (cs.map dL) as := by
  induction t with
  | nil => exact ⟨_, .nil⟩
  | cons a b _ ih =>
    obtain ⟨as, r⟩ := ih
    exact ⟨_, .cons (reads_dL (N _ a) b) r⟩
theorem TupsAre.reads {h : Heap} {vs : List Value} {cs : List (List Int)} (t : TupsAre h vs cs) : ∃ as, ReadsAll h vs (cs.map dT) as := by
  induction t with
  | nil => exact ⟨_, .nil⟩
  | cons a b _ ih =>
    obtain ⟨as, r⟩ := ih
    obtain ⟨o, h1, h2, n, h3⟩ := a
    have := b.reads h
    exact ⟨_, .cons (reads_tuple_at h1 h2 h3 (by simpa using this)) r⟩

/-- two rising rows: their union is the row, sorted -/
theorem mrg_mem : ∀ (a b : List Int) (x : Int), x ∈ mrg a b ↔ x ∈ a ∨ x ∈ b
  | [], b, x => by rw [mrg_nil']; simp
  | y :: a, [], x => by rw [mrg_nil]; simp
  | y :: a, z :: b, x => by
    rw [mrg]
    split
    · rw [List.mem_cons, mrg_mem a (z :: b) x, List.mem_cons (a := x) (b := y)]
      simp [or_assoc]
    · split
      · rw [List.mem_cons, mrg_mem (y :: a) b x, List.mem_cons (a := x) (b := z) (l := b)]
        constructor
        · rintro (h | h | h)
          · exact .inr (.inl h)
          · exact .inl h
          · exact .inr (.inr h)
        · rintro (h | h | h)
          · exact .inr (.inl h)
          · exact .inl h
          · exact .inr (.inr h)
      · have e : y = z := by omega
        subst e
        rw [List.mem_cons, mrg_mem a b x, List.mem_cons, List.mem_cons]
        constructor
        · rintro (h | h | h)
          · exact .inl (.inl h)
          · exact .inl (.inr h)
          · exact .inr (.inr h)
        · rintro ((h | h) | (h | h))
          · exact .inl h
          · exact .inr (.inl h)
          · exact .inl h
          · exact .inr (.inr h)
termination_by a b => a.length + b.length
theorem mrg_asc : ∀ (a b : List Int), a.Pairwise (· < ·) → b.Pairwise (· < ·) → (mrg a b).Pairwise (· < ·)
  | [], b, _, hb => by rw [mrg_nil']; exact hb
  | y :: a, [], ha, _ => by rw [mrg_nil]; exact ha
  | y :: a, z :: b, ha, hb => by
    have ha' := List.pairwise_cons.mp ha
    have hb' := List.pairwise_cons.mp hb
    rw [mrg]
    split
    · rename_i h
      refine List.pairwise_cons.mpr ⟨fun x hx => ?_, mrg_asc a (z :: b) ha'.2 hb⟩
      rcases (mrg_mem a (z :: b) x).mp hx with h1 | h1
      · exact ha'.1 x h1
      · rcases List.mem_cons.mp h1 with rfl | h1
        · exact h
        · have := hb'.1 x h1; omega
    · split
      · rename_i h
        refine List.pairwise_cons.mpr ⟨fun x hx => ?_, mrg_asc (y :: a) b ha hb'.2⟩
        rcases (mrg_mem (y :: a) b x).mp hx with h1 | h1
        · rcases List.mem_cons.mp h1 with rfl | h1
          · exact h
          · have := ha'.1 x h1; omega
        · exact hb'.1 x h1
      · refine List.pairwise_cons.mpr ⟨fun x hx => ?_, mrg_asc a b ha'.2 hb'.2⟩
        rcases (mrg_mem a b x).mp hx with h1 | h1
        · exact ha'.1 x h1
        · have := hb'.1 x h1; omega
termination_by a b => a.length + b.length

theorem asc_ext : ∀ {a b : List Int}, a.Pairwise (· < ·) → b.Pairwise (· < ·) → (∀ x, x ∈ a ↔ x ∈ b) → a = b
  | [], [], _, _, _ => rfl
  | [], y :: b, _, _, h => by have := (h y).mpr (.head _); simp at this
  | x :: a, [], _, _, h => by have := (h x).mp (.head _); simp at this
  | x :: a, y :: b, ha, hb, h => by
    have ha' := List.pairwise_cons.mp ha
    have hb' := List.pairwise_cons.mp hb
    have e : x = y := by
      rcases List.mem_cons.mp ((h x).mp (.head _)) with e | h1
      · exact e
      · rcases List.mem_cons.mp ((h y).mpr (.head _)) with e | h2
        · exact e.symm
        · have q1 := hb'.1 x h1
          have q2 := ha'.1 y h2
          omega
    subst e
    rw [asc_ext ha'.2 hb'.2 fun z => ?_]
    constructor
    · intro hz
      rcases List.mem_cons.mp ((h z).mp (.tail _ hz)) with e | h1
      · have := ha'.1 z hz; omega
      · exact h1
    · intro hz
      rcases List.mem_cons.mp ((h z).mpr (.tail _ hz)) with e | h1
      · have := hb'.1 z hz; omega
      · exact h1
theorem asc_nodup {a : List Int} (h : a.Pairwise (· < ·)) : a.Nodup := h.imp fun {x y} q => by omega

theorem joined_eq {a b zs : List Int} (ha : a.Pairwise (· < ·)) (hb : b.Pairwise (· < ·)) (hp : zs.Perm (a ++ b.filter fun x => !(a.contains x))) (ho : zs.Pairwise (· ≤ ·)) : zs = mrg a b := by
  have hn : (a ++ b.filter fun x => !(a.contains x)).Nodup := by
    refine List.nodup_append.mpr ⟨asc_nodup ha, (asc_nodup hb).sublist List.filter_sublist, ?_⟩
    intro x hx y hy e
    subst e
    have := (List.mem_filter.mp hy).2
    simp at this
    exact this hx
  refine asc_ext (strict_of hn hp ho) (mrg_asc a b ha hb) fun x => ?_
  rw [hp.mem_iff, mrg_mem, List.mem_append, List.mem_filter]
  by_cases h : x ∈ a
  · simp [h]
  · simp [h]

theorem filt_ints {c1 : List Int} {p : Value → Bool} (hp : ∀ x t, p (.int x t) = !(c1.contains x)) : ∀ {vs : List Value} {ns : List Int} (_ : IntsAre vs ns) {ys : List Value}, Paired (fun v y => y = v) (vs.filter p) ys → IntsAre ys (ns.filter fun x => !(c1.contains x))
  | _, _, .nil, ys, h => by
    rw [List.filter_nil] at h
    cases h
    exact .nil
  | _, _, .cons n t r, ys, h => by
    by_cases e : c1.contains n = true
    · have e1 : p (.int n t) = false := by rw [hp, e]; rfl
      rw [List.filter_cons_of_neg (by rw [e1]; simp)] at h
      rw [List.filter_cons_of_neg (by rw [e]; simp)]
      exact filt_ints hp r h
    · have e2 : c1.contains n = false := by simpa using e
      have e1 : p (.int n t) = true := by rw [hp, e2]; rfl
      rw [List.filter_cons_of_pos e1] at h
      rw [List.filter_cons_of_pos (by rw [e2]; rfl)]
      cases h with
      | cons hab hr =>
        subst hab
        exact .cons n t (filt_ints hp r hr)

theorem lay_dL1 (c : List Int) : PyData.canLay0 (dL c) = true := by unfold dL; simp [PyData.canLay0, lay_ints]
/-- pairs of a size and a tuple that stand in the ledger -/
inductive KeysIn (tl : List (Addr × Obj)) : List Value → List (List Int) → Prop
  | nil : KeysIn tl [] []
  | cons {k a : Addr} {o o2 : Obj} {n n2 : Nat} {t : Tok} {ws : List Value} {c : List Int} {ks : List Value} {cs : List (List Int)} : (k, o) ∈ tl → o.cls = .type "tuple" → o.data = .seq #[.int (c.length : Int) t, .ref a] n → (a, o2) ∈ tl → o2.cls = .type "tuple" → o2.data = .seq ws.toArray n2 → IntsAre ws c → KeysIn tl ks cs → KeysIn tl (.ref k :: ks) (c :: cs)
theorem KeysIn.are {tl : List (Addr × Obj)} {vs : List Value} {cs : List (List Int)} (t : KeysIn tl vs cs) {h : Heap} (N : ∀ p ∈ tl, h.get? p.1 = some p.2) : KeysAre h vs cs := by
  induction t with
  | nil => exact .nil
  | cons a b c d e f g _ ih => exact .cons (N _ a) b c ⟨_, N _ d, e, _, f⟩ g ih
theorem KeysIn.more {tl tl' : List (Addr × Obj)} (hs : ∀ p ∈ tl, p ∈ tl') {vs : List Value} {cs : List (List Int)} (t : KeysIn tl vs cs) : KeysIn tl' vs cs := by
  induction t with
  | nil => exact .nil
  | cons a b c d e f g _ ih => exact .cons (hs _ a) b c (hs _ d) e f g ih
theorem KeysIn.app {tl : List (Addr × Obj)} {vs : List Value} {cs : List (List Int)} (t : KeysIn tl vs cs) {vs' : List Value} {cs' : List (List Int)} (t' : KeysIn tl vs' cs') : KeysIn tl (vs ++ vs') (cs ++ cs') := by
  induction t with
  | nil => exact t'
  | cons a b c d e f g _ ih => exact .cons a b c d e f g ih
theorem KeysIn.length {tl : List (Addr × Obj)} {vs : List Value} {cs : List (List Int)} (t : KeysIn tl vs cs) : vs.length = cs.length := by
  induction t with
  | nil => rfl
  | cons _ _ _ _ _ _ _ _ ih => rw [List.length_cons, List.length_cons, ih]

def domB (one two : List Int) : Bool := decide (two ≠ one) && two.all fun x => one.contains x
def leastP (all : List (List Int)) (one : List Int) : Bool := !(all.any fun two => domB one two)

theorem ints_uniq : ∀ {vs : List Value} {a b : List Int}, IntsAre vs a → IntsAre vs b → a = b
  | _, _, _, .nil, .nil => rfl
  | _, _, _, .cons n t r, .cons _ _ r' => by rw [ints_uniq r r']
theorem paired_lists {tl : List (Addr × Obj)} {f : List Int → Value} {vs : List Value} {cs : List (List Int)} (t : ListsIn tl vs cs) : ∀ {ys : List Value}, Paired (fun v y => ∀ a n ws c, v = Value.ref a → (a, listOf (List.toArray ws) n) ∈ tl → IntsAre ws c → y = f c) vs ys → ys = cs.map f := by
  induction t with
  | nil => intro ys h; cases h; rfl
  | cons a b _ ih =>
    intro ys h
    cases h with
    | cons hab hr =>
      rw [List.map_cons, ← ih hr, hab _ _ _ _ rfl a b]

theorem uni_len {k : Int} {lc rc : List (List Int)} : ∀ x ∈ uniAll k lc rc, (x.length : Int) ≤ k := by
  have step : ∀ (rc : List (List Int)) (a : List Int) (acc : List (List Int)), (∀ x ∈ acc, (x.length : Int) ≤ k) → ∀ x ∈ uniRow k acc a rc, (x.length : Int) ≤ k := by
    intro rc a
    induction rc with
    | nil => intro acc h; exact h
    | cons b rc ih =>
      intro acc h
      refine ih (addU k acc (mrg a b)) fun x hx => ?_
      unfold addU at hx
      split at hx
      · rename_i hc
        rcases List.mem_append.mp hx with hx | hx
        · exact h x hx
        · rw [List.mem_singleton.mp hx]; exact hc.1
      · exact h x hx
  have all : ∀ (lc : List (List Int)) (acc : List (List Int)), (∀ x ∈ acc, (x.length : Int) ≤ k) → ∀ x ∈ lc.foldl (fun acc a => uniRow k acc a rc) acc, (x.length : Int) ≤ k := by
    intro lc
    induction lc with
    | nil => intro acc h; exact h
    | cons a lc ih => intro acc h; exact ih _ (step rc a acc h)
  exact all lc [] fun x hx => nomatch hx
theorem reads_bools {α : Type} (h : Heap) (f : α → Bool) : ∀ l : List α, ReadsAll h (l.map fun x => Value.bool (f x)) (l.map fun x => PyData.bool (f x)) []
  | [] => .nil
  | x :: l => .cons (as := []) (Reads.bool _) (reads_bools h f l)
end Mine

namespace Mine
open PySem PySem.W PyProof.Rows PySem.Calls PySem.Spec
theorem KeysIn.at {tl : List (Addr × Obj)} {vs : List Value} {cs : List (List Int)} (t : KeysIn tl vs cs) : ∀ {i : Nat} {v : Value}, vs[i]? = some v → ∃ k a o o2 n n2 u ws c, v = .ref k ∧ (k, o) ∈ tl ∧ Obj.cls o = .type "tuple" ∧ o.data = .seq #[.int ((List.length c : Nat) : Int) u, .ref a] n ∧ (a, o2) ∈ tl ∧ Obj.cls o2 = .type "tuple" ∧ o2.data = .seq (List.toArray ws) n2 ∧ IntsAre ws c ∧ cs[i]? = some c := by
  induction t with
  | nil => intro i v hv; simp at hv
  | cons a b c d e f g _ ih =>
    intro i v hv
    cases i with
    | zero => simp at hv; exact ⟨_, _, _, _, _, _, _, _, _, hv.symm, a, b, c, d, e, f, g, rfl⟩
    | succ i => simp at hv; obtain ⟨k, a', o, o2, n, n2, u, ws, c', e1, e2, e3, e4, e5, e6, e7, e8, e9⟩ := ih hv; exact ⟨k, a', o, o2, n, n2, u, ws, c', e1, e2, e3, e4, e5, e6, e7, e8, by simpa using e9⟩
theorem KeysIn.map {tl : List (Addr × Obj)} {vs : List Value} {cs : List (List Int)} (t : KeysIn tl vs cs) : ∀ p : List Nat, (∀ i ∈ p, i < vs.length) → KeysIn tl (p.map fun i => vs.getD i Value.none) (p.map fun i => cs.getD i [])
  | [], _ => .nil
  | i :: p, hp => by
    have hi := hp i (.head _)
    obtain ⟨k, a, o, o2, n, n2, u, ws, c, e1, e2, e3, e4, e5, e6, e7, e8, e9⟩ := t.at (List.getElem?_eq_getElem hi)
    have x1 : vs.getD i Value.none = .ref k := by rw [List.getD_eq_getElem?_getD, List.getElem?_eq_getElem hi, e1]; rfl
    have x2 : cs.getD i [] = c := by rw [List.getD_eq_getElem?_getD, e9]; rfl
    rw [List.map_cons, List.map_cons, x1, x2]
    exact .cons e2 e3 e4 e5 e6 e7 e8 (KeysIn.map t p fun j hj => hp j (.tail _ hj))
theorem KeysIn.inner {tl : List (Addr × Obj)} {ks : List Value} {cs : List (List Int)} (t : KeysIn tl ks cs) : ∃ ts : List Value, TupsIn tl ts cs ∧ ts.length = ks.length ∧ ∀ (i : Nat) (v : Value), ks[i]? = some v → ∃ (k : Addr) (o : Obj) (n : Nat) (u t' : Value), v = Value.ref k ∧ (k, o) ∈ tl ∧ Obj.cls o = .type "tuple" ∧ o.data = .seq #[u, t'] n ∧ ts[i]? = some t' := by
  induction t with
  | nil => exact ⟨[], .nil, rfl, fun i v hv => by simp at hv⟩
  | cons a b c d e f g _ ih =>
    obtain ⟨ts, h1, h2, h3⟩ := ih
    refine ⟨_ :: ts, .cons d e f g h1, by rw [List.length_cons, List.length_cons, h2], fun i v hv => ?_⟩
    cases i with
    | zero => simp at hv; exact ⟨_, _, _, _, _, hv.symm, a, b, c, rfl⟩
    | succ i => simp at hv; obtain ⟨k, o, n, u, t', e1, e2, e3, e4, e5⟩ := h3 i v hv; exact ⟨k, o, n, u, t', e1, e2, e3, e4, by simpa using e5⟩

section
variable {prog : Program} {w : World} {A : Around} {s : Shared} {h₀ : Heap} {L : Addr} {m : Str → Option Value} {env : Env}
theorem comp_rest {x x₂ : Str} {pos : Pos} {scope : Scope} {cl : List (Str × Addr)} {S : List (Addr × Obj) → Prop} {Fin : List Value → List (Addr × Obj) → Prop} {ks ts : List Value} {news : List (Addr × Obj)}
    (hS : S news) (hts : ts.length = ks.length) (hr : ∀ (i : Nat) (v : Value), ks[i]? = some v → ∃ (k : Addr) (o : Obj) (n : Nat) (u t' : Value), v = Value.ref k ∧ (k, o) ∈ news ∧ Obj.cls o = .type "tuple" ∧ o.data = .seq #[u, t'] n ∧ ts[i]? = some t')
    (hk : ∀ C, (compEnvC scope cl C env).scope.kind = .function) (hx : ∀ C, (compEnvC scope cl C env).kindOf x₂ = some .local) (hb : (x₂ == ("__debug__" : Str)) = false)
    (fin : Fin ts news) : ∀ k i : Nat, i + k = ks.length → LCp.CompRestP prog w A h₀ L m env (.Name x₂ pos) x x₂ scope cl s S (fun i v => ks.toArray[i]? = some v) Fin k i (ts.take i) news
  | 0, i, h => by
    refine LCp.CompRestP.zero ?_
    rw [show i = ts.length from by omega, List.take_length]
    exact fin
  | k + 1, i, h => by
    refine LCp.CompRestP.succ fun v hv => ?_
    have hv' : ks[i]? = some v := by simpa using hv
    obtain ⟨kk, o, n, u, t', rfl, m1, m2, m3, m4⟩ := hr i v hv'
    refine ⟨kk, o, u, t', n, rfl, m1, m2, m3, ?_⟩
    intro I oI C oC D m₂ h2 tk E' hC hx1 hx2 F N off ne
    refine wpAny_Name (wpAny_loadName_local (hk C) (hx C) (hC.ns (N (C, oC) (.tail _ (.head _))).1) hx2 ?_) hb
    have e : ts.take i ++ [t'] = ts.take (i + 1) := by rw [List.take_add_one, m4]; rfl
    refine LCg.CompEnd.intro F N news (fun p hp => hp) off hS ?_
    rw [e]
    exact comp_rest hS hts hr hk hx hb fin k (i + 1) (by omega)

theorem comp_pairs {x x₂ : Str} {pos : Pos} {scope : Scope} {cl : List (Str × Addr)} {Fin : Shared → List Value → List (Addr × Obj) → Prop} {ks : List Value} {cs : List (List Int)} {ax : Addr} {nn : Nat} {news : List (Addr × Obj)}
    (hh : A.handled = none) (F : Fr h₀ L s.heap m) (N : News h₀ L s.heap news) (hm : (ax, listOf ks.toArray nn) ∈ news) (hK : KeysIn news ks cs) (hsz : ks.length ≤ sizeLine)
    (hk : ∀ C, (compEnvC scope cl C env).scope.kind = .function) (hx : ∀ C, (compEnvC scope cl C env).kindOf x₂ = some .local) (hb : (x₂ == ("__debug__" : Str)) = false)
    (fin : ∀ ts g, TupsIn news ts cs → Fin { s with heap := g } ts news) :
    LCp.SrcLP prog w A h₀ L m env (.Name x₂ pos) x x₂ scope cl Fin (.ref ax) s := by
  obtain ⟨ts, h1, h2, h3⟩ := hK.inner
  refine LCp.SrcLP.ledger hh F N hm (by simpa using hsz) fun g => ?_
  have := comp_rest (prog := prog) (w := w) (A := A) (s := { s with heap := g }) (h₀ := h₀) (L := L) (m := m) (env := env) (x := x) (pos := pos) (cl := cl) (S := LCg.SrcAt h₀ ax ks.toArray) (.inr ⟨_, hm, rfl, _, rfl⟩) h2 h3 hk hx hb (fin ts g h1) ks.length 0 (by omega)
  simpa using this
end
theorem depth_rows (cs : List (List Int)) : (PyData.list (cs.map dT)).depth ≤ 2 := by
  have := depthAll_dT cs
  rw [PyData.depth]
  omega
theorem depth_pair (a b : List (List Int)) : (PyData.tuple [PyData.list (a.map dT), PyData.list (b.map dT)]).depth ≤ 3 := by
  have h1 := depth_rows a
  have h2 := depth_rows b
  rw [PyData.depth, PyData.depthAll, PyData.depthAll, PyData.depthAll]
  omega
theorem lay_rows (cs : List (List Int)) : PyData.canLay0 (PyData.list (cs.map dT)) = true := by simp [PyData.canLay0, lay_dT]
theorem lay_pair (a b : List (List Int)) : PyData.canLay0 (PyData.tuple [PyData.list (a.map dT), PyData.list (b.map dT)]) = true := by simp [PyData.canLay0, PyData.canLayAll0, lay_dT]
theorem eqv_rows (a b : List (List Int)) : PyData.eqv (PyData.list (a.map dT)) (PyData.list (b.map dT)) = decide (a = b) := by rw [PyData.eqv]; exact eqvAll_dT a b
theorem eqv_pair (a b : List (List Int)) : PyData.eqv (PyData.tuple [PyData.list (a.map dT), PyData.list (b.map dT)]) (PyData.tuple [PyData.list (a.map dT), PyData.list (b.map dT)]) = true := by
  rw [PyData.eqv, PyData.eqvAll, PyData.eqvAll, PyData.eqvAll, eqv_rows, eqv_rows]
  simp
theorem reads_rows {h : Heap} {a : Addr} {o : Obj} {vs : List Value} {cs : List (List Int)} {n : Nat} (ho : h.get? a = some o) (hc : o.cls = .type "list") (hd : o.data = .seq vs.toArray n) (t : TupsAre h vs cs) : ∃ as, Reads h (.ref a) (PyData.list (cs.map dT)) as := by
  obtain ⟨as, r⟩ := t.reads
  exact ⟨_, reads_list_at ho hc hd (by simpa using r)⟩
theorem reads_pair {h : Heap} {t a b : Addr} {o : Obj} {n : Nat} {ca cb : List (List Int)} (ho : h.get? t = some o) (hc : o.cls = .type "tuple") (hd : o.data = .seq #[.ref a, .ref b] n)
    (ra : ∃ as, Reads h (.ref a) (PyData.list (ca.map dT)) as) (rb : ∃ as, Reads h (.ref b) (PyData.list (cb.map dT)) as) : ∃ as, Reads h (.ref t) (PyData.tuple [PyData.list (ca.map dT), PyData.list (cb.map dT)]) as := by
  obtain ⟨as, r1⟩ := ra
  obtain ⟨bs, r2⟩ := rb
  exact ⟨_, reads_tuple_at ho hc hd (.cons r1 (.cons r2 .nil))⟩
end Mine

namespace Mine
open PySem PySem.W PyProof.Rows PySem.Calls PySem.Spec
/-- a is held in b -/
def sub (a b : List Int) : Bool := a.all fun x => b.contains x
theorem sub_iff {a b : List Int} : sub a b = true ↔ ∀ x ∈ a, x ∈ b := by
  unfold sub
  rw [List.all_eq_true]
  constructor
  · intro h x hx; simpa using h x hx
  · intro h x hx; simpa using h x hx
theorem sub_refl (a : List Int) : sub a a = true := sub_iff.mpr fun _ h => h
theorem sub_trans {a b c : List Int} (h1 : sub a b = true) (h2 : sub b c = true) : sub a c = true := sub_iff.mpr fun x hx => sub_iff.mp h2 x (sub_iff.mp h1 x hx)
abbrev Rise (c : List Int) : Prop := c.Pairwise (· < ·)
theorem sub_asym {a b : List Int} (ha : Rise a) (hb : Rise b) (h1 : sub a b = true) (h2 : sub b a = true) : a = b := asc_ext ha hb fun x => ⟨sub_iff.mp h1 x, sub_iff.mp h2 x⟩

theorem len_sub : ∀ {a b : List Int}, Rise a → Rise b → sub a b = true → a.length ≤ b.length
  | [], _, _, _, _ => Nat.zero_le _
  | x :: a, [], _, _, h => by have := sub_iff.mp h x (.head _); simp at this
  | x :: a, y :: b, ha, hb, h => by
    have ha' := List.pairwise_cons.mp ha
    have hb' := List.pairwise_cons.mp hb
    have h' := sub_iff.mp h
    have hs : sub a b = true := by
      refine sub_iff.mpr fun z hz => ?_
      rcases List.mem_cons.mp (h' z (.tail _ hz)) with e | hz'
      · rcases List.mem_cons.mp (h' x (.head _)) with e2 | hx
        · have := ha'.1 z hz; omega
        · have q1 := hb'.1 x hx
          have q2 := ha'.1 z hz
          omega
      · exact hz'
    have := len_sub ha'.2 hb'.2 hs
    simp; omega
theorem len_sub_lt {a b : List Int} (ha : Rise a) (hb : Rise b) (h : sub a b = true) (hne : a ≠ b) : a.length < b.length := by
  rcases Nat.lt_or_ge a.length b.length with h1 | h1
  · exact h1
  · exfalso
    apply hne
    refine sub_asym ha hb h ?_
    have gen : ∀ (a b : List Int), Rise a → Rise b → sub a b = true → b.length ≤ a.length → a = b := by
      intro a
      induction a with
      | nil =>
        intro b _ _ _ hl
        cases b with
        | nil => rfl
        | cons y b => simp at hl
      | cons x a ih =>
        intro b ha hb h hl
        cases b with
        | nil => have := sub_iff.mp h x (.head _); simp at this
        | cons y b =>
          have ha' := List.pairwise_cons.mp ha
          have hb' := List.pairwise_cons.mp hb
          have h' := sub_iff.mp h
          have e : x = y := by
            rcases List.mem_cons.mp (h' x (.head _)) with e | hx
            · exact e
            · exfalso
              have hs : sub (x :: a) b = true := by
                refine sub_iff.mpr fun z hz => ?_
                rcases List.mem_cons.mp (h' z hz) with e | hz'
                · have q1 := hb'.1 x hx
                  rcases List.mem_cons.mp hz with e2 | hz2
                  · omega
                  · have := ha'.1 z hz2; omega
                · exact hz'
              have := len_sub ha hb'.2 hs
              simp at this hl
              omega
          subst e
          rw [ih b ha'.2 hb'.2 ?_ (by simpa using hl)]
          refine sub_iff.mpr fun z hz => ?_
          rcases List.mem_cons.mp (h' z (.tail _ hz)) with e | hz'
          · have := ha'.1 z hz; omega
          · exact hz'
    rw [gen a b ha hb h h1]
    exact sub_refl b

/-- a smaller row stands ahead -/
theorem ltC_of_sub {a b : List Int} (ha : Rise a) (hb : Rise b) (h : sub a b = true) (hne : a ≠ b) : ltC a b = true := by
  have := len_sub_lt ha hb h hne
  rw [ltC_eq, if_neg (by omega)]
  simp; omega
theorem ltC_total {a b : List Int} (h1 : ltC a b = false) (h2 : ltC b a = false) : a = b := by
  have h := ltL_total (kcut a) (kcut b) h1 h2
  unfold kcut at h
  exact (List.cons.inj h).2

abbrev Le (l : List (List Int)) : Prop := l.Pairwise (fun a b => ltC b a = false)

structure KInv (d k : List (List Int)) : Prop where
  i : ∀ x ∈ k, x ∈ d
  ii : ∀ y ∈ d, ∃ x ∈ k, sub x y = true
  iii : ∀ x ∈ k, ∀ y ∈ d, sub y x = true → y = x
  iv : k.Nodup
  v : Le k

theorem keep_step {d k : List (List Int)} {c : List Int} (h : KInv d k) (hr : ∀ x ∈ d, Rise x) (hc : Rise c) (hle : ∀ x ∈ d, ltC c x = false) : KInv (d ++ [c]) (keepF k c) := by
  unfold keepF
  have e : (k.any fun o => o.all fun x => c.contains x) = k.any fun o => sub o c := rfl
  rw [e]
  split
  · rename_i hk
    obtain ⟨o, ho, hs⟩ := List.any_eq_true.mp hk
    refine ⟨fun x hx => List.mem_append_left _ (h.i x hx), ?_, ?_, h.iv, h.v⟩
    · intro y hy
      rcases List.mem_append.mp hy with hy | hy
      · exact h.ii y hy
      · rw [List.mem_singleton.mp hy]; exact ⟨o, ho, hs⟩
    · intro x hx y hy hyx
      rcases List.mem_append.mp hy with hy | hy
      · exact h.iii x hx y hy hyx
      · rw [List.mem_singleton.mp hy] at hyx ⊢
        have e1 := h.iii x hx o (h.i o ho) (sub_trans hs hyx)
        subst e1
        exact sub_asym hc (hr o (h.i o ho)) hyx hs
  · rename_i hk
    have hno : ∀ o ∈ k, ¬ sub o c = true := fun o ho hs => hk (List.any_eq_true.mpr ⟨o, ho, hs⟩)
    refine ⟨?_, ?_, ?_, ?_, ?_⟩
    · intro x hx
      rcases List.mem_append.mp hx with hx | hx
      · exact List.mem_append_left _ (h.i x hx)
      · exact List.mem_append_right _ hx
    · intro y hy
      rcases List.mem_append.mp hy with hy | hy
      · obtain ⟨x, hx, hs⟩ := h.ii y hy
        exact ⟨x, List.mem_append_left _ hx, hs⟩
      · rw [List.mem_singleton.mp hy]
        exact ⟨c, List.mem_append_right _ (.head _), sub_refl c⟩
    · intro x hx y hy hyx
      rcases List.mem_append.mp hx with hx | hx
      · rcases List.mem_append.mp hy with hy | hy
        · exact h.iii x hx y hy hyx
        · rw [List.mem_singleton.mp hy] at hyx ⊢
          by_cases hne : c = x
          · exact hne
          · have := ltC_of_sub hc (hr x (h.i x hx)) hyx hne
            rw [hle x (h.i x hx)] at this
            cases this
      · rw [List.mem_singleton.mp hx] at hyx ⊢
        rcases List.mem_append.mp hy with hy | hy
        · obtain ⟨o, ho, hs⟩ := h.ii y hy
          exact absurd (sub_trans hs hyx) (hno o ho)
        · exact List.mem_singleton.mp hy
    · refine List.nodup_append.mpr ⟨h.iv, by simp, ?_⟩
      intro x hx y hy e
      rw [List.mem_singleton.mp hy] at e
      subst e
      exact hno x hx (sub_refl x)
    · refine List.pairwise_append.mpr ⟨h.v, by simp, ?_⟩
      intro x hx y hy
      rw [List.mem_singleton.mp hy]
      exact hle x (h.i x hx)
theorem keep_all : ∀ (l d k : List (List Int)), KInv d k → (∀ x ∈ d ++ l, Rise x) → Le (d ++ l) → KInv (d ++ l) (l.foldl keepF k)
  | [], d, k, h, _, _ => by rw [List.append_nil]; exact h
  | c :: l, d, k, h, hr, hl => by
    have e : d ++ c :: l = (d ++ [c]) ++ l := by simp
    have hl' := List.pairwise_append.mp hl
    rw [List.foldl_cons, e]
    refine keep_all l (d ++ [c]) (keepF k c) (keep_step h (fun x hx => hr x (List.mem_append_left _ hx)) (hr c (List.mem_append_right _ (.head _))) fun x hx => hl'.2.2 x hx c (.head _)) (by rw [← e]; exact hr) (by rw [← e]; exact hl)
theorem keep_spec {l : List (List Int)} (hr : ∀ x ∈ l, Rise x) (hl : Le l) : (l.foldl keepF []).Nodup ∧ Le (l.foldl keepF []) ∧ ∀ x, x ∈ l.foldl keepF [] ↔ x ∈ l ∧ ∀ y ∈ l, sub y x = true → y = x := by
  have h := keep_all l [] [] ⟨by simp, by simp, by simp, by simp, by simp⟩ (by simpa using hr) (by simpa using hl)
  simp only [List.nil_append] at h
  refine ⟨h.iv, h.v, fun x => ⟨fun hx => ⟨h.i x hx, h.iii x hx⟩, fun hx => ?_⟩⟩
  obtain ⟨z, hz, hs⟩ := h.ii x hx.1
  rw [← hx.2 z (h.i z hz) hs]
  exact hz

theorem le_ext : ∀ {a b : List (List Int)}, Le a → Le b → a.Nodup → b.Nodup → (∀ x, x ∈ a ↔ x ∈ b) → a = b
  | [], [], _, _, _, _, _ => rfl
  | [], y :: b, _, _, _, _, h => by have := (h y).mpr (.head _); simp at this
  | x :: a, [], _, _, _, _, h => by have := (h x).mp (.head _); simp at this
  | x :: a, y :: b, ha, hb, na, nb, h => by
    have ha' := List.pairwise_cons.mp ha
    have hb' := List.pairwise_cons.mp hb
    have na' := List.nodup_cons.mp na
    have nb' := List.nodup_cons.mp nb
    have e : x = y := by
      rcases List.mem_cons.mp ((h x).mp (.head _)) with e | h1
      · exact e
      · rcases List.mem_cons.mp ((h y).mpr (.head _)) with e | h2
        · exact e.symm
        · exact ltC_total (hb'.1 x h1) (ha'.1 y h2)
    subst e
    rw [le_ext ha'.2 hb'.2 na'.2 nb'.2 fun z => ?_]
    constructor
    · intro hz
      rcases List.mem_cons.mp ((h z).mp (.tail _ hz)) with e | h1
      · exact absurd (e ▸ hz) na'.1
      · exact h1
    · intro hz
      rcases List.mem_cons.mp ((h z).mpr (.tail _ hz)) with e | h1
      · exact absurd (e ▸ hz) nb'.1
      · exact h1

theorem unions_mem {k : Int} {lc rc : List (List Int)} {x : List Int} : x ∈ unionsOf k lc rc ↔ ∃ a ∈ lc, ∃ b ∈ rc, x = mrg a b ∧ (x.length : Int) ≤ k := by
  unfold unionsOf
  rw [List.mem_flatMap]
  constructor
  · rintro ⟨a, ha, h⟩
    obtain ⟨b, hb, h⟩ := List.mem_filterMap.mp h
    have hl := mk_len h
    unfold mk at h
    split at h
    · cases h
    · exact ⟨a, ha, b, hb, (Option.some.inj h).symm, hl⟩
  · rintro ⟨a, ha, b, hb, rfl, hl⟩
    exact ⟨a, ha, List.mem_filterMap.mpr ⟨b, hb, by unfold mk; rw [if_neg (by omega)]⟩⟩
theorem row_mem {k : Int} {a : List Int} {x : List Int} : ∀ (rc acc : List (List Int)), x ∈ uniRow k acc a rc ↔ x ∈ acc ∨ ∃ b ∈ rc, x = mrg a b ∧ (x.length : Int) ≤ k
  | [], acc => by unfold uniRow; simp
  | b :: rc, acc => by
    have h0 : uniRow k acc a (b :: rc) = uniRow k (addU k acc (mrg a b)) a rc := rfl
    rw [h0, row_mem rc]
    clear h0
    have h2 : x ∈ addU k acc (mrg a b) ↔ x ∈ acc ∨ (x = mrg a b ∧ (x.length : Int) ≤ k) := by
      unfold addU
      split
      · rename_i hc
        rw [List.mem_append, List.mem_singleton]
        constructor
        · rintro (h | rfl)
          · exact .inl h
          · exact .inr ⟨rfl, hc.1⟩
        · rintro (h | h)
          · exact .inl h
          · exact .inr h.1
      · rename_i hc
        constructor
        · exact .inl
        · rintro (h | ⟨rfl, hl⟩)
          · exact h
          · by_cases hm : mrg a b ∈ acc
            · exact hm
            · exact absurd ⟨hl, hm⟩ hc
    rw [h2]
    constructor
    · rintro ((h | h) | ⟨b', hb', h⟩)
      · exact .inl h
      · exact .inr ⟨b, .head _, h⟩
      · exact .inr ⟨b', .tail _ hb', h⟩
    · rintro (h | ⟨b', hb', h⟩)
      · exact .inl (.inl h)
      · rcases List.mem_cons.mp hb' with rfl | hb'
        · exact .inl (.inr h)
        · exact .inr ⟨b', hb', h⟩
theorem all_mem {k : Int} {rc : List (List Int)} {x : List Int} : ∀ (lc acc : List (List Int)), x ∈ lc.foldl (fun acc a => uniRow k acc a rc) acc ↔ x ∈ acc ∨ ∃ a ∈ lc, ∃ b ∈ rc, x = mrg a b ∧ (x.length : Int) ≤ k
  | [], acc => by simp
  | a :: lc, acc => by
    rw [List.foldl_cons, all_mem lc, row_mem]
    constructor
    · rintro ((h | h) | ⟨a', ha', h⟩)
      · exact .inl h
      · exact .inr ⟨a, .head _, h⟩
      · exact .inr ⟨a', .tail _ ha', h⟩
    · rintro (h | ⟨a', ha', h⟩)
      · exact .inl (.inl h)
      · rcases List.mem_cons.mp ha' with rfl | ha'
        · exact .inl (.inr h)
        · exact .inr ⟨a', ha', h⟩
theorem uni_mem {k : Int} {lc rc : List (List Int)} {x : List Int} : x ∈ uniAll k lc rc ↔ ∃ a ∈ lc, ∃ b ∈ rc, x = mrg a b ∧ (x.length : Int) ≤ k := by
  unfold uniAll
  rw [all_mem]
  simp
theorem addU_nodup {k : Int} {acc : List (List Int)} {x : List Int} (h : acc.Nodup) : (addU k acc x).Nodup := by
  unfold addU
  split
  · rename_i hc
    refine List.nodup_append.mpr ⟨h, by simp, ?_⟩
    intro z hz y hy e
    rw [List.mem_singleton.mp hy] at e
    subst e
    exact hc.2 hz
  · exact h
theorem uni_nodup {k : Int} {lc rc : List (List Int)} : (uniAll k lc rc).Nodup := by
  have row : ∀ (a : List Int) (rc acc : List (List Int)), acc.Nodup → (uniRow k acc a rc).Nodup := by
    intro a rc
    induction rc with
    | nil => intro acc h; exact h
    | cons b rc ih => intro acc h; exact ih _ (addU_nodup h)
  have all : ∀ (lc acc : List (List Int)), acc.Nodup → (lc.foldl (fun acc a => uniRow k acc a rc) acc).Nodup := by
    intro lc
    induction lc with
    | nil => intro acc h; exact h
    | cons a lc ih => intro acc h; exact ih _ (row a rc acc h)
  exact all lc [] (by simp)

/-- what the two sides give is one and the same -/
theorem plain_law {k : Int} {lc rc zs ds : List (List Int)} (hl : ∀ c ∈ lc, RowOk c) (hr : ∀ c ∈ rc, RowOk c) (hz : zs.Perm (unionsOf k lc rc)) (sz : Le zs)
    (hd : ds.Perm ((uniAll k lc rc).filter (leastP (uniAll k lc rc)))) (sd : Le ds) : zs.foldl keepF [] = ds := by
  have rise : ∀ x ∈ zs, Rise x := by
    intro x hx
    obtain ⟨a, ha, b, hb, rfl, _⟩ := unions_mem.mp (hz.mem_iff.mp hx)
    exact mrg_asc a b (hl a ha).1 (hr b hb).1
  obtain ⟨h1, h2, h3⟩ := keep_spec rise sz
  have same : ∀ x, x ∈ zs ↔ x ∈ uniAll k lc rc := fun x => by rw [hz.mem_iff, unions_mem, uni_mem]
  refine le_ext h2 sd h1 (hd.nodup_iff.mpr (uni_nodup.filter _)) fun x => ?_
  rw [h3, hd.mem_iff, List.mem_filter, same]
  refine and_congr_right fun _ => ?_
  unfold leastP
  rw [Bool.not_eq_true', List.any_eq_false]
  constructor
  · intro h y hy hdm
    unfold domB at hdm
    rw [Bool.and_eq_true, decide_eq_true_eq] at hdm
    exact hdm.1 (h y ((same y).mpr hy) hdm.2)
  · intro h y hy hs
    by_cases e : y = x
    · exact e
    · refine absurd ?_ (h y ((same y).mp hy))
      unfold domB
      rw [Bool.and_eq_true, decide_eq_true_eq]
      exact ⟨e, hs⟩
end Mine

namespace Mine
open PySem PySem.W PyProof.Rows PySem.Calls PySem.Spec
local macro_rules | `(tactic| walk_at "eval ListComp") => `(tactic| refine Stop.out ?_)
local macro_rules | `(tactic| walk_at "pyIter ref") => `(tactic| refine Stop.out ?_)
local macro_rules | `(tactic| walk_at "call ref") => `(tactic| refine Stop.out ?_)

local macro_rules | `(tactic| walk_at "exec For Name Name cons nil") => `(tactic| (k_here; (rename Fr _ _ _ _ => lF'); (with_unfolding_all refine' For_invVF lF' ?k1 ?k2 ?_; (case k1 => exact rfl); (case k2 => exact rfl); k_whole)))
local macro_rules | `(tactic| walk_at "exec For Name Call cons nil") => `(tactic| (k_here; (rename Fr _ _ _ _ => lF'); (with_unfolding_all refine' For_invVF lF' ?k1 ?k2 ?_; (case k1 => exact rfl); (case k2 => exact rfl); k_whole)))
local macro_rules | `(tactic| walk_at "exec For Name Subscript cons nil") => `(tactic| (k_here; (rename Fr _ _ _ _ => lF'); (with_unfolding_all refine' For_invVF lF' ?k1 ?k2 ?_; (case k1 => exact rfl); (case k2 => exact rfl); k_whole)))

local macro_rules | `(tactic| walk_at "call builtin:list.append") => `(tactic| refine Stop.out ?_)
local macro_rules | `(tactic| walk_at "call builtin:sorted") => `(tactic| refine Stop.out ?_)
local macro_rules | `(tactic| walk_at "call type:tuple") => `(tactic| refine Stop.out ?_)
local macro_rules | `(tactic| walk_at "subscriptTail") => `(tactic| refine Stop.out ?_)
local macro_rules | `(tactic| walk_at "binaryOp Add ref ref") => `(tactic| refine Stop.out ?_)
local macro_rules | `(tactic| walk_at "call type:list") => `(tactic| refine Stop.out ?_)
local macro_rules | `(tactic| walk_at "compareOp Eq ref ref") => `(tactic| refine Stop.out ?_)

theorem law_ok : PySem.Challenge.rw_on0083_01.Holds := hd (by
  k_go0
  all_goals try k_fold
  rename_i W s0 s1 mg mb zG zY fa zo zpm cd zdoc zho zhcd zhg zX zV zT zB zTE zTW ns zhs zlay zhL zhr zhl2 za zb sc vs zc zL zra zw1 zr0 hI zhr2 hlen zc2 zhD h1 tk1 co hco zX0 X1 T1 B1 F0 N0 l0
  have F1 : Fr (ghostOf s1.heap [(34, 30)]) s1.heap.objs.size h1 (kstB (fun _ => none) [(Str.ofString "script", .ref sc)]) := by with_unfolding_all exact F0
  have hco1 : co.data = .cell none := by rw [hco]; with_unfolding_all rfl
  have C1 : CodeHd (ghostOf s1.heap [(34, 30)]) 34 30 := codeHd
  have hl1 := lifted
  clear F0 hco codeHd lifted zX0 zhD zc2 zhr2 zr0 zw1 zra zL zhl2 zhr zhL zlay zhs zTW zTE zB zT zV zX zhcd zho zY zG hT8 hT9 zo zpm zdoc za zb zc
  generalize ghostOf s1.heap [(34, 30)] = g at *
  generalize s1.heap.objs.size = L at *
  k_steps
  unfold Stop
  refine beads_ok B1 F1 X1 T1 rfl ?r0 ?u0 (hl1.at fun o e => F1.keep _ o e) hI ?z0 ?_
  case r0 => show 1 + claimMargin + 1 + 1 < recursionLimit; decide
  case u0 => show 4 + 3 + 100 < cLine; decide
  case z0 => omega
  intro h2 tk2 Bd ws zs n F2 kp2 nw2 N2b i2 l2
  have N2 : News g L h2 [(Bd, listOf ws.toArray n), (L + 1, co), (30, tabObj #[])] := by
    intro p hp
    rcases List.mem_cons.mp hp with rfl | hp
    · exact N2b _ (.head _)
    · have z := N0 p hp
      exact ⟨kp2 _ _ z.1, z.2⟩
  have nB : ∀ p ∈ [(L + 1, co), (30, tabObj #[])], p.1 ≠ Bd := by
    intro p hp e
    have z := (N0 p hp).1
    dsimp only at nw2
    rw [e, nw2] at z
    cases z
  clear N2b N0 F1 kp2 nw2
  k_steps
  rename_i hq0 Ta hq1 la Tb hq2 lb Sl hq3 F3 N3 lS
  unfold Stop
  have N3' : News g L hq3 [(Bd, listOf ws.toArray n), (L + 1, co), (30, tabObj #[]), (Ta, { cls := .type "tuple", data := .seq #[.int 1 tk] }), (Tb, { cls := .type "tuple", data := .seq #[.int 1 (tk + 1), .int 2 (tk + 1 + 1)] })] := fun p hp => N3 p (by
    simp only [List.mem_cons, List.not_mem_nil, or_false] at hp ⊢
    rcases hp with h | h | h | h | h <;> simp [h])
  have hbB : ∀ p ∈ [(L + 1, co), (30, tabObj #[]), (Ta, { cls := .type "tuple", data := .seq #[.int 1 tk] }), (Tb, { cls := .type "tuple", data := .seq #[.int 1 (tk + 1), .int 2 (tk + 1 + 1)] })], p.1 ≠ Bd := by
    intro p hp
    simp only [List.mem_cons, List.not_mem_nil, or_false] at hp
    rcases hp with h | h | h | h
    · exact nB p (h ▸ .head _)
    · exact nB p (h ▸ .tail _ (.head _))
    · rw [h]; exact Nat.ne_of_gt la.1
    · rw [h]; exact Nat.ne_of_gt lb.2.1
  refine side_ok (sv := [.ref Ta, .ref Tb]) (vs := ws) (n := n) B1 F3 X1 T1 rfl ?r1 ?u1 (fun p hp => by rw [List.mem_singleton.mp hp]; exact N3' _ (.head _)) i2 l2 ⟨_, (N3 _ (.head _)).1, rfl, _, rfl⟩ (Nat.ne_of_gt lS.2.2.1) (by simp) ?_
  case r1 => show 1 + claimMargin + 1 + 2 < recursionLimit; decide
  case u1 => show 4 + 3 + 200 < cLine; decide
  intro h4 tk4 Dl ws4 ns4 n4 lw4 lc4 eL tl4 F4 N4 i4 l4 tn4 ro4 ln4 nw4 hD4 kp4
  obtain ⟨N5, hb5, nn5⟩ := side_news N3' N4 kp4 hbB nw4
  obtain ⟨R, lv, lc, mL, tL, oL, nL, nR, N6⟩ : ∃ (R : List (Addr × Obj)) (lv : List Value) (lc : List (List Int)), (Dl, listOf lv.toArray eL) ∈ R ∧ TupsIn R lv lc ∧ (∀ c ∈ lc, RowOk c) ∧ lc.length ≤ 5 ∧ (∀ p ∈ R, p.1 ≠ Bd ∧ p.1 ≠ L + 1 ∧ p.1 ≠ 30) ∧
      News g L h4 ((Bd, listOf ws4.toArray n4) :: (L + 1, co) :: (30, tabObj #[]) :: R) := by
    refine ⟨_, _, [1] :: [1, 2] :: lc4, List.mem_append_right _ (.head _), .cons (.head _) rfl rfl (.cons _ _ .nil) (.cons (.tail _ (.head _)) rfl rfl (.cons _ _ (.cons _ _ .nil)) (tn4.more fun p hp => List.mem_append_right _ (.tail _ hp))), ?_, by simp; omega, ?_, N5⟩
    · intro c hc
      rcases List.mem_cons.mp hc with rfl | hc
      · exact ⟨by simp, by simp⟩
      rcases List.mem_cons.mp hc with rfl | hc
      · exact ⟨by simp, by simp⟩
      · exact ro4 c hc
    · intro p hp
      refine ⟨hb5 p (.tail _ (.tail _ hp)), ?_⟩
      rcases List.mem_append.mp hp with hp | hp
      · simp only [List.mem_cons, List.not_mem_nil, or_false] at hp
        rcases hp with rfl | rfl
        · exact ⟨Nat.ne_of_gt la.2.1, Nat.ne_of_gt la.2.2⟩
        · exact ⟨Nat.ne_of_gt lb.2.2.1, Nat.ne_of_gt lb.2.2.2⟩
      · exact nn5 p hp
  have nB : ∀ p ∈ [(L + 1, co), (30, tabObj #[])], p.1 ≠ Bd := by
    intro p hp
    rcases List.mem_cons.mp hp with rfl | hp
    · exact hb5 _ (.head _)
    · rw [List.mem_singleton.mp hp]; exact hb5 (30, tabObj #[]) (.tail _ (.head _))
  clear N3 N3' N4 N5 F3 kp4 nw4 hbB la lb lS i2 hb5 nn5 tn4 ro4 ln4 hD4 l2
  k_steps
  rename_i hq5 Tc hq6 lTc Sr hq7 F7 N7 lS
  unfold Stop
  have N8 : News g L hq7 ((Bd, listOf ws4.toArray n4) :: (L + 1, co) :: (30, tabObj #[]) :: (Tc, { cls := .type "tuple", data := .seq #[.int 1 tk] }) :: R) := fun p hp => N7 p (by
    simp only [List.mem_cons] at hp ⊢
    rcases hp with h | h | h | h | h <;> simp [h])
  have hbB : ∀ p ∈ (L + 1, co) :: (30, tabObj #[]) :: (Tc, { cls := .type "tuple", data := .seq #[.int 1 tk] }) :: R, p.1 ≠ Bd := by
    intro p hp
    simp only [List.mem_cons] at hp
    rcases hp with h | h | h | h
    · exact nB p (h ▸ .head _)
    · exact nB p (h ▸ .tail _ (.head _))
    · rw [h]; exact Nat.ne_of_gt lTc.1
    · exact (nR p h).1
  refine side_ok (sv := [.ref Tc]) (vs := ws4) (n := n4) B1 F7 X1 T1 rfl ?r2 ?u2 (fun p hp => by rw [List.mem_singleton.mp hp]; exact N8 _ (.head _)) i4 l4 ⟨_, (N7 _ (.head _)).1, rfl, _, rfl⟩ (Nat.ne_of_gt lS.2.1) (by simp) ?_
  case r2 => show 1 + claimMargin + 1 + 2 < recursionLimit; decide
  case u2 => show 4 + 3 + 200 < cLine; decide
  intro h9 tk9 Dr ws9 ns9 n9 rw9 rc9 eR tl9 F9 N9 i9 l9 tn9 ro9 rn9 nw9 hD9 kp9
  obtain ⟨N10, hb10, nn10⟩ := side_news N8 N9 kp9 hbB nw9
  obtain ⟨R2, rv, rc, mR, tR, oR, nRc, mL2, tL2, nR2, N11⟩ : ∃ (R2 : List (Addr × Obj)) (rv : List Value) (rc : List (List Int)), (Dr, listOf rv.toArray eR) ∈ R2 ∧ TupsIn R2 rv rc ∧ (∀ c ∈ rc, RowOk c) ∧ rc.length ≤ 4 ∧ (Dl, listOf lv.toArray eL) ∈ R2 ∧ TupsIn R2 lv lc ∧ (∀ p ∈ R2, p.1 ≠ Bd ∧ p.1 ≠ L + 1 ∧ p.1 ≠ 30) ∧
      News g L h9 ((Bd, listOf ws9.toArray n9) :: (L + 1, co) :: (30, tabObj #[]) :: R2) := by
    refine ⟨_, _, [1] :: rc9, List.mem_append_right _ (.head _), .cons (.head _) rfl rfl (.cons _ _ .nil) (tn9.more fun p hp => List.mem_append_right _ (.tail _ hp)), ?_, by simp; omega, List.mem_append_left _ (.tail _ mL), tL.more fun p hp => List.mem_append_left _ (.tail _ hp), ?_, N10⟩
    · intro c hc
      rcases List.mem_cons.mp hc with rfl | hc
      · exact ⟨by simp, by simp⟩
      · exact ro9 c hc
    · intro p hp
      refine ⟨hb10 p (.tail _ (.tail _ hp)), ?_⟩
      rcases List.mem_append.mp hp with hp | hp
      · rcases List.mem_cons.mp hp with rfl | hp
        · exact ⟨Nat.ne_of_gt lTc.2.1, Nat.ne_of_gt lTc.2.2.1⟩
        · exact (nR p hp).2
      · exact nn10 p hp
  have hb12 : ∀ p ∈ (L + 1, co) :: (30, tabObj #[]) :: R2, p.1 ≠ Bd := by
    intro p hp
    rcases List.mem_cons.mp hp with rfl | hp
    · exact nB _ (.head _)
    rcases List.mem_cons.mp hp with rfl | hp
    · exact nB (30, tabObj #[]) (.tail _ (.head _))
    · exact (nR2 p hp).1
  clear N7 N8 N9 N10 F7 kp9 nw9 hbB lTc lS i4 hb10 nn10 tn9 ro9 rn9 hD9 l4 mL tL nR R
  k_steps
  rename Fr _ _ _ _ => F12
  rename News _ _ _ _ => N12
  unfold Stop
  refine bead_ok B1 F12 X1 T1 rfl ?r3 ?u3 (n := n9) (vs := ws9) (fun p hp => by rw [List.mem_singleton.mp hp]; exact N12 _ (.head _)) i9 (by omega) (by decide) (by decide) ?_
  case r3 => show 1 + claimMargin + 1 + 1 < recursionLimit; decide
  case u3 => show 4 + 3 + 100 < cLine; decide
  intro r tr h13 tk13 vs13 ns13 n13 F13 N13b i13 l13 hr0 hr1 kp13
  have N13 := News.swap N12 N13b kp13 hb12
  clear F12 N12 N13b kp13 i9
  k_steps
  rename Fr _ _ _ _ => F14
  rename News _ _ _ _ => N14
  unfold Stop
  refine bead_ok B1 F14 X1 T1 rfl ?r4 ?u4 (n := n13) (vs := vs13) (fun p hp => by rw [List.mem_singleton.mp hp]; exact N14 _ (.head _)) i13 (by omega) (by decide) (by decide) ?_
  case r4 => show 1 + claimMargin + 1 + 1 < recursionLimit; decide
  case u4 => show 4 + 3 + 100 < cLine; decide
  intro q tq h15 tk15 vs15 ns15 n15 F15 N15b i15 l15 hq0 hq1 kp15
  have N15' := News.swap N14 N15b kp15 hb12
  have N15 : News g L h15 ((L + 1, co) :: (30, tabObj #[]) :: R2) := fun p hp => N15' p (.tail _ hp)
  have nR3 : ∀ p ∈ R2, p.1 ≠ L + 1 ∧ p.1 ≠ 30 := fun p hp => (nR2 p hp).2
  clear F14 N14 N15b N15' kp15 i13 i15 hb12 nB nR2 l9 l13 l15
  k_steps
  rename_i hu0 U hu1 lU hu2 F16 N16
  have N17 : News g L hu2 ((L + 1, co) :: (U, listOf #[] 0) :: (30, tabObj #[]) :: R2) := fun p hp => N16 p (by
    simp only [List.mem_cons] at hp ⊢
    rcases hp with h | h | h | h <;> simp [h])
  have hR2 : ∀ p ∈ R2, p.1 ≠ U ∧ p.1 ≠ L + 1 ∧ p.1 ≠ 30 := fun p hp => ⟨Nat.ne_of_lt (allLt_mem lU.2.2 p hp), nR3 p hp⟩
  have lU1 := lU.1
  have lU2 := lU.2.1
  clear N16 lU nR3
  refine for_cell (σ := USt) (fun c => (U, listOf (List.toArray c.vs) c.e) :: (30, tabObj #[]) :: (c.tl ++ R2)) (fun _ => []) [Str.ofString "two", Str.ofString "joined_now"]
    (fun i c => ListsIn c.tl c.vs c.cs ∧ c.cs = uniAll (4 - r) (lc.take i) rc ∧ c.cs.length ≤ 4 * i ∧ (∀ p ∈ c.tl, p.1 ≠ U ∧ p.1 ≠ L + 1 ∧ p.1 ≠ 30)) ⟨[], [], 0, []⟩ (C := L + 1) (l := Dl) (co := co) (cv := none) (vs := lv) (nn := eL)
    rfl rfl (by with_unfolding_all rfl) (by with_unfolding_all rfl) hco1 (fun c => .tail _ (.tail _ (List.mem_append_right _ mL2))) ?_ F16 N17 (by simp) ⟨.nil, rfl, Nat.le_refl _, fun p hp => nomatch hp⟩ ?_ ?_ ?_
  · rintro i c ⟨_, _, _, p4⟩ p hp
    rcases List.mem_cons.mp hp with rfl | hp
    · exact Nat.ne_of_gt lU1
    rcases List.mem_cons.mp hp with rfl | hp
    · exact Nat.ne_of_lt (Nat.lt_succ_of_lt l0)
    rcases List.mem_append.mp hp with hp | hp
    · exact (p4 p hp).2.1
    · exact (hR2 p hp).2.1
  · intro Q hQ
    k_steps
    exact hQ
  · rintro i v ⟨vs1, cs1, e1, tl1⟩ u h18 tk18 own co1 hv hoff ⟨p1, p2, p3, p4⟩ hcv F18 N18
    obtain ⟨a1, o1, n1, w1, c1, rfl, m1, hc1, hd1, i1', hci⟩ := tL2.at hv
    dsimp only at p1 p2 p3 p4 hoff N18
    have hlt : i < lv.length := (List.getElem?_eq_some_iff.mp hv).1
    clear F16 N17
    k_steps
    rename Fr _ _ _ _ => F19
    rename News _ _ _ _ => N19
    unfold Stop
    refine loopL (σ := USt) (fun c => (L + 1, co1) :: (U, listOf (List.toArray c.vs) c.e) :: (30, tabObj #[]) :: ((c.tl ++ R2) ++ own)) (fun _ => []) [Str.ofString "joined_now"]
      (fun j c => ListsIn c.tl c.vs c.cs ∧ c.cs = uniRow (4 - r) cs1 c1 (rc.take j) ∧ c.cs.length ≤ 4 * i + j ∧ (∀ p ∈ c.tl, p.1 ≠ U ∧ p.1 ≠ L + 1 ∧ p.1 ≠ 30) ∧ (∀ p ∈ c.tl, ∀ q ∈ own, q.1 ≠ p.1)) ⟨vs1, cs1, e1, tl1⟩ (l := Dr) (vs := rv) (nn := eR)
      rfl (fun c => .tail _ (.tail _ (.tail _ (List.mem_append_left _ (List.mem_append_right _ mR))))) F19 N19 (fun p hp => hp) (by simp) ⟨p1, rfl, p3, p4, ?_⟩ ?_ ?_
    · intro p hp x hx
      exact hoff x hx p.1 (.tail _ (.tail _ (.tail _ (by rw [List.map_append]; exact List.mem_append_left _ (List.mem_map_of_mem hp)))))
    · rintro j v2 ⟨vs2, cs2, e2, tl2⟩ u2 h20 tk20 own2 hv2 hoff2 ⟨q1, q2, q3, q4, q5⟩ F20 N20
      obtain ⟨a2, o2, n2, w2, c2, rfl, m2, hc2, hd2, i2', hci2⟩ := tR.at hv2
      dsimp only at q1 q2 q3 q4 q5 hoff2 N20
      have hlt2 : j < rv.length := (List.getElem?_eq_some_iff.mp hv2).1
      clear F19 N19
      k_steps
      have m1' : (a1, o1) ∈ (L + 1, co1) :: (U, listOf (List.toArray vs2) e2) :: (30, tabObj #[]) :: (tl2 ++ R2 ++ own) ++ own2 := .tail _ (.tail _ (.tail _ (List.mem_append_left _ (List.mem_append_left _ (List.mem_append_right _ m1)))))
      have m2' : (a2, o2) ∈ (L + 1, co1) :: (U, listOf (List.toArray vs2) e2) :: (30, tabObj #[]) :: (tl2 ++ R2 ++ own) ++ own2 := .tail _ (.tail _ (.tail _ (List.mem_append_left _ (List.mem_append_left _ (List.mem_append_right _ m2)))))
      have lw1 := IntsAre.length i1'
      have lw2 := IntsAre.length i2'
      have oc1 := oL c1 (List.mem_of_getElem? hci)
      have oc2 := oR c2 (List.mem_of_getElem? hci2)
      have s1 := oc1.2
      have s2 := oc2.2
      unfold Stop
      refine list_copyKT F20 N20 ⟨o1, (N20 _ m1').1, hc1, n1, hd1⟩ ?_ (by rw [List.size_toArray, sizeLine_eq]; omega)
      intro D1 k1 h21 F21 N21 lD1
      k_steps
      unfold Stop
      refine comp_ok (fun v => match v with | .int x _ => !(c1.contains x) | _ => true) (fun v y => y = v) rfl (cl := [(Str.ofString "one", L + 1)]) (by with_unfolding_all rfl) (by decide) rfl (by decide) (by rfl) ?_
      refine nameX_L F21 (by with_unfolding_all rfl) ?_ (by rfl) (by rfl)
      refine ⟨a2, w2, rfl, .inr ⟨o2, (N21 _ (.tail _ m2')).1, hc2, n2, hd2⟩, by rw [sizeLine_eq]; omega, ?_, ?_, ?_⟩
      · intro C v s₃ m₃ E' hC hv3 hn hm hkp
        obtain ⟨x, t, rfl⟩ := IntsAre.all i2' v hv3
        refine wpAny_tests_one ?_
        have N3 := N21.grown hkp
        refine wpAny_isTrue_Compare1 ?_
        refine wpAny_Name (wpAny_loadName_local (by rfl) (by rfl) hn hm ?_)
        refine lcf_cell N3 (by rfl) (.tail _ (.head _)) hcv ?_ (by rfl) (by rfl)
        refine notin_tuple_ints (ns := c1) ⟨o1, hkp _ _ (N21 _ (.tail _ m1')).1, hc1, n1, hd1⟩ (by simpa using i1') ?_
        refine wpAny_truthy_bool ⟨?_, s₃.heap, s₃.toks, rfl, fun _ _ e => e⟩
        rw [any_contains]
      · intro C v s₃ m₃ E' hC hv3 _ hn hm hkp
        refine wpAny_Name (wpAny_loadName_local (by rfl) (by rfl) hn hm ?_)
        exact ⟨rfl, s₃.heap, s₃.toks, rfl, fun _ _ e => e⟩
      · intro D2 h22 tk22 ys hD2 hl2 hpl2 hP2 hkp2
        have F22 := F21.kept hkp2
        have N22 := N21.grown hkp2
        have iy := filt_ints (c1 := c1) (fun x t => rfl) i2' hP2
        refine add_lists_ints F22 N22 ⟨_, (N22 _ (.head _)).1, rfl, _, rfl⟩ hl2 i1' iy ?_ (by rw [sizeLine_eq]; have := List.length_filter_le (fun x => !(c1.contains x)) c2; omega)
        intro h23 F23 N23 i23
        have N23' : News g L h23 ((L + 1, co1) :: (U, listOf (List.toArray vs2) e2) :: (30, tabObj #[]) :: (tl2 ++ R2 ++ own) ++ own2) := fun p hp => N23 p (.tail _ (.tail _ hp))
        have L23 : h23.IsList h22.objs.size (w1 ++ ys).toArray := ⟨_, (N23 _ (.head _)).1, rfl, _, rfl⟩
        clear F22 N22 F21 N21 N20 F20 N23 hpl2 hl2 hkp2 hD2
        k_steps
        unfold Stop
        have lf : (c1 ++ c2.filter fun x => !(c1.contains x)).length ≤ 6 := by
          rw [List.length_append]
          have := List.length_filter_le (fun x => !(c1.contains x)) c2
          omega
        refine kso_sorted F23 N23' L23 i23 (by omega) ?_
        intro J w24 zs24 k24 h24 F24 N24 lJ i24 e24 p24 o24 _
        have hz := joined_eq oc1.1 oc2.1 p24 o24
        subst hz
        clear F23 N23' L23 i23 p24 o24 iy
        have l24 := i24.length
        k_steps
        · rename_i hle
          rename Fr _ _ _ _ => F25
          rename News _ _ _ _ => N25
          obtain ⟨as, rd⟩ := q1.reads (fun p hp => (N25 p (.tail _ (.tail _ (.tail _ (.tail _ (List.mem_append_left _ (List.mem_append_left _ (List.mem_append_left _ hp)))))))).1)
          refine SeqAt.notIn_list_reads (reads_list_at (N25 (U, listOf (List.toArray vs2) e2) (.tail _ (.tail _ (.head _)))).1 rfl rfl (by simpa using rd)) (reads_dL (N25 (J, listOf w24.toArray k24) (.head _)).1 i24) (lay_dL _) (lay_dL1 _) (Nat.lt_of_le_of_lt (Nat.add_le_add_left (Nat.min_le_right _ _) _) (by rw [depth_dL]; show 4 + 3 + 1 + 1 < cLine; decide)) ?_
          rw [any_dL]
          have hJr : ∀ p ∈ (30, tabObj #[]) :: (tl2 ++ R2 ++ own ++ own2), p.1 ≠ U := by
            intro p hp
            simp only [List.mem_cons, List.mem_append] at hp
            rcases hp with rfl | ((hp | hp) | hp) | hp
            · exact Nat.ne_of_lt lU2
            · exact (q4 p hp).1
            · exact (hR2 p hp).1
            · exact hoff p hp U (.tail _ (.head _))
            · exact hoff2 p hp U (.tail _ (.head _))
          by_cases hin : mrg c1 c2 ∈ cs2
          · rw [decide_eq_true hin]
            k_steps
            rename Fr _ _ _ _ => F26
            rename News _ _ _ _ => N26
            refine js_end ⟨vs2, cs2, e2, tl2⟩ F26 N26 (fun p hp => .tail _ (List.mem_append_left own2 hp)) (fun p hp => .tail _ (List.mem_append_right _ hp)) hoff2 (by simp) ?_ ⟨q1, ?_, by dsimp only; omega, q4, q5⟩
            · intro z h1 _ h3
              simp only [List.contains_cons, List.contains_nil, Bool.or_false, beq_eq_false_iff_ne, ne_eq] at h3
              simp [h1, h3, kstB]
            · dsimp only
              unfold uniRow at q2 ⊢
              rw [foldl_succ hci2, ← q2, addU, if_neg (fun h => h.2 hin)]
          · rw [decide_eq_false hin]
            k_steps
            rename Fr _ _ _ _ => F26
            rename News _ _ _ _ => N26
            unfold Stop
            have lq2 := q1.length
            have ll2 := tL2.length
            have lr2 := tR.length
            refine append_K F26 N26 (Upd.tail (Nat.ne_of_gt (lJ (U, listOf (List.toArray vs2) e2) (.tail _ (.head _)))) (Upd.tail (Nat.ne_of_lt lU1) (Upd.head hJr))) ?_ (by rw [List.size_toArray, sizeLine_eq]; omega)
            intro h27 F27 N27
            have ea : vs2.toArray.push (Value.ref J) = (vs2 ++ [Value.ref J]).toArray := by simp
            rw [ea] at N27
            k_steps
            refine js_end ⟨vs2 ++ [.ref J], cs2 ++ [mrg c1 c2], e2 + 1, (J, listOf w24.toArray k24) :: tl2⟩ F27 N27 ?_ ?_ ?_ (by simp) ?_ ⟨(q1.more fun p hp => .tail _ hp).snoc (.head _) i24, ?_, by simp; omega, ?_, ?_⟩
            · intro p hp
              simp only [List.mem_cons, List.mem_append, List.cons_append] at hp
              rcases hp with h | h | h | h | (h | h) | h
              · exact h ▸ .tail _ (.head _)
              · exact h ▸ .tail _ (.tail _ (.head _))
              · exact h ▸ .tail _ (.tail _ (.tail _ (.head _)))
              · exact h ▸ .head _
              · exact .tail _ (.tail _ (.tail _ (.tail _ (List.mem_append_left own2 (List.mem_append_left own (List.mem_append_left R2 h))))))
              · exact .tail _ (.tail _ (.tail _ (.tail _ (List.mem_append_left own2 (List.mem_append_left own (List.mem_append_right tl2 h))))))
              · exact .tail _ (.tail _ (.tail _ (.tail _ (List.mem_append_left own2 (List.mem_append_right _ h)))))
            · intro p hp
              exact .tail _ (.tail _ (.tail _ (.tail _ (List.mem_append_right _ hp))))
            · intro p hp x hx
              simp only [List.map_cons, List.mem_cons, List.map_append, List.mem_append, List.cons_append] at hx
              rcases hx with rfl | rfl | rfl | rfl | hx
              · exact hoff2 p hp _ (.head _)
              · exact hoff2 p hp _ (.tail _ (.head _))
              · exact hoff2 p hp _ (.tail _ (.tail _ (.head _)))
              · exact Nat.ne_of_lt (lJ p (List.mem_append_right _ hp))
              · exact hoff2 p hp x (.tail _ (.tail _ (.tail _ (by rw [List.map_append, List.map_append]; exact List.mem_append.mpr (hx.imp_left fun h => List.mem_append.mpr h)))))
            · intro z h1 _ h3
              simp only [List.contains_cons, List.contains_nil, Bool.or_false, beq_eq_false_iff_ne, ne_eq] at h3
              simp [h1, h3, kstB]
            · dsimp only
              unfold uniRow at q2 ⊢
              rw [foldl_succ hci2, ← q2, addU, if_pos ⟨hle, hin⟩]
            · intro p hp
              rcases List.mem_cons.mp hp with rfl | hp
              · exact ⟨Nat.ne_of_gt (lJ (U, listOf (List.toArray vs2) e2) (.tail _ (.head _))), Nat.ne_of_gt (lJ (L + 1, co1) (.head _)), Nat.ne_of_gt (lJ (30, tabObj #[]) (.tail _ (.tail _ (.head _))))⟩
              · exact q4 p hp
            · intro p hp x hx
              rcases List.mem_cons.mp hp with rfl | hp
              · exact Nat.ne_of_lt (lJ x (.tail _ (.tail _ (.tail _ (List.mem_append_left _ (List.mem_append_right _ hx))))))
              · exact q5 p hp x hx
        · rename_i hle
          rename Fr _ _ _ _ => F26
          rename News _ _ _ _ => N26
          refine js_end ⟨vs2, cs2, e2, tl2⟩ F26 N26 (fun p hp => .tail _ (List.mem_append_left own2 hp)) (fun p hp => .tail _ (List.mem_append_right _ hp)) hoff2 (by simp) ?_ ⟨q1, ?_, by dsimp only; omega, q4, q5⟩
          · intro z h1 _ h3
            simp only [List.contains_cons, List.contains_nil, Bool.or_false, beq_eq_false_iff_ne, ne_eq] at h3
            simp [h1, h3, kstB]
          · dsimp only
            unfold uniRow at q2 ⊢
            rw [foldl_succ hci2, ← q2, addU, if_neg (fun h => hle h.1)]
    · rintro ⟨vs2, cs2, e2, tl2⟩ u2 h20 tk20 ⟨q1, q2, q3, q4, q5⟩ F20 N20
      dsimp only at q1 q2 q3 q4 q5 N20
      clear F19 N19
      have lr := tR.length
      k_steps
      refine jc_end ⟨vs2, cs2, e2, tl2⟩ F20 N20 hcv ?_ ?_ ?_ (by simp) ?_ ⟨q1, ?_, by dsimp only; omega, q4⟩
      · intro p hp
        rcases List.mem_cons.mp hp with rfl | hp
        · exact .head _
        rcases List.mem_cons.mp hp with rfl | hp
        · exact .tail _ (.head _)
        rcases List.mem_cons.mp hp with rfl | hp
        · exact .tail _ (.tail _ (.head _))
        · exact .tail _ (.tail _ (.tail _ (List.mem_append_left own hp)))
      · intro p hp
        exact .tail _ (.tail _ (.tail _ (List.mem_append_right _ hp)))
      · intro p hp x hx
        simp only [List.map_cons, List.mem_cons, List.map_append, List.mem_append] at hx
        rcases hx with rfl | rfl | rfl | hx | hx
        · exact hoff p hp _ (.head _)
        · exact hoff p hp _ (.tail _ (.head _))
        · exact hoff p hp _ (.tail _ (.tail _ (.head _)))
        · obtain ⟨y, hy, rfl⟩ := List.mem_map.mp hx
          exact q5 y hy p hp
        · exact hoff p hp x (.tail _ (.tail _ (.tail _ (by rw [List.map_append]; exact List.mem_append_right _ hx))))
      · intro z _ h3
        simp only [List.contains_cons, List.contains_nil, Bool.or_false, Bool.or_eq_false_iff, beq_eq_false_iff_ne, ne_eq] at h3
        simp [h3.1, h3.2, kstB]
      · dsimp only
        unfold uniAll at p2 ⊢
        rw [foldl_succ hci, ← p2, q2, lr, List.take_length]
  · rintro ⟨vs1, cs1, e1, tl1⟩ u h18 tk18 co1 cv1 ⟨p1, p2, p3, p4⟩ hcv F18 N18
    dsimp only at p1 p2 p3 p4 N18
    clear F16 N17
    have ll := tL2.length
    rw [ll, List.take_length] at p2
    k_steps
    rename_i Lm hm0 Fz Nz lm hm1 F30 N30
    have lt1 := p1.length
    have N31 : News g L hm1 ((L + 1, co1) :: (Lm, listOf #[] 0) :: (30, tabObj #[]) :: ((U, listOf (List.toArray vs1) e1) :: (tl1 ++ R2))) := fun p hp => N30 p (by
      rcases List.mem_cons.mp hp with rfl | hp
      · exact .tail _ (.head _)
      rcases List.mem_cons.mp hp with rfl | hp
      · exact .head _
      rcases List.mem_cons.mp hp with rfl | hp
      · exact .tail _ (.tail _ (.tail _ (.head _)))
      rcases List.mem_cons.mp hp with rfl | hp
      · exact .tail _ (.tail _ (.head _))
      · exact .tail _ (.tail _ (.tail _ (.tail _ hp))))
    have hR3 : ∀ p ∈ (U, listOf (List.toArray vs1) e1) :: (tl1 ++ R2), p.1 ≠ Lm ∧ p.1 ≠ L + 1 ∧ p.1 ≠ 30 := by
      intro p hp
      rcases List.mem_cons.mp hp with rfl | hp
      · exact ⟨Nat.ne_of_lt lm.2.1, Nat.ne_of_gt lU1, Nat.ne_of_gt lU2⟩
      · refine ⟨Nat.ne_of_lt (allLt_mem lm.2.2.2 p hp), ?_⟩
        rcases List.mem_append.mp hp with hp | hp
        · exact (p4 p hp).2
        · exact (hR2 p hp).2
    obtain ⟨R3, hR3e⟩ : ∃ R3, R3 = (U, listOf (List.toArray vs1) e1) :: (tl1 ++ R2) := ⟨_, rfl⟩
    have mU : (U, listOf (List.toArray vs1) e1) ∈ R3 := hR3e ▸ .head _
    have mT : ∀ p ∈ tl1, p ∈ R3 := fun p hp => hR3e ▸ .tail _ (List.mem_append_left _ hp)
    have mR2 : ∀ p ∈ R2, p ∈ R3 := fun p hp => hR3e ▸ .tail _ (List.mem_append_right _ hp)
    rw [← hR3e] at N31 hR3
    have lm1 := lm.1
    have lm2 := lm.2.2.1
    have hsz : cs1.length ≤ 20 := by omega
    have hcl : ∀ c ∈ cs1, (c.length : Int) ≤ 4 - r := by rw [p2]; exact uni_len
    have q1 : ListsIn R3 vs1 cs1 := p1.more mT
    clear Fz Nz N30 lm hR3e p4 mT p1
    refine for_cell (σ := USt) (fun c => (Lm, listOf (List.toArray c.vs) c.e) :: (30, tabObj #[]) :: (c.tl ++ R3)) (fun _ => []) []
      (fun i c => KeysIn c.tl c.vs c.cs ∧ c.cs = (cs1.take i).filter (leastP cs1) ∧ c.cs.length ≤ i ∧ (∀ p ∈ c.tl, p.1 ≠ Lm ∧ p.1 ≠ L + 1 ∧ p.1 ≠ 30)) ⟨[], [], 0, []⟩ (C := L + 1) (l := U) (co := co1) (cv := cv1) (vs := vs1) (nn := e1)
      rfl rfl (by with_unfolding_all rfl) (by with_unfolding_all rfl) hcv (fun c => .tail _ (.tail _ (List.mem_append_right _ mU))) ?_ F30 N31 (by simp) ⟨.nil, rfl, Nat.le_refl _, fun p hp => nomatch hp⟩ ?_ ?_ ?_
    · rintro i c ⟨_, _, _, z4⟩ p hp
      rcases List.mem_cons.mp hp with rfl | hp
      · exact Nat.ne_of_gt lm1
      rcases List.mem_cons.mp hp with rfl | hp
      · exact Nat.ne_of_lt (Nat.lt_succ_of_lt l0)
      rcases List.mem_append.mp hp with hp | hp
      · exact (z4 p hp).2.1
      · exact (hR3 p hp).2.1
    · intro Q hQ
      k_steps
      exact hQ
    · rintro i v ⟨kv, kc, ke, kt⟩ u2 h32 tk32 own co2 hv hoff ⟨z1, z2, z3, z4⟩ hcv2 F32 N32
      obtain ⟨a1, n1, w1, c1, rfl, m1, i1', hci⟩ := q1.at hv
      dsimp only at z1 z2 z3 z4 hoff N32
      clear F30 N31
      k_steps
      unfold Stop
      refine comp_ok (fun _ => true) (fun v y => ∀ a n ws c, v = Value.ref a → (a, listOf (List.toArray ws) n) ∈ R3 → IntsAre ws c → y = .bool (domB c1 c)) rfl (cl := [(Str.ofString "one", L + 1)]) (by with_unfolding_all rfl) (by decide) rfl (by decide) (by rfl) ?_
      refine nameX_L F32 (by with_unfolding_all rfl) ?_ (by rfl) (by rfl)
      have mR3 : ∀ p ∈ R3, p ∈ (L + 1, co2) :: ((Lm, listOf kv.toArray ke) :: (30, tabObj #[]) :: (kt ++ R3) ++ own) := fun p hp => .tail _ (.tail _ (.tail _ (List.mem_append_left _ (List.mem_append_right _ hp))))
      refine ⟨U, vs1, rfl, .inl ⟨_, (N32 _ (mR3 _ mU)).1, rfl, _, rfl⟩, by rw [sizeLine_eq]; omega, ?_, ?_, ?_⟩
      · intro C v s₃ m₃ E' hC hv3 hn hm hkp
        exact wpAny_tests_nil ⟨rfl, s₃.heap, s₃.toks, rfl, fun _ _ e => e⟩
      · intro C v s₃ m₃ E' hC hv3 _ hn hm hkp
        obtain ⟨j, hj, rfl⟩ := List.getElem_of_mem hv3
        obtain ⟨a2, n2, w2, c2, e2, m2, i2', hcj⟩ := q1.at (List.getElem?_eq_getElem hj)
        rw [e2] at hm ⊢
        have N3 := N32.grown hkp
        have F3 := F32.kept hkp
        have lw1 := IntsAre.length i1'
        have lw2 := IntsAre.length i2'
        refine BoolOp_and ?_
        refine wpAny_Compare1 ?_
        refine wpAny_Name (wpAny_loadName_local (by rfl) (by rfl) hn hm ?_)
        refine lcf_cell N3 (by rfl) (.head _) hcv2 ?_ (by rfl) (by rfl)
        refine SeqAt.neOverData _ _ _ _ _ _ _ (dL c2) (dL c1) _ _ _ (reads_dL (N3 _ (mR3 _ m2)).1 i2') (reads_dL (N3 _ (mR3 _ m1)).1 i1') (lay_dL1 _) (lay_dL1 _) (by rw [depth_dL, depth_dL]; show 4 + 3 + min 1 1 < cLine; decide) ?_
        rw [eqv_dL]
        have fin : ∀ {b : Bool} {h5 : Heap} {tk5 : Nat}, b = domB c1 c2 → (∀ x o, s₃.heap.get? x = some o → h5.get? x = some o) → (∀ a n ws c, Value.ref a2 = Value.ref a → (a, listOf (List.toArray ws) n) ∈ R3 → IntsAre ws c → Value.bool b = .bool (domB c1 c)) ∧ Keeps s₃ { s₃ with heap := h5, toks := tk5 } := by
          intro b h5 tk5 hb hk5
          refine ⟨?_, h5, tk5, rfl, hk5⟩
          intro a n ws c ea ma ia
          cases ea
          have z1 := (N3 _ (mR3 _ ma)).1
          have z2 := (N3 _ (mR3 _ m2)).1
          dsimp only at z1 z2
          rw [z1] at z2
          have z3 : ws = w2 := by
            have z4 := z2
            simp at z4
            exact z4.1
          subst z3
          rw [ints_uniq ia i2', hb]
        by_cases hne : c2 = c1
        · rw [decide_eq_true hne]
          refine wpAny_truthy_bool ?_
          show _ ∧ _
          exact fin (h5 := s₃.heap) (tk5 := s₃.toks) (by simp [domB, hne]) fun _ _ e => e
        · rw [decide_eq_false hne]
          refine wpAny_truthy_bool ?_
          rw [if_pos (by rfl)]
          refine BoolOp_one ?_
          refine Call_ ?_
          refine nameG_K F3 X1 (topRead_of T1) (by k_is) ?_ rfl rfl rfl (by decide)
          k_steps
          unfold Stop
          refine law_holds_ok B1 F3 X1 T1 rfl ?rh ?uh ⟨_, (N3 _ (mR3 _ m1)).1, rfl, _, rfl⟩ i1' ⟨_, (N3 _ (mR3 _ m2)).1, rfl, _, rfl⟩ i2' ?_ ?_ ?_
          case rh => show 1 + claimMargin + 1 + 1 < recursionLimit; decide
          case uh => show 4 + 3 + 100 < cLine; decide
          · have := hcl c1 (List.mem_of_getElem? hci); omega
          · have := hcl c2 (List.mem_of_getElem? hcj); omega
          · intro h5 tk5 _ hk5
            exact fin (by simp [domB, hne]) hk5
      · intro D h33 tk33 ys hD hl hpl hP hkp
        rw [filter_all] at hP
        have hys := paired_lists (f := fun c => .bool (domB c1 c)) q1 hP
        subst hys
        have F33 := F32.kept hkp
        have N33 := N32.grown hkp
        obtain ⟨o, ho, hc, n, hd⟩ := hl
        refine SeqAt.notIn_list_reads (reads_list_at ho hc hd (by simpa using reads_bools h33 (fun c => domB c1 c) cs1)) (Reads.bool true) (lay_bools _ _) rfl (by show 4 + 3 + 1 + min _ 0 < cLine; rw [Nat.min_zero]; decide) ?_
        rw [any_true]
        show wpAny _ _ (truthy (.bool (leastP cs1 c1))) _ _ _
        clear F32 N32 hD hpl hP hkp ho
        have N34 : News g L h33 ((a1, listOf w1.toArray n1) :: (L + 1, co2) :: (Lm, listOf kv.toArray ke) :: (30, tabObj #[]) :: (kt ++ R3 ++ own)) := by
          intro p hp
          rcases List.mem_cons.mp hp with rfl | hp
          · exact N33 _ (mR3 _ m1)
          · exact N33 p hp
        clear N33 mR3
        have lw1 := IntsAre.length i1'
        have hc4 := hcl c1 (List.mem_of_getElem? hci)
        have hown : ∀ p ∈ own, p ∈ (a1, listOf w1.toArray n1) :: (L + 1, co2) :: (Lm, listOf kv.toArray ke) :: (30, tabObj #[]) :: (kt ++ R3 ++ own) := fun p hp => .tail _ (.tail _ (.tail _ (.tail _ (List.mem_append_right _ hp))))
        cases hlp : leastP cs1 c1
        · k_steps
          rename Fr _ _ _ _ => F35
          rename News _ _ _ _ => N35
          refine jc_end ⟨kv, kc, ke, kt⟩ F35 N35 hcv2 ?_ hown hoff (by simp) ?_ ⟨z1, ?_, by dsimp only; omega, z4⟩
          · intro p hp
            rcases List.mem_cons.mp hp with rfl | hp
            · exact .tail _ (.head _)
            · exact .tail _ (.tail _ (List.mem_append_left own hp))
          · intro z _ _
            simp [kstB]
          · dsimp only
            rw [List.take_add_one, hci, List.filter_append, ← z2]
            simp [hlp]
        · k_steps
          unfold Stop
          rename Fr _ _ _ _ => F36
          rename News _ _ _ _ => N36
          refine kde_tupleOf (zs := w1) F36 N36 ⟨_, (N36 (a1, listOf w1.toArray n1) (.head _)).1, rfl, _, rfl⟩ (by rw [List.size_toArray]; omega) (by simp) ?_
          intro T h37 F37 N37 lT
          k_steps
          rename_i P3 h38 F38 N38 lP
          unfold Stop
          have lkv := z1.length
          have hiv : i < vs1.length := (List.getElem?_eq_some_iff.mp hv).1
          have hmo : ∀ p ∈ (30, tabObj #[]) :: (kt ++ R3 ++ own), p.1 ≠ Lm := by
            intro p hp
            simp only [List.mem_cons, List.mem_append] at hp
            rcases hp with rfl | (hp | hp) | hp
            · exact Nat.ne_of_lt lm2
            · exact (z4 p hp).1
            · exact (hR3 p hp).1
            · exact hoff p hp Lm (.tail _ (.head _))
          refine append_K F38 N38 (Upd.tail (Nat.ne_of_gt lP.2.2.2.1) (Upd.tail (Nat.ne_of_gt (lT (Lm, listOf kv.toArray ke) (.tail _ (.tail _ (.head _))))) (Upd.tail (hR3 _ m1).1 (Upd.tail (Nat.ne_of_lt lm1) (Upd.head hmo))))) ?_ (by rw [List.size_toArray, sizeLine_eq]; omega)
          intro h39 F39 N39
          have ea : kv.toArray.push (Value.ref P3) = (kv ++ [Value.ref P3]).toArray := by simp
          rw [ea] at N39
          k_steps
          refine jc_end ⟨kv ++ [.ref P3], kc ++ [c1], ke + 1, (P3, ({ cls := .type "tuple", data := .seq #[.int (c1.length : Int) (tk33 + 1), .ref T] } : Obj)) :: (T, ({ cls := .type "tuple", data := .seq w1.toArray } : Obj)) :: kt⟩ F39 N39 hcv2 ?_ ?_ ?_ (by simp) ?_ ⟨(z1.more fun p hp => .tail _ (.tail _ hp)).app (.cons (.head _) rfl rfl (.tail _ (.head _)) rfl rfl i1' .nil), ?_, by simp; omega, ?_⟩
          · intro p hp
            simp only [List.mem_cons, List.mem_append, List.cons_append] at hp
            rcases hp with h | h | h | h | h | h | h
            · exact h ▸ .tail _ (.tail _ (.tail _ (.head _)))
            · exact h ▸ .tail _ (.tail _ (.tail _ (.tail _ (.head _))))
            · exact h ▸ .tail _ (.tail _ (.tail _ (.tail _ (.tail _ (.head _)))))
            · exact h ▸ .head _
            · exact h ▸ .tail _ (.head _)
            · exact .tail _ (.tail _ (.tail _ (.tail _ (.tail _ (.tail _ (List.mem_append_left own (List.mem_append_left R3 h)))))))
            · exact .tail _ (.tail _ (.tail _ (.tail _ (.tail _ (.tail _ (List.mem_append_left own (List.mem_append_right kt h)))))))
          · intro p hp
            exact .tail _ (.tail _ (.tail _ (.tail _ (.tail _ (.tail _ (List.mem_append_right _ hp))))))
          · intro p hp x hx
            simp only [List.map_cons, List.mem_cons, List.cons_append] at hx
            rcases hx with rfl | rfl | rfl | rfl | rfl | hx
            · exact hoff p hp _ (.head _)
            · exact hoff p hp _ (.tail _ (.head _))
            · exact hoff p hp _ (.tail _ (.tail _ (.head _)))
            · exact Nat.ne_of_lt (allLt_mem lP.2.2.2.2.2 p (List.mem_append_right _ hp))
            · exact Nat.ne_of_lt (lT p (hown p hp))
            · exact hoff p hp x (.tail _ (.tail _ (.tail _ hx)))
          · intro z _ _
            simp [kstB]
          · dsimp only
            rw [List.take_add_one, hci, List.filter_append, ← z2]
            simp [hlp]
          · intro p hp
            rcases List.mem_cons.mp hp with rfl | hp
            · exact ⟨Nat.ne_of_gt lP.2.2.2.1, Nat.ne_of_gt lP.2.2.1, Nat.ne_of_gt lP.2.2.2.2.1⟩
            rcases List.mem_cons.mp hp with rfl | hp
            · exact ⟨Nat.ne_of_gt (lT (Lm, listOf kv.toArray ke) (.tail _ (.tail _ (.head _)))), Nat.ne_of_gt (lT (L + 1, co2) (.tail _ (.head _))), Nat.ne_of_gt (lT (30, tabObj #[]) (.tail _ (.tail _ (.tail _ (.head _)))))⟩
            · exact z4 p hp
    · rintro ⟨kv, kc, ke, kt⟩ u2 h32 tk32 co2 cv2 ⟨z1, z2, z3, z4⟩ hcv2 F32 N32
      dsimp only at z1 z2 z3 z4 N32
      clear F30 N31
      have lkv := z1.length
      rw [lt1, List.take_length] at z2
      k_steps
      unfold Stop
      refine LCp.ListComp_P (F₀ := F32) (by with_unfolding_all rfl) (by decide) (by rfl) (by decide) (by rfl) (by rfl) (by decide) ?_
      k_steps
      unfold Stop
      refine sorted_pairs (cs := kc) (by show 4 + 3 + 50 < cLine; decide) F32 N32 ⟨_, (N32 (Lm, listOf kv.toArray ke) (.tail _ (.head _))).1, rfl, _, rfl⟩ (by omega) (fun h' _ N' => z1.are fun p hp => (N' p (.tail _ (.tail _ (.tail _ (List.mem_append_left _ hp))))).1) ?_
      intro Ds h40 pm ns40 F40 N40 lDs hpm hperm hsort
      refine comp_pairs rfl F40 N40 (.head _) ((z1.map pm hpm).more fun p hp => .tail _ (.tail _ (.tail _ (.tail _ (List.mem_append_left _ hp))))) ?sz (by intro; rfl) (by intro; rfl) (by decide) ?_
      case sz =>
        have := hperm.length_eq
        rw [List.length_map] at this ⊢
        rw [sizeLine_eq]
        omega
      intro ts g41 hts Dc h41 tk41 F41 N41 o1
      clear F32 N32
      k_steps
      unfold Stop
      obtain ⟨K0, hK0⟩ : ∃ K0, K0 = (Ds, listOf (List.toArray (pm.map fun i => kv.getD i Value.none)) ns40) :: (L + 1, co2) :: (Lm, listOf kv.toArray ke) :: (30, tabObj #[]) :: (kt ++ R3) := ⟨_, rfl⟩
      have k30 : (30, tabObj #[]) ∈ K0 := hK0 ▸ .tail _ (.tail _ (.tail _ (.head _)))
      have kR2 : ∀ p ∈ R2, p ∈ K0 := fun p hp => hK0 ▸ .tail _ (.tail _ (.tail _ (.tail _ (List.mem_append_right _ (mR2 p hp)))))
      rw [← hK0] at hts N41
      obtain ⟨ds, hds⟩ : ∃ ds, ds = pm.map fun i => kc.getD i [] := ⟨_, rfl⟩
      rw [← hds] at hts hperm hsort
      clear F40 N40 o1 hK0 hds lDs
      have lts := hts.length
      have lds := hperm.length_eq
      have em : 5 - q = ((5 - q).toNat : Int) := by omega
      refine kba_turn (value' := PySem.Expr.Name (PySem.Str.ofString "_") ⟨0, 0, 0, 0⟩) (fun _ => rfl) ?_
      refine kmk_slice (lo := none) (hi := some (5 - q)) F41 N41 ⟨_, (N41 _ (.head _)).1, rfl, _, rfl⟩ .none (.int _ _) ?_ (by with_unfolding_all rfl) (by intro _; with_unfolding_all rfl) (by rw [List.size_toArray, sizeLine_eq]; omega)
      intro D2 h42 F42 N42 l42
      rw [em, slicePick_upto' ts.toArray (5 - q).toNat] at N42
      have N43 : News g L h42 ((D2, listOf (List.toArray (ts.take (5 - q).toNat)) 0) :: K0) := fun p hp => by
        rcases List.mem_cons.mp hp with rfl | hp
        · have z := N42 _ (.head _)
          refine ⟨?_, z.2⟩
          have z1 := z.1
          simpa using z1
        · exact N42 p (.tail _ (.tail _ hp))
      clear F41 N41 N42 l42
      k_steps
      rename_i T11 hq3 lT11 E0 hq4 F44 N44 lE
      unfold Stop
      refine add_lists F44 N44 (vs := ts.take (5 - q).toNat) (ws := [.ref T11]) ⟨_, (N44 (D2, listOf (List.toArray (ts.take (5 - q).toNat)) 0) (.tail _ (.tail _ (.head _)))).1, rfl, _, rfl⟩ ⟨_, (N44 _ (.head _)).1, rfl, _, rfl⟩ ?_ (by rw [sizeLine_eq, List.length_take]; simp; omega)
      intro h45 F45 N45
      have N46 : News g L h45 ((hq4.objs.size, ({ cls := .type "list", data := .seq (List.toArray (ts.take (5 - q).toNat ++ [.ref T11])) } : Obj)) :: (T11, ({ cls := .type "tuple", data := .seq #[.int 11 tk41] } : Obj)) :: K0) := fun p hp => N45 p (by
        rcases List.mem_cons.mp hp with rfl | hp
        · exact .head _
        rcases List.mem_cons.mp hp with rfl | hp
        · exact .tail _ (.tail _ (.head _))
        · exact .tail _ (.tail _ (.tail _ (.tail _ hp))))
      clear F44 N44 N45 lE
      k_steps
      rename Fr _ _ _ _ => F47
      rename News _ _ _ _ => N47
      unfold Stop
      refine list_copyK F47 N47 ⟨_, (N47 (Dl, listOf lv.toArray eL) (.tail _ (.tail _ (kR2 _ mL2)))).1, rfl, _, rfl⟩ ?_ (by rw [List.size_toArray, sizeLine_eq]; omega)
      intro Da ca h48 F48 N48 la
      k_steps
      unfold Stop
      have lrr := tR.length
      refine list_copyK F48 N48 ⟨_, (N48 (Dr, listOf rv.toArray eR) (.tail _ (.tail _ (.tail _ (kR2 _ mR))))).1, rfl, _, rfl⟩ ?_ (by rw [List.size_toArray, sizeLine_eq]; omega)
      intro Db cb h49 F49 N49 lb
      clear N47 N48
      k_steps
      rename_i Kt hk5 lK hk6 F50 N50
      unfold Stop
      have N51 : News g L hk6 [(30, tabObj #[])] := fun p hp => N50 p (by rw [List.mem_singleton.mp hp]; exact .tail _ (.tail _ (.tail _ (.tail _ (.tail _ k30)))))
      have tlv : TupsAre hk6 lv lc := tL2.are fun p hp => (N50 p (.tail _ (.tail _ (.tail _ (.tail _ (.tail _ (kR2 p hp))))))).1
      have trv : TupsAre hk6 rv rc := tR.are fun p hp => (N50 p (.tail _ (.tail _ (.tail _ (.tail _ (.tail _ (kR2 p hp))))))).1
      have tdue0 : TupsAre hk6 (ts.take (5 - q).toNat ++ [.ref T11]) (ds.take (5 - q).toNat ++ [[11]]) := ((hts.take (5 - q).toNat).are fun p hp => (N50 p (.tail _ (.tail _ (.tail _ (.tail _ (.tail _ hp)))))).1).snoc ⟨_, (N50 _ (.tail _ (.tail _ (.tail _ (.tail _ (.head _)))))).1, rfl, _, rfl⟩ (.cons _ _ .nil)
      have h30 : hk6.get? 30 = some (tabObj #[]) := (N51 _ (.head _)).1
      have hD1 := (N50 (Dl, listOf lv.toArray eL) (.tail _ (.tail _ (.tail _ (.tail _ (.tail _ (kR2 _ mL2))))))).1
      have hD2 := (N50 (Dr, listOf rv.toArray eR) (.tail _ (.tail _ (.tail _ (.tail _ (.tail _ (kR2 _ mR))))))).1
      refine node_cuts_ok B1 F50 X1 T1 rfl ?rn ?un C1 N51 ⟨_, hD1, rfl, _, rfl⟩ tlv ⟨_, hD2, rfl, _, rfl⟩ trv (by omega) (by omega) ?_ ?_ (by omega) (by omega) ?_
      case rn => show 1 + claimMargin + 1 + 3 < recursionLimit; decide
      case un => show 4 + 3 + 200 < cLine; decide
      · intro c hc; have := (oL c hc).2; omega
      · intro c hc; have := (oR c hc).2; omega
      intro h52 tk52 Dn vs52 n52 zs52 ps F52 kp52 N52 hp52 hs52 t52
      have hplain := plain_law oL oR hp52 hs52 (by rw [← p2, ← z2]; exact hperm) hsort
      rw [hplain] at t52
      have kp : ∀ b o, o.cls ≠ .none → hk6.get? b = some o → h52.get? b = some o := fun b o hc e => kp52 b o (by
        rintro rfl
        rw [h30] at e
        have e2 := Option.some.inj e
        rw [← e2] at hc
        exact hc rfl) e
      have tdue := tdue0.keepT fun b o hc e => kp b o (by rw [hc]; simp) e
      have eD := kp _ _ (by simp) (N50 (hq4.objs.size, _) (.tail _ (.tail _ (.tail _ (.head _))))).1
      obtain ⟨as1, r1⟩ := reads_rows (N52 _ (.head _)).1 rfl rfl t52
      obtain ⟨as2, r2⟩ := reads_rows eD rfl rfl tdue
      have N53 : News g L h52 ((30, tabObj ps) :: (Kt, ({ cls := .type "tuple", data := .seq #[.ref Da, .ref Db] } : Obj)) :: (Da, listOf lv.toArray ca) :: (Db, listOf rv.toArray cb) :: R2) := by
        intro p hp
        rcases List.mem_cons.mp hp with rfl | hp
        · exact N52 _ (.tail _ (.head _))
        rcases List.mem_cons.mp hp with rfl | hp
        · have z := N50 _ (.head _)
          exact ⟨kp _ _ (by simp) z.1, z.2⟩
        rcases List.mem_cons.mp hp with rfl | hp
        · have z := N50 _ (.tail _ (.tail _ (.head _)))
          exact ⟨kp _ _ (by simp) z.1, z.2⟩
        rcases List.mem_cons.mp hp with rfl | hp
        · have z := N50 _ (.tail _ (.head _))
          exact ⟨kp _ _ (by simp) z.1, z.2⟩
        · have z := N50 _ (.tail _ (.tail _ (.tail _ (.tail _ (.tail _ (kR2 _ hp))))))
          exact ⟨kp52 _ _ (hR2 p hp).2.2 z.1, z.2⟩
      clear N50 N51 N52 tlv trv tdue0
      k_steps
      unfold Stop
      refine SeqAt.eqOverData _ _ _ _ _ _ _ _ _ _ _ _ r1 r2 (lay_rows _) (lay_rows _) (Nat.lt_of_le_of_lt (Nat.add_le_add_left (Nat.le_trans (Nat.min_le_left _ _) (depth_rows _)) _) (by show 4 + 3 + 2 < cLine; decide)) ?_
      rw [eqv_rows, decide_eq_true rfl]
      clear r1 r2 eD tdue t52
      k_steps
      rename_i Qt h55 F55 N55 lQ
      try unfold Stop
      have inR : ∀ p ∈ R2, h55.get? p.1 = some p.2 := fun p hp => (N55 p (.tail _ (.tail _ (.tail _ (.tail _ (.tail _ hp)))))).1
      have tlv := tL2.are inR
      have trv := tR.are inR
      obtain ⟨as3, r3⟩ := reads_pair (N55 (Kt, _) (.tail _ (.tail _ (.head _)))).1 rfl rfl (reads_rows (N55 (Da, _) (.tail _ (.tail _ (.tail _ (.head _))))).1 rfl rfl tlv) (reads_rows (N55 (Db, _) (.tail _ (.tail _ (.tail _ (.tail _ (.head _)))))).1 rfl rfl trv)
      obtain ⟨as4, r4⟩ := reads_pair (N55 (Qt, _) (.head _)).1 rfl rfl (reads_rows (inR _ mL2) rfl rfl tlv) (reads_rows (inR _ mR) rfl rfl trv)
      refine SeqAt.eqOverData _ _ _ _ _ _ _ _ _ _ _ _ r3 r4 (lay_pair _ _) (lay_pair _ _) (Nat.lt_of_le_of_lt (Nat.add_le_add_left (Nat.le_trans (Nat.min_le_left _ _) (depth_pair _ _)) _) (by show 4 + 3 + 3 < cLine; decide)) ?_
      rw [eqv_pair]
      refine ⟨goodW_bool F55 zhg (fun _ => by with_unfolding_all rfl) (by with_unfolding_all rfl), ⟨ps, (N55 (30, tabObj ps) (.tail _ (.head _))).1⟩, trivial⟩)
end Mine

theorem PySem.Challenge.cw_on0083_01_holds : PySem.Challenge.rw_on0083_01.Holds := by
  exact Mine.law_ok
