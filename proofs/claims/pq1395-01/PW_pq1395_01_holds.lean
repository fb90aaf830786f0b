import PyProof.Rows.All
import Wide.All
import OpenK.AllK
import Wide.FinOn
import PySem.Challenge.RW_pq1395_01
open PySem PySem.W PySem.Calls PyProof.Rows
set_option Elab.async false
set_option linter.unusedVariables false
set_option compiler.extract_closed false
namespace Mine
set_option maxRecDepth 100000
set_option maxHeartbeats 8000000
/-- the walk halts here -/
structure Halt (P : Prop) : Prop where
  out : P
section loops
variable {prog : Program} {w : World} {A : Around} {E : Value → Shared → Prop} {s : Shared} {env : Env} {h₀ : Heap} {x : Str} {body : List Stmt} {Q : Flow → Shared → Prop}

/-- the end of a loop's turn: the state c, with the rest nx of the ledger as it was -/
def LpEnd {σ : Type} (h₀ : Heap) (L : Addr) (Led : σ → List (Addr × Obj)) (ps : σ → List (Str × Value)) (stored : List Str) (x : Str) (m₀ : Str → Option Value) (P : σ → Prop) (nx : List (Addr × Obj)) (s₁ s₂ : Shared) : Prop :=
  ∃ c h' tk m', s₂ = { s₁ with heap := h', toks := tk } ∧ Fr h₀ L h' m' ∧ News h₀ L h' (Led c ++ nx) ∧ (∀ p ∈ ps c, m' p.1 = some p.2) ∧
    (∀ z, z ≠ x → (∀ p ∈ ps c, z ≠ p.1) → stored.contains z = false → m' z = m₀ z) ∧ P c
def LpPost {σ : Type} (h₀ : Heap) (L : Addr) (Led : σ → List (Addr × Obj)) (ps : σ → List (Str × Value)) (stored : List Str) (x : Str) (m₀ : Str → Option Value) (P : σ → Prop) (nx : List (Addr × Obj)) (s₁ : Shared) (Q : Flow → Shared → Prop) (f : Flow) (s₂ : Shared) : Prop :=
  match f with
  | .ret v => Q (.ret v) s₂
  | .brk => Q .next s₂
  | _ => LpEnd h₀ L Led ps stored x m₀ P nx s₁ s₂
theorem LpEnd.intro {σ : Type} {L : Addr} {Led : σ → List (Addr × Obj)} {ps : σ → List (Str × Value)} {stored : List Str} {m₀ m' : Str → Option Value} {P : σ → Prop} {nx : List (Addr × Obj)} {s₁ : Shared} {h' : Heap} {tk : Nat} (c : σ)
    (F : Fr h₀ L h' m') (N : News h₀ L h' (Led c ++ nx)) (hk : ∀ p ∈ ps c, m' p.1 = some p.2) (hr : ∀ z, z ≠ x → (∀ p ∈ ps c, z ≠ p.1) → stored.contains z = false → m' z = m₀ z) (hp : P c) :
    LpEnd h₀ L Led ps stored x m₀ P nx s₁ { s₁ with heap := h', toks := tk } := ⟨c, h', tk, m', rfl, F, N, hk, hr, hp⟩

def LpJ {σ : Type} (Led : σ → List (Addr × Obj)) (ps : σ → List (Str × Value)) (stored : List Str) (x : Str) (m₀ : Str → Option Value) (P : σ → Prop) (rest : List (Addr × Obj)) (m : Str → Option Value) (nx : List (Addr × Obj)) : Prop :=
  ∃ c, nx = Led c ++ rest ∧ (∀ p ∈ ps c, m p.1 = some p.2) ∧ (∀ z, z ≠ x → (∀ p ∈ ps c, z ≠ p.1) → stored.contains z = false → m z = m₀ z) ∧ P c

theorem lp_end_of {σ : Type} {L : Addr} {Led : σ → List (Addr × Obj)} {ps : σ → List (Str × Value)} {stored : List Str} {m₀ : Str → Option Value} {P : σ → Prop} {rest own : List (Addr × Obj)} {c₀ : σ} {s₁ s₂ : Shared} {adr : List Addr}
    (hadr : ∀ c, (Led c).map (·.1) = adr) (hoff : OwnOff own ((Led c₀ ++ rest).map (·.1)))
    (h : LpEnd h₀ L Led ps stored x m₀ P (rest ++ own) s₁ s₂) : InvEndG h₀ L (LpJ Led ps stored x m₀ P rest) own s₁ s₂ := by
  obtain ⟨c, h', tk, m', e, F, N, hk, hr, hp⟩ := h
  refine ⟨h', tk, m', Led c ++ (rest ++ own), Led c ++ rest, e, F, N, fun p hp => ?_, fun p hp => ?_, ?_, c, rfl, hk, hr, hp⟩
  · rcases List.mem_append.mp hp with hp | hp
    · exact List.mem_append.mpr (.inl hp)
    · exact List.mem_append.mpr (.inr (List.mem_append.mpr (.inl hp)))
  · exact List.mem_append.mpr (.inr (List.mem_append.mpr (.inr hp)))
  · rw [List.map_append, hadr] at hoff ⊢
    exact hoff

theorem lp_list {σ : Type} {l : Addr} {vs : List Value} {nn : Nat} {m₀ : Str → Option Value} {rest news : List (Addr × Obj)} (Led : σ → List (Addr × Obj)) (ps : σ → List (Str × Value)) (stored : List Str) (P : Nat → σ → Prop) (adr : List Addr) (c₀ : σ)
    (hh : A.handled = none) (hnews : news = Led c₀ ++ rest) (hl : (l, listOf vs.toArray nn) ∈ rest) (F : Fr h₀ env.locals s.heap m₀) (N : News h₀ env.locals s.heap news) (hadr : ∀ c, (Led c).map (·.1) = adr)
    (hoff : ∀ p ∈ rest, p.1 ∉ adr) (hk : ∀ p ∈ ps c₀, m₀ p.1 = some p.2) (hp : P 0 c₀)
    (turn : ∀ i v c nx (u : Str → Option Value) h tk, vs[i]? = some v → (∀ p ∈ rest, p ∈ nx) → (∀ p ∈ nx, p.1 ∉ adr) → P i c →
      Fr h₀ env.locals h (fun y => if y = x then some v else kstB (fun z => if stored.contains z then u z else m₀ z) (ps c) y) → News h₀ env.locals h (Led c ++ nx) →
      wpAny (model prog w) A (execs body env) (LpPost h₀ env.locals Led ps stored x m₀ (P (i + 1)) nx { s with heap := h, toks := tk } Q) E { s with heap := h, toks := tk })
    (done : ∀ c (u : Str → Option Value) h tk, P vs.length c → Fr h₀ env.locals h (fun y => if y = x then u y else kstB (fun z => if stored.contains z then u z else m₀ z) (ps c) y) → News h₀ env.locals h (Led c ++ rest) → Q .next { s with heap := h, toks := tk }) :
    wpAny (model prog w) A (pyIter (.ref l)) (fun it s₂ => LoopAtV prog w A h₀ env x body Q E it s₂) E s := by
  subst hnews
  refine kdl_iter (fun i m nx => LpJ Led ps stored x m₀ (P i) rest m nx) hh (List.mem_append.mpr (.inr hl)) F N ⟨c₀, rfl, hk, fun _ _ _ _ => rfl, hp⟩ ?_ ?_
  · rintro i v m₁ nx h tk own hv hof _ ⟨c, rfl, h1, h2, hp'⟩ F₁ N₁
    rw [List.append_assoc] at N₁
    have hof' : ∀ p ∈ rest ++ own, p.1 ∉ adr := fun p hp => by
      rcases List.mem_append.mp hp with hp | hp
      · exact hoff p hp
      · intro ha
        rw [List.map_append, hadr] at hof
        exact hof p hp _ (List.mem_append.mpr (.inl ha)) rfl
    refine wpAny_mono (turn i v c (rest ++ own) m₁ h tk hv (fun p hp => List.mem_append.mpr (.inl hp)) hof' hp' (kst_fr h1 h2 F₁) N₁) (fun f s₂ p => ?_) fun _ _ e => e
    have up : LpEnd h₀ env.locals Led ps stored x m₀ (P (i + 1)) (rest ++ own) { s with heap := h, toks := tk } s₂ →
        InvEndG h₀ env.locals (fun m' nx => (l, listOf vs.toArray nn) ∈ nx ∧ LpJ Led ps stored x m₀ (P (i + 1)) rest m' nx) own { s with heap := h, toks := tk } s₂ := by
      intro q
      obtain ⟨h', tk', m', news', nx', e', F', N', hn', ho', ha, hJ⟩ := lp_end_of hadr hof q
      refine ⟨h', tk', m', news', nx', e', F', N', hn', ho', ha, ?_, hJ⟩
      obtain ⟨c', rfl, _⟩ := hJ
      exact List.mem_append.mpr (.inr hl)
    cases f with
    | ret v => exact p
    | brk => exact p
    | next => exact up p
    | cont => exact up p
  · rintro m₁ nx h tk ⟨c, rfl, h1, h2, hp'⟩ F₁ N₁
    exact done c m₁ h tk hp' (kst_frOut h1 h2 F₁) N₁

theorem lp_range {σ : Type} {r : Addr} {a₀ b₀ : Int} {t₀ u₀ v₀ : Tok} {n : Nat} {m₀ : Str → Option Value} {rest news : List (Addr × Obj)} (Led : σ → List (Addr × Obj)) (ps : σ → List (Str × Value)) (stored : List Str) (P : Nat → σ → Prop) (adr : List Addr) (c₀ : σ)
    (hh : A.handled = none) (hr : IsRange s.heap r a₀ b₀ 1 t₀ u₀ v₀) (hsmall : Builtin.Range.small a₀ b₀ 1 = true) (hsz : Builtin.Range.rangeSize a₀ b₀ 1 = (n : Int)) (hnews : news = Led c₀ ++ rest) (F : Fr h₀ env.locals s.heap m₀) (N : News h₀ env.locals s.heap news) (hadr : ∀ c, (Led c).map (·.1) = adr)
    (hoff : ∀ p ∈ rest, p.1 ∉ adr) (hk : ∀ p ∈ ps c₀, m₀ p.1 = some p.2) (hp : P 0 c₀)
    (turn : ∀ i t c nx (u : Str → Option Value) h tk, i < n → (∀ p ∈ rest, p ∈ nx) → (∀ p ∈ nx, p.1 ∉ adr) → P i c →
      Fr h₀ env.locals h (fun y => if y = x then some (.int (a₀ + (i : Int)) t) else kstB (fun z => if stored.contains z then u z else m₀ z) (ps c) y) → News h₀ env.locals h (Led c ++ nx) →
      wpAny (model prog w) A (execs body env) (LpPost h₀ env.locals Led ps stored x m₀ (P (i + 1)) nx { s with heap := h, toks := tk } Q) E { s with heap := h, toks := tk })
    (done : ∀ c (u : Str → Option Value) h tk, P n c → Fr h₀ env.locals h (fun y => if y = x then u y else kstB (fun z => if stored.contains z then u z else m₀ z) (ps c) y) → News h₀ env.locals h (Led c ++ rest) → Q .next { s with heap := h, toks := tk }) :
    wpAny (model prog w) A (pyIter (.ref r)) (fun it s₂ => LoopAtV prog w A h₀ env x body Q E it s₂) E s := by
  subst hnews
  refine wpAny_pyIter_range hr hsmall ?_
  have W : Walks prog w A s.heap.objs.size [s.heap.objs.size] [s.heap.objs.size] n (fun i v => i < n ∧ ∃ t, v = .int (a₀ + i * 1) t)
      (fun i h => IsRangeIter h s.heap.objs.size (a₀ + (i : Nat) * 1) ((n : Int) - (i : Nat)) 1) := (Walks.range hh _ a₀ 1 n).bound
  refine kdr_loop (fun i m nx => LpJ Led ps stored x m₀ (P i) rest m nx) W (fun _ h => h) (fun _ h => h) ?_ ?_ ?_ ?_ (by show IsRangeIter _ _ _ _ _; rw [hsz]; simpa using Heap.get?_push_size _ rfl) (F.push _) (fun p hp => ⟨Heap.get?_push_of_some _ (N p hp).1, (N p hp).2⟩) ⟨c₀, rfl, hk, fun _ _ _ _ => rfl, hp⟩ ?_ ?_
  · intro i h hi b hb
    rw [List.mem_singleton.mp hb]
    exact ⟨_, hi⟩
  · intro hm
    exact absurd F.ns.lt ((List.mem_singleton.mp hm) ▸ Nat.lt_irrefl _)
  · intro b hb
    rw [List.mem_singleton.mp hb]
    exact next_is_new F
  · intro p hp hI
    exact absurd (Heap.lt_size (N p hp).1) ((List.mem_singleton.mp hI) ▸ Nat.lt_irrefl _)
  · rintro i v m₁ nx h tk own hi ⟨_, t, rfl⟩ hof ⟨c, rfl, h1, h2, hp'⟩ F₁ N₁
    have e1 : a₀ + (i : Int) * 1 = a₀ + (i : Int) := by omega
    rw [e1] at F₁
    rw [List.append_assoc] at N₁
    have hof' : ∀ p ∈ rest ++ own, p.1 ∉ adr := fun p hp => by
      rcases List.mem_append.mp hp with hp | hp
      · exact hoff p hp
      · intro ha
        rw [List.map_append, hadr] at hof
        exact hof p hp _ (List.mem_append.mpr (.inl ha)) rfl
    refine wpAny_mono (turn i t c (rest ++ own) m₁ h tk hi (fun p hp => List.mem_append.mpr (.inl hp)) hof' hp' (kst_fr h1 h2 F₁) N₁) (fun f s₂ p => ?_) fun _ _ e => e
    cases f with
    | ret v => exact p
    | brk => exact p
    | next => exact lp_end_of hadr hof p
    | cont => exact lp_end_of hadr hof p
  · rintro m₁ nx h tk ⟨c, rfl, h1, h2, hp'⟩ F₁ N₁
    exact done c m₁ h tk hp' (kst_frOut h1 h2 F₁) N₁
end loops

section comps
open LCg LCt
variable {prog : Program} {w : World} {A : Around} {E : Value → Shared → Prop} {s : Shared} {h₀ : Heap} {L : Addr} {m : Str → Option Value} {env : Env}

theorem CompEnd.mono {L : Addr} {m : Str → Option Value} {s₁ : Shared} {I : Addr} {oI : Obj} {C : Addr} {oC : Obj} {D : Addr} {oD : Obj} {S : List (Addr × Obj) → Prop} {rest rest' : Value → List (Addr × Obj) → Prop} {y : Value} {s₂ : Shared}
    (h : CompEnd h₀ L m s₁ I oI C oC D oD S rest y s₂) (k : ∀ nw, rest y nw → rest' y nw) : CompEnd h₀ L m s₁ I oI C oC D oD S rest' y s₂ := by
  obtain ⟨h', tk, nw, e, F, N, o, hS, r⟩ := h
  exact ⟨h', tk, nw, e, F, N, o, hS, k nw r⟩

/-- the turns of a comprehension without a test, by an invariant over what is made so far and the ledger -/
theorem cr_of {elt : Expr} {x : Str} {scope : Scope} {cl : List (Str × Addr)} {S : List (Addr × Obj) → Prop} {Pv : Nat → Value → Prop} {Fin : List Value → List (Addr × Obj) → Prop} {n : Nat} (J : Nat → List Value → List (Addr × Obj) → Prop)
    (turn : ∀ i ys news v I oI C oC D m₂ h tk (E' : Value → Shared → Prop), i < n → J i ys news → Pv i v → NsObj oC m₂ → m₂ x = some v → Fr h₀ L h m → News h₀ L h ((I, oI) :: (C, oC) :: (D, lst ys) :: news) → Off3 I C D news → ((@Ne Nat I C) ∧ (@Ne Nat I D) ∧ (@Ne Nat C D)) →
      wpAny (model prog w) A (eval elt (compEnvC scope cl C env)) (CompEnd h₀ L m { s with heap := h, toks := tk } I oI C oC D (lst ys) S (fun y news' => J (i + 1) (ys ++ [y]) news')) E' { s with heap := h, toks := tk })
    (fin : ∀ ys news, J n ys news → Fin ys news) :
    ∀ k i ys news, i + k = n → J i ys news → CompRest prog w A h₀ L m env elt x scope cl s S Pv Fin k i ys news := by
  intro k
  induction k with
  | zero => intro i ys news e hJ; exact CompRest.zero (fin _ _ (by rw [← e]; exact hJ))
  | succ k ih =>
    intro i ys news e hJ
    refine CompRest.succ fun v I oI C oC D m₂ h tk E' hv hC hx F N off ne => ?_
    refine wpAny_mono (turn i ys news v I oI C oC D m₂ h tk E' (by omega) hJ hv hC hx F N off ne) (fun y s₂ q => CompEnd.mono q fun nw r => ih (i + 1) _ _ (by omega) r) fun _ _ e => e

theorem crT_of {ct elt : Expr} {x : Str} {scope : Scope} {cl : List (Str × Addr)} {S : List (Addr × Obj) → Prop} {Pv : Nat → Value → Prop} {Fin : List Value → List (Addr × Obj) → Prop} {n : Nat} (J : Nat → List Value → List (Addr × Obj) → Prop)
    (turn : ∀ i ys news v I oI C oC D m₂ h tk (E' : Value → Shared → Prop), i < n → J i ys news → Pv i v → NsObj oC m₂ → m₂ x = some v → Fr h₀ L h m → News h₀ L h ((I, oI) :: (C, oC) :: (D, lst ys) :: news) → Off3 I C D news → ((@Ne Nat I C) ∧ (@Ne Nat I D) ∧ (@Ne Nat C D)) →
      wpAny (model prog w) A (isTrue ct (compEnvC scope cl C env) (eval ct (compEnvC scope cl C env))) (fun ok s' => if ok = true then
        wpAny (model prog w) A (eval elt (compEnvC scope cl C env)) (CompEnd h₀ L m { s with heap := h, toks := tk } I oI C oC D (lst ys) S (fun y news' => J (i + 1) (ys ++ [y]) news')) E' s'
        else CompEnd h₀ L m { s with heap := h, toks := tk } I oI C oC D (lst ys) S (fun _ news' => J (i + 1) ys news') Value.none s') E' { s with heap := h, toks := tk })
    (fin : ∀ ys news, J n ys news → Fin ys news) :
    ∀ k i ys news, i + k = n → J i ys news → CompRestT prog w A h₀ L m env ct elt x scope cl s S Pv Fin k i ys news := by
  intro k
  induction k with
  | zero => intro i ys news e hJ; exact CompRestT.zero (fin _ _ (by rw [← e]; exact hJ))
  | succ k ih =>
    intro i ys news e hJ
    refine CompRestT.succ fun v I oI C oC D m₂ h tk E' hv hC hx F N off ne => ?_
    refine wpAny_mono (turn i ys news v I oI C oC D m₂ h tk E' (by omega) hJ hv hC hx F N off ne) (fun ok s₂ q => ?_) fun _ _ e => e
    cases ok with
    | true =>
      simp only [if_true] at q ⊢
      exact wpAny_mono q (fun y s₃ q => CompEnd.mono q fun nw r => ih (i + 1) _ _ (by omega) r) fun _ _ e => e
    | false =>
      simp only [Bool.false_eq_true, if_false] at q ⊢
      exact CompEnd.mono q fun nw r => ih (i + 1) _ _ (by omega) r
end comps
section rules
variable {prog : Program} {w : World} {A : Around} {E : Value → Shared → Prop} {s : Shared} {h₀ : Heap} {L l D : Addr} {m : Str → Option Value} {news news' : List (Addr × Obj)}
theorem len_own {us : List Value} {n : Nat} {Q : Value → Shared → Prop} (N : News h₀ L s.heap news) (hm : (l, listOf us.toArray n) ∈ news) (hfit : (us.length : Int) < 2 ^ 63)
    (h : Q (.int (us.length : Int) (s.toks + 1)) { s with toks := s.toks + 1 + 1 }) : wpAny (model prog w) A (call (.builtin "len") [.ref l]) Q E s := by
  have hl : s.heap.IsList l us.toArray := ⟨_, (N _ hm).1, rfl, n, rfl⟩
  have e : us.toArray.size = us.length := by rw [List.size_toArray]
  exact len_list hl (by rw [e]; exact hfit) (by rw [e]; exact h)
theorem getItem_own {us : List Value} {n : Nat} {k : Int} {u : Tok} {Q : Value → Shared → Prop} (N : News h₀ L s.heap news) (hm : (l, listOf us.toArray n) ∈ news)
    (h0 : 0 ≤ k) (h1 : k < (us.length : Int)) (hfit : k < 2 ^ 63) (h : Q (us.getD k.toNat .none) s) : wpAny (model prog w) A (getItem (.ref l) (.int k u)) Q E s := by
  have hk : k.toNat < us.length := by omega
  have hl : s.heap.IsList l us.toArray := ⟨_, (N _ hm).1, rfl, n, rfl⟩
  exact wpAny_getItem_list hl h0 hfit (x := us.getD k.toNat .none) (by simp [hk]) h
theorem item_own {value slice : PySem.Expr} {us : List Value} {n : Nat} {k : Int} {u : Tok} {Q : Value → Shared → Prop} (N : News h₀ L s.heap news) (hm : (l, listOf us.toArray n) ∈ news)
    (h0 : 0 ≤ k) (h1 : k < (us.length : Int)) (hfit : k < 2 ^ 63) (h : Q (us.getD k.toNat .none) s)
    (hs : subscripted slice false (.ref l) (.int k u) = operate [.ref l, .int k u] (getItem (.ref l) (.int k u)) := by with_unfolding_all rfl) :
    wpAny (model prog w) A (subscriptTail value slice (.ref l) (.int k u)) Q E s := by
  have hl : s.heap.IsList l us.toArray := ⟨_, (N _ hm).1, rfl, n, rfl⟩
  exact tail_any hl.typeIs slot_list_getitem.lookup (getItem_own N hm h0 h1 hfit h) hs
theorem item_at {value slice : PySem.Expr} {us : List Value} {n j : Nat} {u : Tok} {v : Value} {Q : Value → Shared → Prop} (N : News h₀ L s.heap news) (hm : (l, listOf us.toArray n) ∈ news)
    (hx : us[j]? = some v) (hfit : j < 2 ^ 62) (h : Q v s)
    (hs : subscripted slice false (.ref l) (.int (j : Int) u) = operate [.ref l, .int (j : Int) u] (getItem (.ref l) (.int (j : Int) u)) := by with_unfolding_all rfl) :
    wpAny (model prog w) A (subscriptTail value slice (.ref l) (.int (j : Int) u)) Q E s := by
  have hl : s.heap.IsList l us.toArray := ⟨_, (N _ hm).1, rfl, n, rfl⟩
  exact tail_any hl.typeIs slot_list_getitem.lookup (wpAny_getItem_list hl (by omega) (by omega) (by simpa using hx) h) hs
theorem append_own {us : List Value} {n : Nat} {y : Value} {Q : Value → Shared → Prop} (F : Fr h₀ L s.heap m) (N : News h₀ L s.heap news) (U : Upd D (listOf us.toArray n) (listOf (us ++ [y]).toArray (n + 1)) news news') (hsz : us.length ≤ sizeLine)
    (h : ∀ h', Fr h₀ L h' m → News h₀ L h' news' → Q .none { s with heap := h' }) : wpAny (model prog w) A (call (.builtin "list.append") [.ref D, y]) Q E s :=
  append_K F N (by rw [List.push_toArray]; exact U) h (by rw [List.size_toArray]; exact hsz)
theorem copy_own {us : List Value} {n : Nat} {Q : Value → Shared → Prop} (F : Fr h₀ L s.heap m) (N : News h₀ L s.heap news) (hm : (l, listOf us.toArray n) ∈ news) (hsz : us.length ≤ sizeLine)
    (h : ∀ D c h', Fr h₀ L h' m → News h₀ L h' ((D, listOf us.toArray c) :: news) → (∀ q ∈ news, q.1 < D) → Q (.ref D) { s with heap := h' }) : wpAny (model prog w) A (call (.type "list") [.ref l]) Q E s :=
  list_copyK F N ⟨_, (N _ hm).1, rfl, n, rfl⟩ h (by rw [List.size_toArray]; exact hsz)
end rules

/-- a place: None, or an int from 0 on -/
inductive OI : Value → Option Nat → Prop
  | none : OI Value.none Option.none
  | int (k : Nat) (t : Tok) : OI (Value.int (k : Int) t) (Option.some k)
/-- a text -/
inductive SR : Value → Str → Prop
  | str (x : Str) (t : Tok) : SR (Value.str x t) x

theorem pget {α β : Type} {R : α → β → Prop} {l₁ : List α} {l₂ : List β} (h : Paired R l₁ l₂) : ∀ {i : Nat} {x : α}, l₁[i]? = some x → ∃ y, l₂[i]? = some y ∧ R x y := by
  induction h with
  | nil => intro i x e; simp at e
  | cons hd tl ih =>
    intro i x e
    cases i with
    | zero => simp at e; subst e; exact ⟨_, by simp, hd⟩
    | succ i => simp at e ⊢; exact ih e
theorem take_map_succ {α β : Type} (g : α → β) {l : List α} {i : Nat} {x : α} (h : l[i]? = some x) : (l.take (i + 1)).map g = (l.take i).map g ++ [g x] := by
  rw [List.take_add_one, h, List.map_append]; rfl
theorem not_mem_one {p : Addr × Obj} {a : Addr} (h : p.1 ∉ [a]) : p.1 ≠ a := fun e => h (by rw [e]; exact List.mem_singleton.mpr rfl)
theorem off_one {nx : List (Addr × Obj)} {a : Addr} (h : ∀ p ∈ nx, p.1 ∉ [a]) : ∀ p ∈ nx, p.1 ≠ a := fun p hp => not_mem_one (h p hp)
theorem off_one' {nx : List (Addr × Obj)} {a : Addr} (h : ∀ p ∈ nx, p.1 < a) : ∀ p ∈ nx, p.1 ∉ [a] := fun p hp e => Nat.lt_irrefl _ ((List.mem_singleton.mp e) ▸ h p hp)
theorem off_of {nx : List (Addr × Obj)} {a : Addr} (h : ∀ p ∈ nx, p.1 ≠ a) : ∀ p ∈ nx, p.1 ∉ [a] := fun p hp e => h p hp (List.mem_singleton.mp e)
theorem ne_of_lts {nx : List (Addr × Obj)} {d a : Addr} (h : ∀ p ∈ nx, p.1 < d) (hd : @LE.le Nat _ d a) : ∀ p ∈ nx, p.1 ≠ a := fun p hp e => Nat.lt_irrefl _ (Nat.lt_of_lt_of_le (e ▸ h p hp) hd)
theorem lt_of_lts {nx : List (Addr × Obj)} {d a : Addr} (h : ∀ p ∈ nx, p.1 < d) (hd : @LE.le Nat _ d a) : ∀ p ∈ nx, p.1 < a := fun p hp => Nat.lt_of_lt_of_le (h p hp) hd
theorem news_cons {h₀ h : Heap} {L : Addr} {p : Addr × Obj} {all r : List (Addr × Obj)} (N : News h₀ L h all) (hm : p ∈ all) (hr : News h₀ L h r) : News h₀ L h (p :: r) := fun q hq => by
  rcases List.mem_cons.mp hq with rfl | hq
  · exact N _ hm
  · exact hr q hq
theorem news_swap {h₀ h : Heap} {L : Addr} {a b : Addr × Obj} {r : List (Addr × Obj)} (N : News h₀ L h (a :: b :: r)) : News h₀ L h (b :: a :: r) := fun p hp => N p (by
  rcases List.mem_cons.mp hp with rfl | hp
  · exact .tail _ (.head _)
  · rcases List.mem_cons.mp hp with rfl | hp
    · exact .head _
    · exact .tail _ (.tail _ hp))
theorem rs_nat (n : Nat) : Builtin.Range.rangeSize 0 (n : Int) 1 = ((n : Nat) : Int) := by rw [rangeSize_nat]; simp
theorem off1_all {D : Addr} : ∀ {l : List (Addr × Obj)}, LCg.Off1 D l → ∀ p ∈ l, p.1 ≠ D
  | [], _, _, h => nomatch h
  | _ :: _, x, p, h => by
    rcases List.mem_cons.mp h with rfl | h
    · exact x.1
    · exact off1_all x.2 p h
theorem off1_of {D : Addr} : ∀ {l : List (Addr × Obj)}, (∀ p ∈ l, p.1 ≠ D) → LCg.Off1 D l
  | [], _ => trivial
  | _ :: _, h => ⟨h _ List.mem_cons_self, off1_of fun p hp => h p (List.mem_cons_of_mem _ hp)⟩
theorem ne_of_lt_all {D : Addr} {l : List (Addr × Obj)} (h : ∀ p ∈ l, p.1 < D) : ∀ p ∈ l, p.1 ≠ D := fun p hp e => Nat.lt_irrefl _ (e ▸ h p hp)
theorem rs_max (n k : Nat) : Builtin.Range.rangeSize 0 (if (k : Int) > (n : Int) then (k : Int) else (n : Int)) 1 = ((max n k : Nat) : Int) := by rw [rangeSize_nat]; split <;> omega
theorem sizeLine_big {n : Nat} (h : n ≤ 1000000) : n ≤ sizeLine := by rw [PySem.sizeLine_eq]; omega

/-- the dict of a Vector -/
abbrev vecD (P : Params) (kind it att : Value) (k : Nat → Tok) : Obj := dictOf [
  ⟨PyData.keyHash P (Str.ofString "kind"), .str (Str.ofString "kind") (k 0), kind⟩,
  ⟨PyData.keyHash P (Str.ofString "items"), .str (Str.ofString "items") (k 1), it⟩,
  ⟨PyData.keyHash P (Str.ofString "attrs"), .str (Str.ofString "attrs") (k 2), att⟩,
  ⟨PyData.keyHash P (Str.ofString "shared"), .str (Str.ofString "shared") (k 3), .bool false⟩,
  ⟨PyData.keyHash P (Str.ofString "loose"), .str (Str.ofString "loose") (k 4), .bool false⟩] 5
theorem kstB_off {base : Str → Option Value} {z : Str} : ∀ {ps : List (Str × Value)}, (∀ p ∈ ps, z ≠ p.1) → kstB base ps z = base z
  | [], _ => rfl
  | p :: r, h => by
    show (if z = p.1 then some p.2 else kstB base r z) = base z
    rw [if_neg (h p (.head _))]
    exact kstB_off fun q hq => h q (.tail _ hq)
theorem lp_same1 {x : Str} {u m₀ : Str → Option Value} {stored : List Str} {ps ps' : List (Str × Value)} (hps : ps'.map (·.1) = ps.map (·.1)) : ∀ z, z ≠ x → (∀ p ∈ ps, z ≠ p.1) → stored.contains z = false →
    kstB (fun z => if stored.contains z then u z else m₀ z) ps' z = m₀ z := fun z h1 h2 h3 => by
  rw [kstB_off (fun p hp e => ?_), h3]
  · rfl
  · have : p.1 ∈ ps.map (·.1) := hps ▸ List.mem_map.mpr ⟨p, hp, rfl⟩
    obtain ⟨q, hq, e'⟩ := List.mem_map.mp this
    exact h2 q hq (e.trans e'.symm)
theorem lp_sameX {x : Str} {v : Str → Option Value} {f m₀ : Str → Option Value} {stored : List Str} {ps : List (Str × Value)} (h : ∀ z, z ≠ x → (∀ p ∈ ps, z ≠ p.1) → stored.contains z = false → f z = m₀ z) :
    ∀ z, z ≠ x → (∀ p ∈ ps, z ≠ p.1) → stored.contains z = false → (if z = x then v z else f z) = m₀ z := fun z h1 h2 h3 => by
  rw [if_neg h1]; exact h z h1 h2 h3
theorem lp_sameN {x : Str} {v : Str → Option Value} {f m₀ : Str → Option Value} {stored : List Str} {ps : List (Str × Value)} (h : ∀ z, z ≠ x → (∀ p ∈ ps, z ≠ p.1) → stored.contains z = false → f z = m₀ z) :
    ∀ z, z ≠ x → (∀ p ∈ ps, z ≠ p.1) → stored.contains z = false → (if ([] : List Str).contains z = true then v z else f z) = m₀ z := fun z h1 h2 h3 => by
  rw [if_neg (by simp)]; exact h z h1 h2 h3
theorem lp_offC {z y : Str} {stored : List Str} {ps : List (Str × Value)} (hy : (stored ++ ps.map (·.1)).contains y = true) (h2 : ∀ p ∈ ps, z ≠ p.1) (h3 : stored.contains z = false) : z ≠ y := fun e => by
  subst e
  rcases List.mem_append.mp (List.contains_iff_mem.mp hy) with hm | hm
  · rw [List.contains_iff_mem.mpr hm] at h3; cases h3
  · obtain ⟨q, hq, e'⟩ := List.mem_map.mp hm
    exact h2 q hq e'.symm
theorem lp_sameC {x y : Str} {v : Str → Option Value} {f m₀ : Str → Option Value} {stored : List Str} {ps : List (Str × Value)} (hy : (stored ++ ps.map (·.1)).contains y = true) (h : ∀ z, z ≠ x → (∀ p ∈ ps, z ≠ p.1) → stored.contains z = false → f z = m₀ z) :
    ∀ z, z ≠ x → (∀ p ∈ ps, z ≠ p.1) → stored.contains z = false → (if z = y then v z else f z) = m₀ z := fun z h1 h2 h3 => by
  rw [if_neg (lp_offC hy h2 h3)]; exact h z h1 h2 h3
theorem lp_sameK {x : Str} {f m₀ : Str → Option Value} {stored : List Str} {ps ps' : List (Str × Value)} (hy : (ps'.map (·.1)).all (fun y => (stored ++ ps.map (·.1)).contains y) = true) (h : ∀ z, z ≠ x → (∀ p ∈ ps, z ≠ p.1) → stored.contains z = false → f z = m₀ z) :
    ∀ z, z ≠ x → (∀ p ∈ ps, z ≠ p.1) → stored.contains z = false → kstB f ps' z = m₀ z := fun z h1 h2 h3 => by
  rw [kstB_off (fun p hp => lp_offC (List.all_eq_true.mp hy _ (List.mem_map.mpr ⟨p, hp, rfl⟩)) h2 h3)]
  exact h z h1 h2 h3
/-- the attrs dict of a named Vector -/
abbrev attD (P : Params) (nv : Addr) (t : Tok) : Obj := dictOf [⟨PyData.keyHash P (Str.ofString "names"), .str (Str.ofString "names") t, .ref nv⟩] 1
section
open LCg LCt
variable {prog : Program} {w : World} {A : Around} {E : Value → Shared → Prop} {s : Shared} {h₀ : Heap} {L : Addr} {m : Str → Option Value} {env : Env}
/-- the cards lie in the ledger between pre and post -/
def CardsAt (pre : List (Addr × Obj)) (c : Addr) (post nx : List (Addr × Obj)) : Prop :=
  ∃ vs ns n, nx = pre ++ (c, listOf vs.toArray n) :: post ∧ IntsAre vs ns ∧ ns.length ≤ 140
theorem cr_cards {elt : Expr} {x : Str} {scope : Scope} {cl : List (Str × Addr)} {S : List (Addr × Obj) → Prop} {Pv : Nat → Value → Prop} {Fin : List Value → List (Addr × Obj) → Prop} {n : Nat} {vs₀ : List Value} {ns₀ : List Int} {n₀ : Nat} {c : Addr} (pre post : List (Addr × Obj)) (P : Nat → List Value → Prop)
    (hI₀ : IntsAre vs₀ ns₀) (hl₀ : ns₀.length ≤ 140) (hP : P 0 [])
    (turn : ∀ i ys v I oI C oC D m₂ h tk (E' : Value → Shared → Prop) vs ns k, i < n → P i ys → Pv i v → IntsAre vs ns → ns.length ≤ 140 → NsObj oC m₂ → m₂ x = some v → Fr h₀ L h m → News h₀ L h ((I, oI) :: (C, oC) :: (D, lst ys) :: (pre ++ (c, listOf vs.toArray k) :: post)) → (∀ k, Off3 I C D (pre ++ (c, listOf vs.toArray k) :: post)) → ((@Ne Nat I C) ∧ (@Ne Nat I D) ∧ (@Ne Nat C D)) → ((@Ne Nat c I) ∧ (@Ne Nat c C) ∧ (@Ne Nat c D)) → (∀ vs' k', Off3 I C D (pre ++ (c, listOf vs' k') :: post)) →
      wpAny (model prog w) A (eval elt (compEnvC scope cl C env)) (CompEnd h₀ L m { s with heap := h, toks := tk } I oI C oC D (lst ys) S (fun y news' => CardsAt pre c post news' ∧ P (i + 1) (ys ++ [y]))) E' { s with heap := h, toks := tk })
    (fin : ∀ ys vs ns k, P n ys → IntsAre vs ns → ns.length ≤ 140 → Fin ys (pre ++ (c, listOf vs.toArray k) :: post)) :
    CompRest prog w A h₀ L m env elt x scope cl s S Pv Fin n 0 [] (pre ++ (c, listOf vs₀.toArray n₀) :: post) := by
  refine cr_of (n := n) (fun i ys nx => CardsAt pre c post nx ∧ P i ys) ?_ ?_ n 0 [] _ (Nat.zero_add _) ⟨⟨_, _, _, rfl, hI₀, hl₀⟩, hP⟩
  · rintro i ys nx v I oI C oC D m₂ h tk E' hi ⟨⟨vs, ns, k, rfl, hI, hl⟩, hP⟩ hv hC hx F N off ne
    have hoff : ∀ vs' k', Off3 I C D (pre ++ (c, listOf vs' k') :: post) := fun vs' k' => Off3.of fun p hp => by
      rcases List.mem_append.mp hp with hp | hp
      · exact off.mem p (List.mem_append.mpr (.inl hp))
      · rcases List.mem_cons.mp hp with rfl | hp
        · exact off.mem (c, listOf vs.toArray k) (List.mem_append.mpr (.inr List.mem_cons_self))
        · exact off.mem p (List.mem_append.mpr (.inr (List.mem_cons_of_mem _ hp)))
    exact turn i ys v I oI C oC D m₂ h tk E' vs ns k hi hP hv hI hl hC hx F N (fun k => hoff _ k) ne (off.mem (c, listOf vs.toArray k) (List.mem_append.mpr (.inr List.mem_cons_self))) hoff
  · rintro ys nx ⟨⟨vs, ns, k, rfl, hI, hl⟩, hP⟩
    exact fin ys vs ns k hP hI hl
end
section
variable {prog : Program} {w : World} {A : Around} {E : Value → Shared → Prop} {s : Shared} {h₀ : Heap} {L l D : Addr} {news : List (Addr × Obj)}
theorem notin_own {us : List Value} {ns : List Int} {n : Nat} {k : Int} {t : Tok} {Q : Value → Shared → Prop} (N : News h₀ L s.heap news) (hm : (l, listOf us.toArray n) ∈ news) (hI : IntsAre us ns)
    (h : Q (.bool (!(ns.any (· == k)))) s) : wpAny (model prog w) A (compareOp .NotIn (.int k t) (.ref l)) Q E s :=
  notin_list_ints ⟨_, (N _ hm).1, rfl, n, rfl⟩ hI h
end
def datO : Option Nat → Dat
  | none => Dat.none
  | some k => Dat.int (k : Int)
theorem datAll_oi {n : List (Addr × Obj)} {vs : List Value} {ts : List (Option Nat)} (h : Paired OI vs ts) : DatAll n vs (ts.map datO) := by
  induction h with
  | nil => exact .nil
  | cons hd tl ih =>
    refine .cons ?_ ih
    cases hd with
    | none => exact .none
    | int k t => exact .int _ t
theorem ok_datO (ts : List (Option Nat)) : ∀ d ∈ ts.map datO, kqdOk 8 d = true := by
  intro d hd
  obtain ⟨x, _, rfl⟩ := List.mem_map.mp hd
  cases x <;> rfl
theorem any_cast (ks : List Nat) (i : Nat) : (ks.map fun k : Nat => (k : Int)).any (· == (i : Int)) = ks.contains i := by
  induction ks with
  | nil => rfl
  | cons k r ih =>
    rw [List.map_cons, List.any_cons, ih, List.contains_cons]
    congr 1
    by_cases h : k = i
    · subst h; simp
    · have : ¬ ((k : Int) = (i : Int)) := by omega
      have h' : ¬ i = k := fun e => h e.symm
      show ((k : Int) == (i : Int)) = (i == k)
      rw [beq_eq_false_iff_ne.mpr this, beq_eq_false_iff_ne.mpr h']
theorem intsAre_snoc {vs : List Value} {ks : List Nat} (h : IntsAre vs (ks.map fun k : Nat => (k : Int))) (k : Nat) (t : Tok) : IntsAre (vs ++ [.int (k : Int) t]) ((ks ++ [k]).map fun k : Nat => (k : Int)) := by
  rw [List.map_append]; exact h.append (.cons _ _ .nil)
theorem dict3 {r : Nat} (h : (r : Int) < 3) (t₁ t₂ : Tok) : ∃ o, OI (([Value.int 1 t₁, Value.int 0 t₂, Value.none] : List Value).getD ((r : Int)).toNat .none) o := by
  have h : r < 3 := by omega
  match r, h with
  | 0, _ => exact ⟨some 1, .int 1 t₁⟩
  | 1, _ => exact ⟨some 0, .int 0 t₂⟩
  | 2, _ => exact ⟨none, .none⟩
/-- the i-th statement of the text; the j-th of a class -/
noncomputable def hd.at1 (i : Nat) : Option Stmt := PySem.Challenge.pw_pq1395_01.main.body[i]?
noncomputable def hd.inner : Stmt → List Stmt
  | .ClassDef _ _ _ b _ _ _ _ _ _ _ => b
  | _ => []
noncomputable def hd.at2 (i j : Nat) : Option Stmt := match hd.at1 i with
  | some s => (hd.inner s)[j]?
  | none => none
noncomputable def hd.parts : Option Stmt → Option (Arguments × List Stmt × Scope)
  | some (.FunctionDef _ a b _ _ _ sc _ _ _) => some (a, b, sc)
  | _ => none
/-- a def of the text as the heap bears it -/
noncomputable abbrev hd.fnO {o : Option Stmt} {pr : Arguments} {b : List Stmt} {sc : Scope} (h0 : hd.parts o = some (pr, b, sc)) (n q : Str) (g : Addr) (cl : List (Str × Addr)) (df kd doc md : Value) (an : Option Addr) (cd ct : Value) (bt : Addr) : Data :=
  .func (FuncData.mk n q pr (.stmts b) sc g cl df kd doc md an cd ct bt)
noncomputable def hd.view_39 : Program := view PySem.Challenge.pw_pq1395_01 [0, 2, 3, 4, 5, 7, 8, 10, 11, 13, 14, 15, 16, 17, 18, 19, 21, 22, 23, 24, 26, 27, 28, 29, 30, 32, 33, 34, 35]
noncomputable def hd.heap_39 : Params → Frag := fun P =>
  (Prod.mk (nat_lit 2) (Obj.mk Value.none (Option.none) (Data.dict (List.toArray [(DictEntry.mk (PyData.keyHash P (Str.ofString "type.__subclasses__.Exception.0")) (Value.str (Str.ofString "type.__subclasses__.Exception.0") 242) (Value.int 55 0)), (DictEntry.mk (PyData.keyHash P (Str.ofString "type.__subclasses__.Exception.n")) (Value.str (Str.ofString "type.__subclasses__.Exception.n") 243) (Value.int 1 0))]) 2) (List.toArray []))) ::
  (Prod.mk (nat_lit 3) (Obj.mk (Value.type "dict") (Option.none) (Data.dict (List.toArray [(DictEntry.mk (PyData.keyHash P (Str.ofString "__name__")) (Value.str (Str.ofString "__name__") 165) (Value.str (Str.ofString "law_pq1395_01") 499)), (DictEntry.mk (PyData.keyHash P (Str.ofString "__doc__")) (Value.str (Str.ofString "__doc__") 166) Value.none), (DictEntry.mk (PyData.keyHash P (Str.ofString "__package__")) (Value.str (Str.ofString "__package__") 167) Value.none), (DictEntry.mk (PyData.keyHash P (Str.ofString "__loader__")) (Value.str (Str.ofString "__loader__") 168) (Value.builtin "__main__.__loader__#opaque")), (DictEntry.mk (PyData.keyHash P (Str.ofString "__spec__")) (Value.str (Str.ofString "__spec__") 169) Value.none), (DictEntry.mk (PyData.keyHash P (Str.ofString "__annotations__")) (Value.str (Str.ofString "__annotations__") 170) (Value.ref 6)), (DictEntry.mk (PyData.keyHash P (Str.ofString "__builtins__")) (Value.str (Str.ofString "__builtins__") 171) (Value.ref 4)), (DictEntry.mk (PyData.keyHash P (Str.ofString "__file__")) (Value.str (Str.ofString "__file__") 173) (Value.str (Str.ofString "/claim/cut.py") 172)), (DictEntry.mk (PyData.keyHash P (Str.ofString "__cached__")) (Value.str (Str.ofString "__cached__") 174) Value.none), (DictEntry.mk (PyData.keyHash P (Str.ofString "_wall")) (Value.str (Str.ofString "_wall") 193) (Value.ref 21)), (DictEntry.mk (PyData.keyHash P (Str.ofString "get_attr")) (Value.str (Str.ofString "get_attr") 203) (Value.ref 28)), (DictEntry.mk (PyData.keyHash P (Str.ofString "names_of")) (Value.str (Str.ofString "names_of") 209) (Value.ref 33)), (DictEntry.mk (PyData.keyHash P (Str.ofString "dim_of")) (Value.str (Str.ofString "dim_of") 217) (Value.ref 40)), (DictEntry.mk (PyData.keyHash P (Str.ofString "dimnames_of")) (Value.str (Str.ofString "dimnames_of") 223) (Value.ref 45)), (DictEntry.mk (PyData.keyHash P (Str.ofString "CoveError")) (Value.str (Str.ofString "CoveError") 245) (Value.ref 55)), (DictEntry.mk (PyData.keyHash P (Str.ofString "Refusal")) (Value.str (Str.ofString "Refusal") 270) (Value.ref 75)), (DictEntry.mk (PyData.keyHash P (Str.ofString "is_finite")) (Value.str (Str.ofString "is_finite") 279) (Value.ref 84)), (DictEntry.mk (PyData.keyHash P (Str.ofString "to_whole")) (Value.str (Str.ofString "to_whole") 287) (Value.ref 91)), (DictEntry.mk (PyData.keyHash P (Str.ofString "whole_subscripts")) (Value.str (Str.ofString "whole_subscripts") 298) (Value.ref 98)), (DictEntry.mk (PyData.keyHash P (Str.ofString "logical_places")) (Value.str (Str.ofString "logical_places") 310) (Value.ref 105)), (DictEntry.mk (PyData.keyHash P (Str.ofString "whole_places")) (Value.str (Str.ofString "whole_places") 316) (Value.ref 110)), (DictEntry.mk (PyData.keyHash P (Str.ofString "first_places")) (Value.str (Str.ofString "first_places") 326) (Value.ref 117)), (DictEntry.mk (PyData.keyHash P (Str.ofString "name_places")) (Value.str (Str.ofString "name_places") 337) (Value.ref 124)), (DictEntry.mk (PyData.keyHash P (Str.ofString "extending_places")) (Value.str (Str.ofString "extending_places") 351) (Value.ref 131)), (DictEntry.mk (PyData.keyHash P (Str.ofString "positions")) (Value.str (Str.ofString "positions") 362) (Value.ref 138)), (DictEntry.mk (PyData.keyHash P (Str.ofString "Null")) (Value.str (Str.ofString "Null") 393) (Value.ref 155)), (DictEntry.mk (PyData.keyHash P (Str.ofString "Vector")) (Value.str (Str.ofString "Vector") 435) (Value.ref 184)), (DictEntry.mk (PyData.keyHash P (Str.ofString "character")) (Value.str (Str.ofString "character") 442) (Value.ref 195)), (DictEntry.mk (PyData.keyHash P (Str.ofString "named")) (Value.str (Str.ofString "named") 450) (Value.ref 202)), (DictEntry.mk (PyData.keyHash P (Str.ofString "lacking_item")) (Value.str (Str.ofString "lacking_item") 459) (Value.ref 209)), (DictEntry.mk (PyData.keyHash P (Str.ofString "result_kind")) (Value.str (Str.ofString "result_kind") 466) (Value.ref 216)), (DictEntry.mk (PyData.keyHash P (Str.ofString "items_at")) (Value.str (Str.ofString "items_at") 477) (Value.ref 223)), (DictEntry.mk (PyData.keyHash P (Str.ofString "names_at")) (Value.str (Str.ofString "names_at") 487) (Value.ref 230)), (DictEntry.mk (PyData.keyHash P (Str.ofString "subset_vector")) (Value.str (Str.ofString "subset_vector") 498) (Value.ref 237)), (DictEntry.mk (PyData.keyHash P (Str.ofString "_law_cards")) (Value.str (Str.ofString "_law_cards") 511) (Value.ref 244)), (DictEntry.mk (PyData.keyHash P (Str.ofString "_law_card")) (Value.str (Str.ofString "_law_card") 519) (Value.ref 251)), (DictEntry.mk (PyData.keyHash P (Str.ofString "_law_index")) (Value.str (Str.ofString "_law_index") 525) (Value.ref 256)), (DictEntry.mk (PyData.keyHash P (Str.ofString "law")) (Value.str (Str.ofString "law") 531) (Value.ref 261))]) 38) (List.toArray []))) ::
  (Prod.mk (nat_lit 15) (Obj.mk (Value.type "tuple") (Option.none) (Data.seq (List.toArray []) 0) (List.toArray []))) ::
  (Prod.mk (nat_lit 17) (Obj.mk (Value.type "tuple") (Option.none) (Data.seq (List.toArray [(Value.str (Str.ofString "k") 190)]) 0) (List.toArray []))) ::
  (Prod.mk (nat_lit 18) (Obj.mk (Value.type "tuple") (Option.none) (Data.seq (List.toArray []) 0) (List.toArray []))) ::
  (Prod.mk (nat_lit 20) (Obj.mk (Value.type "code") (Option.none) (Data.fields (List.toArray [(Value.str (Str.ofString "_wall") 187), (Value.str (Str.ofString "_wall") 188), (Value.str (Str.ofString "/claim/cut.py") 189), (Value.int 1 0), (Value.int 1 0), (Value.int 0 0), (Value.int 0 0), (Value.int 3 0), (Value.ref 15), (Value.bool Bool.true), (Value.int 181 0), (Value.ref 16), Value.none, (Value.ref 17), (Value.ref 18), (Value.ref 19), (Value.int 191 0), (Value.int 1 0), (Value.str (Str.ofString "/claim/cut.py") 192)])) (List.toArray []))) ::
  (Prod.mk (nat_lit 21) (Obj.mk (Value.type "function") (Option.none) (hd.fnO (o := (hd.at1 0)) rfl (Str.ofString "_wall") (Str.ofString "_wall") 3 [] Value.none Value.none Value.none (Value.str (Str.ofString "__main__") 164) (Option.none) (Value.ref 20) Value.none 0) (List.toArray []))) ::
  (Prod.mk (nat_lit 22) (Obj.mk (Value.type "tuple") (Option.none) (Data.seq (List.toArray []) 0) (List.toArray []))) ::
  (Prod.mk (nat_lit 24) (Obj.mk (Value.type "tuple") (Option.none) (Data.seq (List.toArray [(Value.str (Str.ofString "v") 199), (Value.str (Str.ofString "name") 200)]) 0) (List.toArray []))) ::
  (Prod.mk (nat_lit 25) (Obj.mk (Value.type "tuple") (Option.none) (Data.seq (List.toArray []) 0) (List.toArray []))) ::
  (Prod.mk (nat_lit 27) (Obj.mk (Value.type "code") (Option.none) (Data.fields (List.toArray [(Value.str (Str.ofString "get_attr") 196), (Value.str (Str.ofString "get_attr") 197), (Value.str (Str.ofString "/claim/cut.py") 198), (Value.int 5 0), (Value.int 2 0), (Value.int 0 0), (Value.int 0 0), (Value.int 3 0), (Value.ref 22), (Value.bool Bool.true), (Value.int 181 0), (Value.ref 23), Value.none, (Value.ref 24), (Value.ref 25), (Value.ref 26), (Value.int 201 0), (Value.int 5 0), (Value.str (Str.ofString "/claim/cut.py") 202)])) (List.toArray []))) ::
  (Prod.mk (nat_lit 28) (Obj.mk (Value.type "function") (Option.none) (hd.fnO (o := (hd.at1 2)) rfl (Str.ofString "get_attr") (Str.ofString "get_attr") 3 [] Value.none Value.none Value.none (Value.str (Str.ofString "vectorcove.attrs") 194) (Option.none) (Value.ref 27) Value.none 0) (List.toArray []))) ::
  (Prod.mk (nat_lit 29) (Obj.mk (Value.type "tuple") (Option.none) (Data.seq (List.toArray []) 0) (List.toArray []))) ::
  (Prod.mk (nat_lit 32) (Obj.mk (Value.type "code") (Option.none) (Data.fields (List.toArray [(Value.str (Str.ofString "names_of") 204), (Value.str (Str.ofString "names_of") 205), (Value.str (Str.ofString "/claim/cut.py") 206), (Value.int 9 0), (Value.int 1 0), (Value.int 0 0), (Value.int 0 0), (Value.int 3 0), (Value.ref 29), (Value.bool Bool.true), (Value.int 181 0), (Value.ref 30), Value.none, Value.none, Value.none, (Value.ref 31), (Value.int 207 0), (Value.int 9 0), (Value.str (Str.ofString "/claim/cut.py") 208)])) (List.toArray []))) ::
  (Prod.mk (nat_lit 33) (Obj.mk (Value.type "function") (Option.none) (hd.fnO (o := (hd.at1 3)) rfl (Str.ofString "names_of") (Str.ofString "names_of") 3 [] Value.none Value.none Value.none (Value.str (Str.ofString "vectorcove.attrs") 194) (Option.none) (Value.ref 32) Value.none 0) (List.toArray []))) ::
  (Prod.mk (nat_lit 34) (Obj.mk (Value.type "tuple") (Option.none) (Data.seq (List.toArray []) 0) (List.toArray []))) ::
  (Prod.mk (nat_lit 36) (Obj.mk (Value.type "tuple") (Option.none) (Data.seq (List.toArray [(Value.str (Str.ofString "v") 213), (Value.str (Str.ofString "dims") 214)]) 0) (List.toArray []))) ::
  (Prod.mk (nat_lit 37) (Obj.mk (Value.type "tuple") (Option.none) (Data.seq (List.toArray []) 0) (List.toArray []))) ::
  (Prod.mk (nat_lit 39) (Obj.mk (Value.type "code") (Option.none) (Data.fields (List.toArray [(Value.str (Str.ofString "dim_of") 210), (Value.str (Str.ofString "dim_of") 211), (Value.str (Str.ofString "/claim/cut.py") 212), (Value.int 25 0), (Value.int 1 0), (Value.int 0 0), (Value.int 0 0), (Value.int 3 0), (Value.ref 34), (Value.bool Bool.true), (Value.int 181 0), (Value.ref 35), Value.none, (Value.ref 36), (Value.ref 37), (Value.ref 38), (Value.int 215 0), (Value.int 25 0), (Value.str (Str.ofString "/claim/cut.py") 216)])) (List.toArray []))) ::
  (Prod.mk (nat_lit 40) (Obj.mk (Value.type "function") (Option.none) (hd.fnO (o := (hd.at1 4)) rfl (Str.ofString "dim_of") (Str.ofString "dim_of") 3 [] Value.none Value.none Value.none (Value.str (Str.ofString "vectorcove.attrs") 194) (Option.none) (Value.ref 39) Value.none 0) (List.toArray []))) ::
  (Prod.mk (nat_lit 41) (Obj.mk (Value.type "tuple") (Option.none) (Data.seq (List.toArray []) 0) (List.toArray []))) ::
  (Prod.mk (nat_lit 44) (Obj.mk (Value.type "code") (Option.none) (Data.fields (List.toArray [(Value.str (Str.ofString "dimnames_of") 218), (Value.str (Str.ofString "dimnames_of") 219), (Value.str (Str.ofString "/claim/cut.py") 220), (Value.int 30 0), (Value.int 1 0), (Value.int 0 0), (Value.int 0 0), (Value.int 3 0), (Value.ref 41), (Value.bool Bool.true), (Value.int 181 0), (Value.ref 42), Value.none, Value.none, Value.none, (Value.ref 43), (Value.int 221 0), (Value.int 30 0), (Value.str (Str.ofString "/claim/cut.py") 222)])) (List.toArray []))) ::
  (Prod.mk (nat_lit 45) (Obj.mk (Value.type "function") (Option.none) (hd.fnO (o := (hd.at1 5)) rfl (Str.ofString "dimnames_of") (Str.ofString "dimnames_of") 3 [] Value.none Value.none Value.none (Value.str (Str.ofString "vectorcove.attrs") 194) (Option.none) (Value.ref 44) Value.none 0) (List.toArray []))) ::
  (Prod.mk (nat_lit 46) (Obj.mk (Value.type "tuple") (Option.none) (Data.seq (List.toArray [(Value.type "Exception")]) 0) (List.toArray []))) ::
  (Prod.mk (nat_lit 53) (Obj.mk (Value.type "tuple") (Option.none) (Data.seq (List.toArray []) 0) (List.toArray []))) ::
  (Prod.mk (nat_lit 54) (Obj.mk (Value.type "dict") (Option.none) (Data.dict (List.toArray [(DictEntry.mk (PyData.keyHash P (Str.ofString "__module__")) (Value.str (Str.ofString "__module__") 233) (Value.str (Str.ofString "vectorcove.errors") 224)), (DictEntry.mk (PyData.keyHash P (Str.ofString "__firstlineno__")) (Value.str (Str.ofString "__firstlineno__") 237) (Value.int 36 236)), (DictEntry.mk (PyData.keyHash P (Str.ofString "__static_attributes__")) (Value.str (Str.ofString "__static_attributes__") 238) (Value.ref 53)), (DictEntry.mk (PyData.keyHash P (Str.ofString "__weakref__")) (Value.str (Str.ofString "__weakref__") 240) (Value.ref 56)), (DictEntry.mk (PyData.keyHash P (Str.ofString "__doc__")) (Value.str (Str.ofString "__doc__") 241) Value.none)]) 3) (List.toArray []))) ::
  (Prod.mk (nat_lit 55) (Obj.mk (Value.type "type") (Option.none) (Data.cls (ClassData.mk (Str.ofString "CoveError") [(Value.type "Exception")] [(Value.ref 55), (Value.type "Exception"), (Value.type "BaseException"), (Value.type "object")] 54 (Str.ofString "CoveError") Bool.true [] [(Value.ref 75)] Bool.false (Option.none) Bool.false)) (List.toArray [(Option.some (Value.ref 46)), (Option.none), (Option.some (Value.str (Str.ofString "CoveError") 226)), (Option.some (Value.str (Str.ofString "CoveError") 234)), (Option.some (Value.builtin "Exception.__new__")), (Option.some (Value.bool Bool.true))]))) ::
  (Prod.mk (nat_lit 56) (Obj.mk (Value.type "getset_descriptor") (Option.none) (Data.fields (List.toArray [(Value.str (Str.ofString "__weakref__") 239), (Value.ref 55), (Value.builtin "ExceptionGroup.__weakref__"), Value.none])) (List.toArray []))) ::
  (Prod.mk (nat_lit 59) (Obj.mk (Value.type "tuple") (Option.none) (Data.seq (List.toArray [(Value.ref 55)]) 0) (List.toArray []))) ::
  (Prod.mk (nat_lit 66) (Obj.mk (Value.type "tuple") (Option.none) (Data.seq (List.toArray []) 0) (List.toArray []))) ::
  (Prod.mk (nat_lit 68) (Obj.mk (Value.type "tuple") (Option.none) (Data.seq (List.toArray [(Value.str (Str.ofString "self") 261), (Value.str (Str.ofString "message") 262)]) 0) (List.toArray []))) ::
  (Prod.mk (nat_lit 69) (Obj.mk (Value.type "tuple") (Option.none) (Data.seq (List.toArray []) 0) (List.toArray []))) ::
  (Prod.mk (nat_lit 71) (Obj.mk (Value.type "code") (Option.none) (Data.fields (List.toArray [(Value.str (Str.ofString "__init__") 258), (Value.str (Str.ofString "Refusal.__init__") 259), (Value.str (Str.ofString "/claim/cut.py") 260), (Value.int 40 0), (Value.int 2 0), (Value.int 0 0), (Value.int 0 0), (Value.int 3 0), (Value.ref 66), (Value.bool Bool.true), (Value.int 181 0), (Value.ref 67), Value.none, (Value.ref 68), (Value.ref 69), (Value.ref 70), (Value.int 263 0), (Value.int 40 0), (Value.str (Str.ofString "/claim/cut.py") 264)])) (List.toArray []))) ::
  (Prod.mk (nat_lit 72) (Obj.mk (Value.type "function") (Option.none) (hd.fnO (o := (hd.at2 8 0)) rfl (Str.ofString "__init__") (Str.ofString "Refusal.__init__") 3 [] Value.none Value.none Value.none (Value.str (Str.ofString "vectorcove.errors") 224) (Option.none) (Value.ref 71) Value.none 0) (List.toArray []))) ::
  (Prod.mk (nat_lit 73) (Obj.mk (Value.type "tuple") (Option.none) (Data.seq (List.toArray [(Value.str (Str.ofString "message") 266)]) 0) (List.toArray []))) ::
  (Prod.mk (nat_lit 74) (Obj.mk (Value.type "dict") (Option.none) (Data.dict (List.toArray [(DictEntry.mk (PyData.keyHash P (Str.ofString "__module__")) (Value.str (Str.ofString "__module__") 253) (Value.str (Str.ofString "vectorcove.errors") 224)), (DictEntry.mk (PyData.keyHash P (Str.ofString "__firstlineno__")) (Value.str (Str.ofString "__firstlineno__") 257) (Value.int 38 256)), (DictEntry.mk (PyData.keyHash P (Str.ofString "__init__")) (Value.str (Str.ofString "__init__") 265) (Value.ref 72)), (DictEntry.mk (PyData.keyHash P (Str.ofString "__static_attributes__")) (Value.str (Str.ofString "__static_attributes__") 267) (Value.ref 73)), (DictEntry.mk (PyData.keyHash P (Str.ofString "__doc__")) (Value.str (Str.ofString "__doc__") 268) Value.none)]) 2) (List.toArray []))) ::
  (Prod.mk (nat_lit 75) (Obj.mk (Value.type "type") (Option.none) (Data.cls (ClassData.mk (Str.ofString "Refusal") [(Value.ref 55)] [(Value.ref 75), (Value.ref 55), (Value.type "Exception"), (Value.type "BaseException"), (Value.type "object")] 74 (Str.ofString "Refusal") Bool.true [] [] Bool.false (Option.none) Bool.false)) (List.toArray [(Option.some (Value.ref 59)), (Option.none), (Option.some (Value.str (Str.ofString "Refusal") 246)), (Option.some (Value.str (Str.ofString "Refusal") 254)), (Option.some (Value.builtin "Exception.__new__")), (Option.some (Value.bool Bool.true))]))) ::
  (Prod.mk (nat_lit 78) (Obj.mk (Value.type "tuple") (Option.none) (Data.seq (List.toArray []) 0) (List.toArray []))) ::
  (Prod.mk (nat_lit 80) (Obj.mk (Value.type "tuple") (Option.none) (Data.seq (List.toArray [(Value.str (Str.ofString "x") 276)]) 0) (List.toArray []))) ::
  (Prod.mk (nat_lit 81) (Obj.mk (Value.type "tuple") (Option.none) (Data.seq (List.toArray []) 0) (List.toArray []))) ::
  (Prod.mk (nat_lit 83) (Obj.mk (Value.type "code") (Option.none) (Data.fields (List.toArray [(Value.str (Str.ofString "is_finite") 273), (Value.str (Str.ofString "is_finite") 274), (Value.str (Str.ofString "/claim/cut.py") 275), (Value.int 43 0), (Value.int 1 0), (Value.int 0 0), (Value.int 0 0), (Value.int 3 0), (Value.ref 78), (Value.bool Bool.true), (Value.int 181 0), (Value.ref 79), Value.none, (Value.ref 80), (Value.ref 81), (Value.ref 82), (Value.int 277 0), (Value.int 43 0), (Value.str (Str.ofString "/claim/cut.py") 278)])) (List.toArray []))) ::
  (Prod.mk (nat_lit 84) (Obj.mk (Value.type "function") (Option.none) (hd.fnO (o := (hd.at1 10)) rfl (Str.ofString "is_finite") (Str.ofString "is_finite") 3 [] Value.none Value.none Value.none (Value.str (Str.ofString "vectorcove.rational") 271) (Option.none) (Value.ref 83) Value.none 0) (List.toArray []))) ::
  (Prod.mk (nat_lit 85) (Obj.mk (Value.type "tuple") (Option.none) (Data.seq (List.toArray []) 0) (List.toArray []))) ::
  (Prod.mk (nat_lit 87) (Obj.mk (Value.type "tuple") (Option.none) (Data.seq (List.toArray [(Value.str (Str.ofString "x") 283), (Value.str (Str.ofString "found") 284)]) 0) (List.toArray []))) ::
  (Prod.mk (nat_lit 88) (Obj.mk (Value.type "tuple") (Option.none) (Data.seq (List.toArray []) 0) (List.toArray []))) ::
  (Prod.mk (nat_lit 90) (Obj.mk (Value.type "code") (Option.none) (Data.fields (List.toArray [(Value.str (Str.ofString "to_whole") 280), (Value.str (Str.ofString "to_whole") 281), (Value.str (Str.ofString "/claim/cut.py") 282), (Value.int 45 0), (Value.int 1 0), (Value.int 0 0), (Value.int 0 0), (Value.int 3 0), (Value.ref 85), (Value.bool Bool.true), (Value.int 181 0), (Value.ref 86), Value.none, (Value.ref 87), (Value.ref 88), (Value.ref 89), (Value.int 285 0), (Value.int 45 0), (Value.str (Str.ofString "/claim/cut.py") 286)])) (List.toArray []))) ::
  (Prod.mk (nat_lit 91) (Obj.mk (Value.type "function") (Option.none) (hd.fnO (o := (hd.at1 11)) rfl (Str.ofString "to_whole") (Str.ofString "to_whole") 3 [] Value.none Value.none Value.none (Value.str (Str.ofString "vectorcove.rational") 271) (Option.none) (Value.ref 90) Value.none 0) (List.toArray []))) ::
  (Prod.mk (nat_lit 92) (Obj.mk (Value.type "tuple") (Option.none) (Data.seq (List.toArray []) 0) (List.toArray []))) ::
  (Prod.mk (nat_lit 94) (Obj.mk (Value.type "tuple") (Option.none) (Data.seq (List.toArray [(Value.str (Str.ofString "ix") 293), (Value.str (Str.ofString "found") 294), (Value.str (Str.ofString "item") 295)]) 0) (List.toArray []))) ::
  (Prod.mk (nat_lit 95) (Obj.mk (Value.type "tuple") (Option.none) (Data.seq (List.toArray []) 0) (List.toArray []))) ::
  (Prod.mk (nat_lit 97) (Obj.mk (Value.type "code") (Option.none) (Data.fields (List.toArray [(Value.str (Str.ofString "whole_subscripts") 290), (Value.str (Str.ofString "whole_subscripts") 291), (Value.str (Str.ofString "/claim/cut.py") 292), (Value.int 51 0), (Value.int 1 0), (Value.int 0 0), (Value.int 0 0), (Value.int 3 0), (Value.ref 92), (Value.bool Bool.true), (Value.int 181 0), (Value.ref 93), Value.none, (Value.ref 94), (Value.ref 95), (Value.ref 96), (Value.int 296 0), (Value.int 51 0), (Value.str (Str.ofString "/claim/cut.py") 297)])) (List.toArray []))) ::
  (Prod.mk (nat_lit 98) (Obj.mk (Value.type "function") (Option.none) (hd.fnO (o := (hd.at1 13)) rfl (Str.ofString "whole_subscripts") (Str.ofString "whole_subscripts") 3 [] Value.none Value.none Value.none (Value.str (Str.ofString "vectorcove.index") 288) (Option.none) (Value.ref 97) Value.none 0) (List.toArray []))) ::
  (Prod.mk (nat_lit 99) (Obj.mk (Value.type "tuple") (Option.none) (Data.seq (List.toArray []) 0) (List.toArray []))) ::
  (Prod.mk (nat_lit 101) (Obj.mk (Value.type "tuple") (Option.none) (Data.seq (List.toArray [(Value.str (Str.ofString "items") 302), (Value.str (Str.ofString "n") 303), (Value.str (Str.ofString "count") 304), (Value.str (Str.ofString "places") 305), (Value.str (Str.ofString "i") 306), (Value.str (Str.ofString "item") 307)]) 0) (List.toArray []))) ::
  (Prod.mk (nat_lit 102) (Obj.mk (Value.type "tuple") (Option.none) (Data.seq (List.toArray []) 0) (List.toArray []))) ::
  (Prod.mk (nat_lit 104) (Obj.mk (Value.type "code") (Option.none) (Data.fields (List.toArray [(Value.str (Str.ofString "logical_places") 299), (Value.str (Str.ofString "logical_places") 300), (Value.str (Str.ofString "/claim/cut.py") 301), (Value.int 61 0), (Value.int 2 0), (Value.int 0 0), (Value.int 0 0), (Value.int 3 0), (Value.ref 99), (Value.bool Bool.true), (Value.int 181 0), (Value.ref 100), Value.none, (Value.ref 101), (Value.ref 102), (Value.ref 103), (Value.int 308 0), (Value.int 61 0), (Value.str (Str.ofString "/claim/cut.py") 309)])) (List.toArray []))) ::
  (Prod.mk (nat_lit 105) (Obj.mk (Value.type "function") (Option.none) (hd.fnO (o := (hd.at1 14)) rfl (Str.ofString "logical_places") (Str.ofString "logical_places") 3 [] Value.none Value.none Value.none (Value.str (Str.ofString "vectorcove.index") 288) (Option.none) (Value.ref 104) Value.none 0) (List.toArray []))) ::
  (Prod.mk (nat_lit 106) (Obj.mk (Value.type "tuple") (Option.none) (Data.seq (List.toArray []) 0) (List.toArray []))) ::
  (Prod.mk (nat_lit 109) (Obj.mk (Value.type "code") (Option.none) (Data.fields (List.toArray [(Value.str (Str.ofString "whole_places") 311), (Value.str (Str.ofString "whole_places") 312), (Value.str (Str.ofString "/claim/cut.py") 313), (Value.int 73 0), (Value.int 2 0), (Value.int 0 0), (Value.int 0 0), (Value.int 3 0), (Value.ref 106), (Value.bool Bool.true), (Value.int 181 0), (Value.ref 107), Value.none, Value.none, Value.none, (Value.ref 108), (Value.int 314 0), (Value.int 73 0), (Value.str (Str.ofString "/claim/cut.py") 315)])) (List.toArray []))) ::
  (Prod.mk (nat_lit 110) (Obj.mk (Value.type "function") (Option.none) (hd.fnO (o := (hd.at1 15)) rfl (Str.ofString "whole_places") (Str.ofString "whole_places") 3 [] Value.none Value.none Value.none (Value.str (Str.ofString "vectorcove.index") 288) (Option.none) (Value.ref 109) Value.none 0) (List.toArray []))) ::
  (Prod.mk (nat_lit 111) (Obj.mk (Value.type "tuple") (Option.none) (Data.seq (List.toArray []) 0) (List.toArray []))) ::
  (Prod.mk (nat_lit 113) (Obj.mk (Value.type "tuple") (Option.none) (Data.seq (List.toArray [(Value.str (Str.ofString "names") 320), (Value.str (Str.ofString "table") 321), (Value.str (Str.ofString "i") 322), (Value.str (Str.ofString "name") 323)]) 0) (List.toArray []))) ::
  (Prod.mk (nat_lit 114) (Obj.mk (Value.type "tuple") (Option.none) (Data.seq (List.toArray []) 0) (List.toArray []))) ::
  (Prod.mk (nat_lit 116) (Obj.mk (Value.type "code") (Option.none) (Data.fields (List.toArray [(Value.str (Str.ofString "first_places") 317), (Value.str (Str.ofString "first_places") 318), (Value.str (Str.ofString "/claim/cut.py") 319), (Value.int 92 0), (Value.int 1 0), (Value.int 0 0), (Value.int 0 0), (Value.int 3 0), (Value.ref 111), (Value.bool Bool.true), (Value.int 181 0), (Value.ref 112), Value.none, (Value.ref 113), (Value.ref 114), (Value.ref 115), (Value.int 324 0), (Value.int 92 0), (Value.str (Str.ofString "/claim/cut.py") 325)])) (List.toArray []))) ::
  (Prod.mk (nat_lit 117) (Obj.mk (Value.type "function") (Option.none) (hd.fnO (o := (hd.at1 16)) rfl (Str.ofString "first_places") (Str.ofString "first_places") 3 [] Value.none Value.none Value.none (Value.str (Str.ofString "vectorcove.index") 288) (Option.none) (Value.ref 116) Value.none 0) (List.toArray []))) ::
  (Prod.mk (nat_lit 118) (Obj.mk (Value.type "tuple") (Option.none) (Data.seq (List.toArray []) 0) (List.toArray []))) ::
  (Prod.mk (nat_lit 120) (Obj.mk (Value.type "tuple") (Option.none) (Data.seq (List.toArray [(Value.str (Str.ofString "texts") 330), (Value.str (Str.ofString "names") 331), (Value.str (Str.ofString "table") 332), (Value.str (Str.ofString "places") 333), (Value.str (Str.ofString "item") 334)]) 0) (List.toArray []))) ::
  (Prod.mk (nat_lit 121) (Obj.mk (Value.type "tuple") (Option.none) (Data.seq (List.toArray []) 0) (List.toArray []))) ::
  (Prod.mk (nat_lit 123) (Obj.mk (Value.type "code") (Option.none) (Data.fields (List.toArray [(Value.str (Str.ofString "name_places") 327), (Value.str (Str.ofString "name_places") 328), (Value.str (Str.ofString "/claim/cut.py") 329), (Value.int 100 0), (Value.int 2 0), (Value.int 0 0), (Value.int 0 0), (Value.int 3 0), (Value.ref 118), (Value.bool Bool.true), (Value.int 181 0), (Value.ref 119), Value.none, (Value.ref 120), (Value.ref 121), (Value.ref 122), (Value.int 335 0), (Value.int 100 0), (Value.str (Str.ofString "/claim/cut.py") 336)])) (List.toArray []))) ::
  (Prod.mk (nat_lit 124) (Obj.mk (Value.type "function") (Option.none) (hd.fnO (o := (hd.at1 17)) rfl (Str.ofString "name_places") (Str.ofString "name_places") 3 [] Value.none Value.none Value.none (Value.str (Str.ofString "vectorcove.index") 288) (Option.none) (Value.ref 123) Value.none 0) (List.toArray []))) ::
  (Prod.mk (nat_lit 125) (Obj.mk (Value.type "tuple") (Option.none) (Data.seq (List.toArray []) 0) (List.toArray []))) ::
  (Prod.mk (nat_lit 127) (Obj.mk (Value.type "tuple") (Option.none) (Data.seq (List.toArray [(Value.str (Str.ofString "texts") 341), (Value.str (Str.ofString "n") 342), (Value.str (Str.ofString "names") 343), (Value.str (Str.ofString "table") 344), (Value.str (Str.ofString "places") 345), (Value.str (Str.ofString "added") 346), (Value.str (Str.ofString "item") 347), (Value.str (Str.ofString "place") 348)]) 0) (List.toArray []))) ::
  (Prod.mk (nat_lit 128) (Obj.mk (Value.type "tuple") (Option.none) (Data.seq (List.toArray []) 0) (List.toArray []))) ::
  (Prod.mk (nat_lit 130) (Obj.mk (Value.type "code") (Option.none) (Data.fields (List.toArray [(Value.str (Str.ofString "extending_places") 338), (Value.str (Str.ofString "extending_places") 339), (Value.str (Str.ofString "/claim/cut.py") 340), (Value.int 109 0), (Value.int 3 0), (Value.int 0 0), (Value.int 0 0), (Value.int 3 0), (Value.ref 125), (Value.bool Bool.true), (Value.int 181 0), (Value.ref 126), Value.none, (Value.ref 127), (Value.ref 128), (Value.ref 129), (Value.int 349 0), (Value.int 109 0), (Value.str (Str.ofString "/claim/cut.py") 350)])) (List.toArray []))) ::
  (Prod.mk (nat_lit 131) (Obj.mk (Value.type "function") (Option.none) (hd.fnO (o := (hd.at1 18)) rfl (Str.ofString "extending_places") (Str.ofString "extending_places") 3 [] Value.none Value.none Value.none (Value.str (Str.ofString "vectorcove.index") 288) (Option.none) (Value.ref 130) Value.none 0) (List.toArray []))) ::
  (Prod.mk (nat_lit 132) (Obj.mk (Value.type "tuple") (Option.none) (Data.seq (List.toArray []) 0) (List.toArray []))) ::
  (Prod.mk (nat_lit 134) (Obj.mk (Value.type "tuple") (Option.none) (Data.seq (List.toArray [(Value.str (Str.ofString "ix") 355), (Value.str (Str.ofString "n") 356), (Value.str (Str.ofString "names") 357), (Value.str (Str.ofString "extend") 358), (Value.str (Str.ofString "kind") 359)]) 0) (List.toArray []))) ::
  (Prod.mk (nat_lit 135) (Obj.mk (Value.type "tuple") (Option.none) (Data.seq (List.toArray []) 0) (List.toArray []))) ::
  (Prod.mk (nat_lit 137) (Obj.mk (Value.type "code") (Option.none) (Data.fields (List.toArray [(Value.str (Str.ofString "positions") 352), (Value.str (Str.ofString "positions") 353), (Value.str (Str.ofString "/claim/cut.py") 354), (Value.int 123 0), (Value.int 4 0), (Value.int 0 0), (Value.int 0 0), (Value.int 3 0), (Value.ref 132), (Value.bool Bool.true), (Value.int 181 0), (Value.ref 133), Value.none, (Value.ref 134), (Value.ref 135), (Value.ref 136), (Value.int 360 0), (Value.int 123 0), (Value.str (Str.ofString "/claim/cut.py") 361)])) (List.toArray []))) ::
  (Prod.mk (nat_lit 138) (Obj.mk (Value.type "function") (Option.none) (hd.fnO (o := (hd.at1 19)) rfl (Str.ofString "positions") (Str.ofString "positions") 3 [] Value.none Value.none Value.none (Value.str (Str.ofString "vectorcove.index") 288) (Option.none) (Value.ref 137) Value.none 0) (List.toArray []))) ::
  (Prod.mk (nat_lit 146) (Obj.mk (Value.type "tuple") (Option.none) (Data.seq (List.toArray []) 0) (List.toArray []))) ::
  (Prod.mk (nat_lit 148) (Obj.mk (Value.type "tuple") (Option.none) (Data.seq (List.toArray [(Value.str (Str.ofString "self") 380)]) 0) (List.toArray []))) ::
  (Prod.mk (nat_lit 149) (Obj.mk (Value.type "tuple") (Option.none) (Data.seq (List.toArray []) 0) (List.toArray []))) ::
  (Prod.mk (nat_lit 151) (Obj.mk (Value.type "code") (Option.none) (Data.fields (List.toArray [(Value.str (Str.ofString "__init__") 377), (Value.str (Str.ofString "Null.__init__") 378), (Value.str (Str.ofString "/claim/cut.py") 379), (Value.int 141 0), (Value.int 1 0), (Value.int 0 0), (Value.int 0 0), (Value.int 3 0), (Value.ref 146), (Value.bool Bool.true), (Value.int 181 0), (Value.ref 147), Value.none, (Value.ref 148), (Value.ref 149), (Value.ref 150), (Value.int 381 0), (Value.int 141 0), (Value.str (Str.ofString "/claim/cut.py") 382)])) (List.toArray []))) ::
  (Prod.mk (nat_lit 152) (Obj.mk (Value.type "function") (Option.none) (hd.fnO (o := (hd.at2 21 0)) rfl (Str.ofString "__init__") (Str.ofString "Null.__init__") 3 [] Value.none Value.none Value.none (Value.str (Str.ofString "vectorcove.values") 363) (Option.none) (Value.ref 151) Value.none 0) (List.toArray []))) ::
  (Prod.mk (nat_lit 153) (Obj.mk (Value.type "tuple") (Option.none) (Data.seq (List.toArray [(Value.str (Str.ofString "attrs") 384), (Value.str (Str.ofString "kind") 385)]) 0) (List.toArray []))) ::
  (Prod.mk (nat_lit 154) (Obj.mk (Value.type "dict") (Option.none) (Data.dict (List.toArray [(DictEntry.mk (PyData.keyHash P (Str.ofString "__module__")) (Value.str (Str.ofString "__module__") 372) (Value.str (Str.ofString "vectorcove.values") 363)), (DictEntry.mk (PyData.keyHash P (Str.ofString "__firstlineno__")) (Value.str (Str.ofString "__firstlineno__") 376) (Value.int 139 375)), (DictEntry.mk (PyData.keyHash P (Str.ofString "__init__")) (Value.str (Str.ofString "__init__") 383) (Value.ref 152)), (DictEntry.mk (PyData.keyHash P (Str.ofString "__static_attributes__")) (Value.str (Str.ofString "__static_attributes__") 386) (Value.ref 153)), (DictEntry.mk (PyData.keyHash P (Str.ofString "__dict__")) (Value.str (Str.ofString "__dict__") 388) (Value.ref 156)), (DictEntry.mk (PyData.keyHash P (Str.ofString "__weakref__")) (Value.str (Str.ofString "__weakref__") 390) (Value.ref 157)), (DictEntry.mk (PyData.keyHash P (Str.ofString "__doc__")) (Value.str (Str.ofString "__doc__") 391) Value.none)]) 4) (List.toArray []))) ::
  (Prod.mk (nat_lit 155) (Obj.mk (Value.type "type") (Option.none) (Data.cls (ClassData.mk (Str.ofString "Null") [(Value.type "object")] [(Value.ref 155), (Value.type "object")] 154 (Str.ofString "Null") Bool.true [] [] Bool.false (Option.none) Bool.false)) (List.toArray [(Option.none), (Option.none), (Option.some (Value.str (Str.ofString "Null") 365)), (Option.some (Value.str (Str.ofString "Null") 373)), (Option.some (Value.builtin "object.__new__")), (Option.some (Value.bool Bool.true))]))) ::
  (Prod.mk (nat_lit 156) (Obj.mk (Value.type "getset_descriptor") (Option.none) (Data.fields (List.toArray [(Value.str (Str.ofString "__dict__") 387), (Value.ref 155), (Value.builtin "function.__dict__"), (Value.builtin "function.__dict__#set")])) (List.toArray []))) ::
  (Prod.mk (nat_lit 157) (Obj.mk (Value.type "getset_descriptor") (Option.none) (Data.fields (List.toArray [(Value.str (Str.ofString "__weakref__") 389), (Value.ref 155), (Value.builtin "ExceptionGroup.__weakref__"), Value.none])) (List.toArray []))) ::
  (Prod.mk (nat_lit 167) (Obj.mk (Value.type "tuple") (Option.none) (Data.seq (List.toArray [Value.none]) 0) (List.toArray []))) ::
  (Prod.mk (nat_lit 168) (Obj.mk (Value.type "tuple") (Option.none) (Data.seq (List.toArray []) 0) (List.toArray []))) ::
  (Prod.mk (nat_lit 170) (Obj.mk (Value.type "tuple") (Option.none) (Data.seq (List.toArray [(Value.str (Str.ofString "self") 409), (Value.str (Str.ofString "kind") 410), (Value.str (Str.ofString "items") 411), (Value.str (Str.ofString "attrs") 412)]) 0) (List.toArray []))) ::
  (Prod.mk (nat_lit 171) (Obj.mk (Value.type "tuple") (Option.none) (Data.seq (List.toArray []) 0) (List.toArray []))) ::
  (Prod.mk (nat_lit 173) (Obj.mk (Value.type "code") (Option.none) (Data.fields (List.toArray [(Value.str (Str.ofString "__init__") 406), (Value.str (Str.ofString "Vector.__init__") 407), (Value.str (Str.ofString "/claim/cut.py") 408), (Value.int 146 0), (Value.int 4 0), (Value.int 0 0), (Value.int 0 0), (Value.int 3 0), (Value.ref 168), (Value.bool Bool.true), (Value.int 181 0), (Value.ref 169), Value.none, (Value.ref 170), (Value.ref 171), (Value.ref 172), (Value.int 413 0), (Value.int 146 0), (Value.str (Str.ofString "/claim/cut.py") 414)])) (List.toArray []))) ::
  (Prod.mk (nat_lit 174) (Obj.mk (Value.type "function") (Option.none) (hd.fnO (o := (hd.at2 22 0)) rfl (Str.ofString "__init__") (Str.ofString "Vector.__init__") 3 [] (Value.ref 167) Value.none Value.none (Value.str (Str.ofString "vectorcove.values") 363) (Option.none) (Value.ref 173) Value.none 0) (List.toArray []))) ::
  (Prod.mk (nat_lit 175) (Obj.mk (Value.type "tuple") (Option.none) (Data.seq (List.toArray []) 0) (List.toArray []))) ::
  (Prod.mk (nat_lit 177) (Obj.mk (Value.type "tuple") (Option.none) (Data.seq (List.toArray [(Value.str (Str.ofString "self") 419)]) 0) (List.toArray []))) ::
  (Prod.mk (nat_lit 178) (Obj.mk (Value.type "tuple") (Option.none) (Data.seq (List.toArray []) 0) (List.toArray []))) ::
  (Prod.mk (nat_lit 180) (Obj.mk (Value.type "code") (Option.none) (Data.fields (List.toArray [(Value.str (Str.ofString "copy") 416), (Value.str (Str.ofString "Vector.copy") 417), (Value.str (Str.ofString "/claim/cut.py") 418), (Value.int 153 0), (Value.int 1 0), (Value.int 0 0), (Value.int 0 0), (Value.int 3 0), (Value.ref 175), (Value.bool Bool.true), (Value.int 181 0), (Value.ref 176), Value.none, (Value.ref 177), (Value.ref 178), (Value.ref 179), (Value.int 420 0), (Value.int 153 0), (Value.str (Str.ofString "/claim/cut.py") 421)])) (List.toArray []))) ::
  (Prod.mk (nat_lit 181) (Obj.mk (Value.type "function") (Option.none) (hd.fnO (o := (hd.at2 22 1)) rfl (Str.ofString "copy") (Str.ofString "Vector.copy") 3 [] Value.none Value.none Value.none (Value.str (Str.ofString "vectorcove.values") 363) (Option.none) (Value.ref 180) Value.none 0) (List.toArray []))) ::
  (Prod.mk (nat_lit 182) (Obj.mk (Value.type "tuple") (Option.none) (Data.seq (List.toArray [(Value.str (Str.ofString "attrs") 423), (Value.str (Str.ofString "items") 424), (Value.str (Str.ofString "kind") 425), (Value.str (Str.ofString "loose") 426), (Value.str (Str.ofString "shared") 427)]) 0) (List.toArray []))) ::
  (Prod.mk (nat_lit 183) (Obj.mk (Value.type "dict") (Option.none) (Data.dict (List.toArray [(DictEntry.mk (PyData.keyHash P (Str.ofString "__module__")) (Value.str (Str.ofString "__module__") 401) (Value.str (Str.ofString "vectorcove.values") 363)), (DictEntry.mk (PyData.keyHash P (Str.ofString "__firstlineno__")) (Value.str (Str.ofString "__firstlineno__") 405) (Value.int 144 404)), (DictEntry.mk (PyData.keyHash P (Str.ofString "__init__")) (Value.str (Str.ofString "__init__") 415) (Value.ref 174)), (DictEntry.mk (PyData.keyHash P (Str.ofString "copy")) (Value.str (Str.ofString "copy") 422) (Value.ref 181)), (DictEntry.mk (PyData.keyHash P (Str.ofString "__static_attributes__")) (Value.str (Str.ofString "__static_attributes__") 428) (Value.ref 182)), (DictEntry.mk (PyData.keyHash P (Str.ofString "__dict__")) (Value.str (Str.ofString "__dict__") 430) (Value.ref 185)), (DictEntry.mk (PyData.keyHash P (Str.ofString "__weakref__")) (Value.str (Str.ofString "__weakref__") 432) (Value.ref 186)), (DictEntry.mk (PyData.keyHash P (Str.ofString "__doc__")) (Value.str (Str.ofString "__doc__") 433) Value.none)]) 4) (List.toArray []))) ::
  (Prod.mk (nat_lit 184) (Obj.mk (Value.type "type") (Option.none) (Data.cls (ClassData.mk (Str.ofString "Vector") [(Value.type "object")] [(Value.ref 184), (Value.type "object")] 183 (Str.ofString "Vector") Bool.true [] [] Bool.false (Option.none) Bool.false)) (List.toArray [(Option.none), (Option.none), (Option.some (Value.str (Str.ofString "Vector") 394)), (Option.some (Value.str (Str.ofString "Vector") 402)), (Option.some (Value.builtin "object.__new__")), (Option.some (Value.bool Bool.true))]))) ::
  (Prod.mk (nat_lit 185) (Obj.mk (Value.type "getset_descriptor") (Option.none) (Data.fields (List.toArray [(Value.str (Str.ofString "__dict__") 429), (Value.ref 184), (Value.builtin "function.__dict__"), (Value.builtin "function.__dict__#set")])) (List.toArray []))) ::
  (Prod.mk (nat_lit 186) (Obj.mk (Value.type "getset_descriptor") (Option.none) (Data.fields (List.toArray [(Value.str (Str.ofString "__weakref__") 431), (Value.ref 184), (Value.builtin "ExceptionGroup.__weakref__"), Value.none])) (List.toArray []))) ::
  (Prod.mk (nat_lit 189) (Obj.mk (Value.type "tuple") (Option.none) (Data.seq (List.toArray []) 0) (List.toArray []))) ::
  (Prod.mk (nat_lit 191) (Obj.mk (Value.type "tuple") (Option.none) (Data.seq (List.toArray [(Value.str (Str.ofString "items") 439)]) 0) (List.toArray []))) ::
  (Prod.mk (nat_lit 192) (Obj.mk (Value.type "tuple") (Option.none) (Data.seq (List.toArray []) 0) (List.toArray []))) ::
  (Prod.mk (nat_lit 194) (Obj.mk (Value.type "code") (Option.none) (Data.fields (List.toArray [(Value.str (Str.ofString "character") 436), (Value.str (Str.ofString "character") 437), (Value.str (Str.ofString "/claim/cut.py") 438), (Value.int 155 0), (Value.int 1 0), (Value.int 0 0), (Value.int 0 0), (Value.int 3 0), (Value.ref 189), (Value.bool Bool.true), (Value.int 181 0), (Value.ref 190), Value.none, (Value.ref 191), (Value.ref 192), (Value.ref 193), (Value.int 440 0), (Value.int 155 0), (Value.str (Str.ofString "/claim/cut.py") 441)])) (List.toArray []))) ::
  (Prod.mk (nat_lit 195) (Obj.mk (Value.type "function") (Option.none) (hd.fnO (o := (hd.at1 23)) rfl (Str.ofString "character") (Str.ofString "character") 3 [] Value.none Value.none Value.none (Value.str (Str.ofString "vectorcove.values") 363) (Option.none) (Value.ref 194) Value.none 0) (List.toArray []))) ::
  (Prod.mk (nat_lit 196) (Obj.mk (Value.type "tuple") (Option.none) (Data.seq (List.toArray []) 0) (List.toArray []))) ::
  (Prod.mk (nat_lit 198) (Obj.mk (Value.type "tuple") (Option.none) (Data.seq (List.toArray [(Value.str (Str.ofString "v") 446), (Value.str (Str.ofString "names") 447)]) 0) (List.toArray []))) ::
  (Prod.mk (nat_lit 199) (Obj.mk (Value.type "tuple") (Option.none) (Data.seq (List.toArray []) 0) (List.toArray []))) ::
  (Prod.mk (nat_lit 201) (Obj.mk (Value.type "code") (Option.none) (Data.fields (List.toArray [(Value.str (Str.ofString "named") 443), (Value.str (Str.ofString "named") 444), (Value.str (Str.ofString "/claim/cut.py") 445), (Value.int 157 0), (Value.int 2 0), (Value.int 0 0), (Value.int 0 0), (Value.int 3 0), (Value.ref 196), (Value.bool Bool.true), (Value.int 181 0), (Value.ref 197), Value.none, (Value.ref 198), (Value.ref 199), (Value.ref 200), (Value.int 448 0), (Value.int 157 0), (Value.str (Str.ofString "/claim/cut.py") 449)])) (List.toArray []))) ::
  (Prod.mk (nat_lit 202) (Obj.mk (Value.type "function") (Option.none) (hd.fnO (o := (hd.at1 24)) rfl (Str.ofString "named") (Str.ofString "named") 3 [] Value.none Value.none Value.none (Value.str (Str.ofString "vectorcove.values") 363) (Option.none) (Value.ref 201) Value.none 0) (List.toArray []))) ::
  (Prod.mk (nat_lit 203) (Obj.mk (Value.type "tuple") (Option.none) (Data.seq (List.toArray []) 0) (List.toArray []))) ::
  (Prod.mk (nat_lit 205) (Obj.mk (Value.type "tuple") (Option.none) (Data.seq (List.toArray [(Value.str (Str.ofString "kind") 456)]) 0) (List.toArray []))) ::
  (Prod.mk (nat_lit 206) (Obj.mk (Value.type "tuple") (Option.none) (Data.seq (List.toArray []) 0) (List.toArray []))) ::
  (Prod.mk (nat_lit 208) (Obj.mk (Value.type "code") (Option.none) (Data.fields (List.toArray [(Value.str (Str.ofString "lacking_item") 453), (Value.str (Str.ofString "lacking_item") 454), (Value.str (Str.ofString "/claim/cut.py") 455), (Value.int 162 0), (Value.int 1 0), (Value.int 0 0), (Value.int 0 0), (Value.int 3 0), (Value.ref 203), (Value.bool Bool.true), (Value.int 181 0), (Value.ref 204), Value.none, (Value.ref 205), (Value.ref 206), (Value.ref 207), (Value.int 457 0), (Value.int 162 0), (Value.str (Str.ofString "/claim/cut.py") 458)])) (List.toArray []))) ::
  (Prod.mk (nat_lit 209) (Obj.mk (Value.type "function") (Option.none) (hd.fnO (o := (hd.at1 26)) rfl (Str.ofString "lacking_item") (Str.ofString "lacking_item") 3 [] Value.none Value.none Value.none (Value.str (Str.ofString "vectorcove.subset") 451) (Option.none) (Value.ref 208) Value.none 0) (List.toArray []))) ::
  (Prod.mk (nat_lit 210) (Obj.mk (Value.type "tuple") (Option.none) (Data.seq (List.toArray []) 0) (List.toArray []))) ::
  (Prod.mk (nat_lit 212) (Obj.mk (Value.type "tuple") (Option.none) (Data.seq (List.toArray [(Value.str (Str.ofString "kind") 463)]) 0) (List.toArray []))) ::
  (Prod.mk (nat_lit 213) (Obj.mk (Value.type "tuple") (Option.none) (Data.seq (List.toArray []) 0) (List.toArray []))) ::
  (Prod.mk (nat_lit 215) (Obj.mk (Value.type "code") (Option.none) (Data.fields (List.toArray [(Value.str (Str.ofString "result_kind") 460), (Value.str (Str.ofString "result_kind") 461), (Value.str (Str.ofString "/claim/cut.py") 462), (Value.int 166 0), (Value.int 1 0), (Value.int 0 0), (Value.int 0 0), (Value.int 3 0), (Value.ref 210), (Value.bool Bool.true), (Value.int 181 0), (Value.ref 211), Value.none, (Value.ref 212), (Value.ref 213), (Value.ref 214), (Value.int 464 0), (Value.int 166 0), (Value.str (Str.ofString "/claim/cut.py") 465)])) (List.toArray []))) ::
  (Prod.mk (nat_lit 216) (Obj.mk (Value.type "function") (Option.none) (hd.fnO (o := (hd.at1 27)) rfl (Str.ofString "result_kind") (Str.ofString "result_kind") 3 [] Value.none Value.none Value.none (Value.str (Str.ofString "vectorcove.subset") 451) (Option.none) (Value.ref 215) Value.none 0) (List.toArray []))) ::
  (Prod.mk (nat_lit 217) (Obj.mk (Value.type "tuple") (Option.none) (Data.seq (List.toArray []) 0) (List.toArray []))) ::
  (Prod.mk (nat_lit 219) (Obj.mk (Value.type "tuple") (Option.none) (Data.seq (List.toArray [(Value.str (Str.ofString "v") 470), (Value.str (Str.ofString "places") 471), (Value.str (Str.ofString "found") 472), (Value.str (Str.ofString "n") 473), (Value.str (Str.ofString "place") 474)]) 0) (List.toArray []))) ::
  (Prod.mk (nat_lit 220) (Obj.mk (Value.type "tuple") (Option.none) (Data.seq (List.toArray []) 0) (List.toArray []))) ::
  (Prod.mk (nat_lit 222) (Obj.mk (Value.type "code") (Option.none) (Data.fields (List.toArray [(Value.str (Str.ofString "items_at") 467), (Value.str (Str.ofString "items_at") 468), (Value.str (Str.ofString "/claim/cut.py") 469), (Value.int 170 0), (Value.int 2 0), (Value.int 0 0), (Value.int 0 0), (Value.int 3 0), (Value.ref 217), (Value.bool Bool.true), (Value.int 181 0), (Value.ref 218), Value.none, (Value.ref 219), (Value.ref 220), (Value.ref 221), (Value.int 475 0), (Value.int 170 0), (Value.str (Str.ofString "/claim/cut.py") 476)])) (List.toArray []))) ::
  (Prod.mk (nat_lit 223) (Obj.mk (Value.type "function") (Option.none) (hd.fnO (o := (hd.at1 28)) rfl (Str.ofString "items_at") (Str.ofString "items_at") 3 [] Value.none Value.none Value.none (Value.str (Str.ofString "vectorcove.subset") 451) (Option.none) (Value.ref 222) Value.none 0) (List.toArray []))) ::
  (Prod.mk (nat_lit 224) (Obj.mk (Value.type "tuple") (Option.none) (Data.seq (List.toArray []) 0) (List.toArray []))) ::
  (Prod.mk (nat_lit 226) (Obj.mk (Value.type "tuple") (Option.none) (Data.seq (List.toArray [(Value.str (Str.ofString "names") 481), (Value.str (Str.ofString "places") 482), (Value.str (Str.ofString "found") 483), (Value.str (Str.ofString "place") 484)]) 0) (List.toArray []))) ::
  (Prod.mk (nat_lit 227) (Obj.mk (Value.type "tuple") (Option.none) (Data.seq (List.toArray []) 0) (List.toArray []))) ::
  (Prod.mk (nat_lit 229) (Obj.mk (Value.type "code") (Option.none) (Data.fields (List.toArray [(Value.str (Str.ofString "names_at") 478), (Value.str (Str.ofString "names_at") 479), (Value.str (Str.ofString "/claim/cut.py") 480), (Value.int 179 0), (Value.int 2 0), (Value.int 0 0), (Value.int 0 0), (Value.int 3 0), (Value.ref 224), (Value.bool Bool.true), (Value.int 181 0), (Value.ref 225), Value.none, (Value.ref 226), (Value.ref 227), (Value.ref 228), (Value.int 485 0), (Value.int 179 0), (Value.str (Str.ofString "/claim/cut.py") 486)])) (List.toArray []))) ::
  (Prod.mk (nat_lit 230) (Obj.mk (Value.type "function") (Option.none) (hd.fnO (o := (hd.at1 29)) rfl (Str.ofString "names_at") (Str.ofString "names_at") 3 [] Value.none Value.none Value.none (Value.str (Str.ofString "vectorcove.subset") 451) (Option.none) (Value.ref 229) Value.none 0) (List.toArray []))) ::
  (Prod.mk (nat_lit 231) (Obj.mk (Value.type "tuple") (Option.none) (Data.seq (List.toArray []) 0) (List.toArray []))) ::
  (Prod.mk (nat_lit 233) (Obj.mk (Value.type "tuple") (Option.none) (Data.seq (List.toArray [(Value.str (Str.ofString "v") 491), (Value.str (Str.ofString "ix") 492), (Value.str (Str.ofString "names") 493), (Value.str (Str.ofString "places") 494), (Value.str (Str.ofString "result") 495)]) 0) (List.toArray []))) ::
  (Prod.mk (nat_lit 234) (Obj.mk (Value.type "tuple") (Option.none) (Data.seq (List.toArray []) 0) (List.toArray []))) ::
  (Prod.mk (nat_lit 236) (Obj.mk (Value.type "code") (Option.none) (Data.fields (List.toArray [(Value.str (Str.ofString "subset_vector") 488), (Value.str (Str.ofString "subset_vector") 489), (Value.str (Str.ofString "/claim/cut.py") 490), (Value.int 187 0), (Value.int 2 0), (Value.int 0 0), (Value.int 0 0), (Value.int 3 0), (Value.ref 231), (Value.bool Bool.true), (Value.int 181 0), (Value.ref 232), Value.none, (Value.ref 233), (Value.ref 234), (Value.ref 235), (Value.int 496 0), (Value.int 187 0), (Value.str (Str.ofString "/claim/cut.py") 497)])) (List.toArray []))) ::
  (Prod.mk (nat_lit 237) (Obj.mk (Value.type "function") (Option.none) (hd.fnO (o := (hd.at1 30)) rfl (Str.ofString "subset_vector") (Str.ofString "subset_vector") 3 [] Value.none Value.none Value.none (Value.str (Str.ofString "vectorcove.subset") 451) (Option.none) (Value.ref 236) Value.none 0) (List.toArray []))) ::
  (Prod.mk (nat_lit 238) (Obj.mk (Value.type "tuple") (Option.none) (Data.seq (List.toArray []) 0) (List.toArray []))) ::
  (Prod.mk (nat_lit 240) (Obj.mk (Value.type "tuple") (Option.none) (Data.seq (List.toArray [(Value.str (Str.ofString "script") 504), (Value.str (Str.ofString "cards") 505), (Value.str (Str.ofString "cell") 506), (Value.str (Str.ofString "heap_up") 507), (Value.str (Str.ofString "lap") 508)]) 0) (List.toArray []))) ::
  (Prod.mk (nat_lit 241) (Obj.mk (Value.type "tuple") (Option.none) (Data.seq (List.toArray []) 0) (List.toArray []))) ::
  (Prod.mk (nat_lit 243) (Obj.mk (Value.type "code") (Option.none) (Data.fields (List.toArray [(Value.str (Str.ofString "_law_cards") 501), (Value.str (Str.ofString "_law_cards") 502), (Value.str (Str.ofString "/claim/cut.py") 503), (Value.int 195 0), (Value.int 1 0), (Value.int 0 0), (Value.int 0 0), (Value.int 3 0), (Value.ref 238), (Value.bool Bool.true), (Value.int 181 0), (Value.ref 239), Value.none, (Value.ref 240), (Value.ref 241), (Value.ref 242), (Value.int 509 0), (Value.int 195 0), (Value.str (Str.ofString "/claim/cut.py") 510)])) (List.toArray []))) ::
  (Prod.mk (nat_lit 244) (Obj.mk (Value.type "function") (Option.none) (hd.fnO (o := (hd.at1 32)) rfl (Str.ofString "_law_cards") (Str.ofString "_law_cards") 3 [] Value.none Value.none Value.none (Value.str (Str.ofString "law_pq1395_01") 499) (Option.none) (Value.ref 243) Value.none 0) (List.toArray []))) ::
  (Prod.mk (nat_lit 245) (Obj.mk (Value.type "tuple") (Option.none) (Data.seq (List.toArray []) 0) (List.toArray []))) ::
  (Prod.mk (nat_lit 247) (Obj.mk (Value.type "tuple") (Option.none) (Data.seq (List.toArray [(Value.str (Str.ofString "cards") 515), (Value.str (Str.ofString "many") 516)]) 0) (List.toArray []))) ::
  (Prod.mk (nat_lit 248) (Obj.mk (Value.type "tuple") (Option.none) (Data.seq (List.toArray []) 0) (List.toArray []))) ::
  (Prod.mk (nat_lit 250) (Obj.mk (Value.type "code") (Option.none) (Data.fields (List.toArray [(Value.str (Str.ofString "_law_card") 512), (Value.str (Str.ofString "_law_card") 513), (Value.str (Str.ofString "/claim/cut.py") 514), (Value.int 207 0), (Value.int 2 0), (Value.int 0 0), (Value.int 0 0), (Value.int 3 0), (Value.ref 245), (Value.bool Bool.true), (Value.int 181 0), (Value.ref 246), Value.none, (Value.ref 247), (Value.ref 248), (Value.ref 249), (Value.int 517 0), (Value.int 207 0), (Value.str (Str.ofString "/claim/cut.py") 518)])) (List.toArray []))) ::
  (Prod.mk (nat_lit 251) (Obj.mk (Value.type "function") (Option.none) (hd.fnO (o := (hd.at1 33)) rfl (Str.ofString "_law_card") (Str.ofString "_law_card") 3 [] Value.none Value.none Value.none (Value.str (Str.ofString "law_pq1395_01") 499) (Option.none) (Value.ref 250) Value.none 0) (List.toArray []))) ::
  (Prod.mk (nat_lit 252) (Obj.mk (Value.type "tuple") (Option.none) (Data.seq (List.toArray []) 0) (List.toArray []))) ::
  (Prod.mk (nat_lit 255) (Obj.mk (Value.type "code") (Option.none) (Data.fields (List.toArray [(Value.str (Str.ofString "_law_index") 520), (Value.str (Str.ofString "_law_index") 521), (Value.str (Str.ofString "/claim/cut.py") 522), (Value.int 211 0), (Value.int 2 0), (Value.int 0 0), (Value.int 0 0), (Value.int 3 0), (Value.ref 252), (Value.bool Bool.true), (Value.int 181 0), (Value.ref 253), Value.none, Value.none, Value.none, (Value.ref 254), (Value.int 523 0), (Value.int 211 0), (Value.str (Str.ofString "/claim/cut.py") 524)])) (List.toArray []))) ::
  (Prod.mk (nat_lit 256) (Obj.mk (Value.type "function") (Option.none) (hd.fnO (o := (hd.at1 34)) rfl (Str.ofString "_law_index") (Str.ofString "_law_index") 3 [] Value.none Value.none Value.none (Value.str (Str.ofString "law_pq1395_01") 499) (Option.none) (Value.ref 255) Value.none 0) (List.toArray []))) ::
  (Prod.mk (nat_lit 257) (Obj.mk (Value.type "tuple") (Option.none) (Data.seq (List.toArray []) 0) (List.toArray []))) ::
  (Prod.mk (nat_lit 260) (Obj.mk (Value.type "code") (Option.none) (Data.fields (List.toArray [(Value.str (Str.ofString "law") 526), (Value.str (Str.ofString "law") 527), (Value.str (Str.ofString "/claim/cut.py") 528), (Value.int 231 0), (Value.int 1 0), (Value.int 0 0), (Value.int 0 0), (Value.int 3 0), (Value.ref 257), (Value.bool Bool.true), (Value.int 181 0), (Value.ref 258), Value.none, Value.none, Value.none, (Value.ref 259), (Value.int 529 0), (Value.int 231 0), (Value.str (Str.ofString "/claim/cut.py") 530)])) (List.toArray []))) ::
  (Prod.mk (nat_lit 261) (Obj.mk (Value.type "function") (Option.none) (hd.fnO (o := (hd.at1 35)) rfl (Str.ofString "law") (Str.ofString "law") 3 [] Value.none Value.none Value.none (Value.str (Str.ofString "law_pq1395_01") 499) (Option.none) (Value.ref 260) Value.none 0) (List.toArray []))) ::
  []
noncomputable def hd.as : List Addr := [(nat_lit 2), (nat_lit 3), (nat_lit 15), (nat_lit 17), (nat_lit 18), (nat_lit 20), (nat_lit 21), (nat_lit 22), (nat_lit 24), (nat_lit 25), (nat_lit 27), (nat_lit 28), (nat_lit 29), (nat_lit 32), (nat_lit 33), (nat_lit 34), (nat_lit 36), (nat_lit 37), (nat_lit 39), (nat_lit 40), (nat_lit 41), (nat_lit 44), (nat_lit 45), (nat_lit 46), (nat_lit 53), (nat_lit 54), (nat_lit 55), (nat_lit 56), (nat_lit 59), (nat_lit 66), (nat_lit 68), (nat_lit 69), (nat_lit 71), (nat_lit 72), (nat_lit 73), (nat_lit 74), (nat_lit 75), (nat_lit 78), (nat_lit 80), (nat_lit 81), (nat_lit 83), (nat_lit 84), (nat_lit 85), (nat_lit 87), (nat_lit 88), (nat_lit 90), (nat_lit 91), (nat_lit 92), (nat_lit 94), (nat_lit 95), (nat_lit 97), (nat_lit 98), (nat_lit 99), (nat_lit 101), (nat_lit 102), (nat_lit 104), (nat_lit 105), (nat_lit 106), (nat_lit 109), (nat_lit 110), (nat_lit 111), (nat_lit 113), (nat_lit 114), (nat_lit 116), (nat_lit 117), (nat_lit 118), (nat_lit 120), (nat_lit 121), (nat_lit 123), (nat_lit 124), (nat_lit 125), (nat_lit 127), (nat_lit 128), (nat_lit 130), (nat_lit 131), (nat_lit 132), (nat_lit 134), (nat_lit 135), (nat_lit 137), (nat_lit 138), (nat_lit 146), (nat_lit 148), (nat_lit 149), (nat_lit 151), (nat_lit 152), (nat_lit 153), (nat_lit 154), (nat_lit 155), (nat_lit 156), (nat_lit 157), (nat_lit 167), (nat_lit 168), (nat_lit 170), (nat_lit 171), (nat_lit 173), (nat_lit 174), (nat_lit 175), (nat_lit 177), (nat_lit 178), (nat_lit 180), (nat_lit 181), (nat_lit 182), (nat_lit 183), (nat_lit 184), (nat_lit 185), (nat_lit 186), (nat_lit 189), (nat_lit 191), (nat_lit 192), (nat_lit 194), (nat_lit 195), (nat_lit 196), (nat_lit 198), (nat_lit 199), (nat_lit 201), (nat_lit 202), (nat_lit 203), (nat_lit 205), (nat_lit 206), (nat_lit 208), (nat_lit 209), (nat_lit 210), (nat_lit 212), (nat_lit 213), (nat_lit 215), (nat_lit 216), (nat_lit 217), (nat_lit 219), (nat_lit 220), (nat_lit 222), (nat_lit 223), (nat_lit 224), (nat_lit 226), (nat_lit 227), (nat_lit 229), (nat_lit 230), (nat_lit 231), (nat_lit 233), (nat_lit 234), (nat_lit 236), (nat_lit 237), (nat_lit 238), (nat_lit 240), (nat_lit 241), (nat_lit 243), (nat_lit 244), (nat_lit 245), (nat_lit 247), (nat_lit 248), (nat_lit 250), (nat_lit 251), (nat_lit 252), (nat_lit 255), (nat_lit 256), (nat_lit 257), (nat_lit 260), (nat_lit 261)]
theorem hd.as_eq (P : Params) : hd.as = (hd.heap_39 P).map (·.1) := by kernel_rfl
noncomputable def hd.ko (P : Params) (j : Nat) : Obj := match (hd.heap_39 P)[j]? with
  | some p => p.2
  | none => default
noncomputable def hd.o_44 : Params → Obj := fun _ => (Obj.mk Value.none (Option.none) (Data.fields (List.toArray [])) (List.toArray []))
noncomputable def hd.o_45 : Params → Obj := fun _ => (Obj.mk (Value.type "code") (Option.none) (Data.fields (List.toArray [(Value.str (Str.ofString "<module>") 182), (Value.str (Str.ofString "<module>") 183), (Value.str (Str.ofString "/claim/cut.py") 184), (Value.int 1 0), (Value.int 0 0), (Value.int 0 0), (Value.int 0 0), (Value.int 0 0), (Value.ref 11), (Value.bool Bool.false), (Value.int 181 0), (Value.ref 12), Value.none, Value.none, Value.none, Value.none, (Value.int 185 0), (Value.int 1 0), (Value.str (Str.ofString "/claim/cut.py") 186)])) (List.toArray []))
noncomputable def hd.o_46 : Params → Obj := fun _ => (Obj.mk (Value.type "frame") (Option.none) Data.plain (List.toArray [(Option.some (Value.ref 13)), (Option.some (Value.ref 3)), (Option.some (Value.ref 3)), (Option.none), (Option.some (Value.str (Str.ofString "__main__") 164)), (Option.none), (Option.some (Value.ref 0))]))
noncomputable def hd.o_262 : Params → Obj := fun _ => (Obj.mk Value.none (Option.none) (Data.fields (List.toArray ((Value.int 1 0) :: (Value.int 0 0) :: (Value.ref 20) :: (Value.int 5 0) :: (Value.int 0 0) :: (Value.ref 27) :: (Value.int 9 0) :: (Value.int 0 0) :: (Value.ref 32) :: (Value.int 25 0) :: (Value.int 0 0) :: (Value.ref 39) :: (Value.int 30 0) :: (Value.int 0 0) :: (Value.ref 44) :: (Value.int 36 0) :: (Value.int 0 0) :: (Value.ref 51) :: (Value.int 38 0) :: (Value.int 0 0) :: (Value.ref 64) :: (Value.int 43 0) :: (Value.int 0 0) :: (Value.ref 83) :: (Value.int 45 0) :: (Value.int 0 0) :: (Value.ref 90) :: (Value.int 51 0) :: (Value.int 0 0) :: (Value.ref 97) :: (Value.int 61 0) :: (Value.int 0 0) :: (Value.ref 104) :: (Value.int 73 0) :: (Value.int 0 0) :: (Value.ref 109) :: (Value.int 92 0) :: (Value.int 0 0) :: (Value.ref 116) :: (Value.int 100 0) :: (Value.int 0 0) :: (Value.ref 123) :: (Value.int 109 0) :: (Value.int 0 0) :: (Value.ref 130) :: (Value.int 123 0) :: (Value.int 0 0) :: (Value.ref 137) :: (Value.int 139 0) :: (Value.int 0 0) :: (Value.ref 144) :: (Value.int 144 0) :: (Value.int 0 0) :: (Value.ref 165) :: (Value.int 155 0) :: (Value.int 0 0) :: (Value.ref 194) :: (Value.int 157 0) :: (Value.int 0 0) :: (Value.ref 201) :: (Value.int 162 0) :: (Value.int 0 0) :: (Value.ref 208) :: (Value.int 166 0) :: (Value.int 0 0) :: (Value.ref 215) :: (Value.int 170 0) :: (Value.int 0 0) :: (Value.ref 222) :: (Value.int 179 0) :: (Value.int 0 0) :: (Value.ref 229) :: (Value.int 187 0) :: (Value.int 0 0) :: (Value.ref 236) :: (Value.int 195 0) :: (Value.int 0 0) :: (Value.ref 243) :: (Value.int 207 0) :: (Value.int 0 0) :: (Value.ref 250) :: (Value.int 211 0) :: (Value.int 0 0) :: (Value.ref 255) :: (Value.int 231 0) :: (Value.int 0 0) :: (Value.ref 260) :: []))) (List.toArray []))
noncomputable def hd.o_53 : Params → Obj := fun _ => (Obj.mk Value.none (Option.none) (Data.fields (List.toArray [])) (List.toArray []))
noncomputable def hd.o_56 : Params → Obj := fun _ => (Obj.mk Value.none (Option.none) (hd.fnO (o := (hd.at1 0)) rfl (Str.ofString "_wall") (Str.ofString "_wall") 0 [] Value.none Value.none Value.none Value.none (Option.none) Value.none Value.none 0) (List.toArray []))
noncomputable def hd.o_60 : Params → Obj := fun _ => (Obj.mk Value.none (Option.none) (Data.fields (List.toArray [])) (List.toArray []))
noncomputable def hd.o_63 : Params → Obj := fun _ => (Obj.mk Value.none (Option.none) (hd.fnO (o := (hd.at1 2)) rfl (Str.ofString "get_attr") (Str.ofString "get_attr") 0 [] Value.none Value.none Value.none Value.none (Option.none) Value.none Value.none 0) (List.toArray []))
noncomputable def hd.o_67 : Params → Obj := fun _ => (Obj.mk Value.none (Option.none) (Data.fields (List.toArray [])) (List.toArray []))
noncomputable def hd.o_68 : Params → Obj := fun _ => (Obj.mk Value.none (Option.none) (hd.fnO (o := (hd.at1 3)) rfl (Str.ofString "names_of") (Str.ofString "names_of") 0 [] Value.none Value.none Value.none Value.none (Option.none) Value.none Value.none 0) (List.toArray []))
noncomputable def hd.o_72 : Params → Obj := fun _ => (Obj.mk Value.none (Option.none) (Data.fields (List.toArray [])) (List.toArray []))
noncomputable def hd.o_75 : Params → Obj := fun _ => (Obj.mk Value.none (Option.none) (hd.fnO (o := (hd.at1 4)) rfl (Str.ofString "dim_of") (Str.ofString "dim_of") 0 [] Value.none Value.none Value.none Value.none (Option.none) Value.none Value.none 0) (List.toArray []))
noncomputable def hd.o_79 : Params → Obj := fun _ => (Obj.mk Value.none (Option.none) (Data.fields (List.toArray [])) (List.toArray []))
noncomputable def hd.o_80 : Params → Obj := fun _ => (Obj.mk Value.none (Option.none) (hd.fnO (o := (hd.at1 5)) rfl (Str.ofString "dimnames_of") (Str.ofString "dimnames_of") 0 [] Value.none Value.none Value.none Value.none (Option.none) Value.none Value.none 0) (List.toArray []))
noncomputable def hd.o_84 : Params → Obj := fun _ => (Obj.mk (Value.type "builtin_function_or_method") (Option.none) (Data.fields (List.toArray [(Value.builtin "type.__prepare__"), (Value.type "type")])) (List.toArray []))
noncomputable def hd.o_85 : Params → Obj := fun P => (Obj.mk (Value.type "dict") (Option.none) (Data.dict (List.toArray [(DictEntry.mk (PyData.keyHash P (Str.ofString "__module__")) (Value.str (Str.ofString "__module__") 233) (Value.str (Str.ofString "vectorcove.errors") 224)), (DictEntry.mk (PyData.keyHash P (Str.ofString "__qualname__")) (Value.str (Str.ofString "__qualname__") 235) (Value.str (Str.ofString "CoveError") 234)), (DictEntry.mk (PyData.keyHash P (Str.ofString "__firstlineno__")) (Value.str (Str.ofString "__firstlineno__") 237) (Value.int 36 236)), (DictEntry.mk (PyData.keyHash P (Str.ofString "__static_attributes__")) (Value.str (Str.ofString "__static_attributes__") 238) (Value.ref 53))]) 4) (List.toArray []))
noncomputable def hd.o_87 : Params → Obj := fun _ => (Obj.mk Value.none (Option.none) (Data.fields (List.toArray [])) (List.toArray []))
noncomputable def hd.o_88 : Params → Obj := fun _ => (Obj.mk (Value.type "code") (Option.none) (Data.fields (List.toArray [(Value.str (Str.ofString "CoveError") 228), (Value.str (Str.ofString "CoveError") 229), (Value.str (Str.ofString "/claim/cut.py") 230), (Value.int 36 0), (Value.int 0 0), (Value.int 0 0), (Value.int 0 0), (Value.int 0 0), (Value.ref 49), (Value.bool Bool.false), (Value.int 181 0), (Value.ref 50), Value.none, Value.none, Value.none, Value.none, (Value.int 231 0), (Value.int 36 0), (Value.str (Str.ofString "/claim/cut.py") 232)])) (List.toArray []))
noncomputable def hd.o_89 : Params → Obj := fun _ => (Obj.mk (Value.type "frame") (Option.none) Data.plain (List.toArray [(Option.some (Value.ref 51)), (Option.some (Value.ref 3)), (Option.some (Value.ref 48)), (Option.none), (Option.some (Value.str (Str.ofString "vectorcove.errors") 224)), (Option.none), (Option.some (Value.ref 0))]))
noncomputable def hd.o_94 : Params → Obj := fun _ => (Obj.mk (Value.type "super") (Option.none) (Data.fields (List.toArray [(Value.ref 55), (Value.ref 55), (Value.ref 55)])) (List.toArray []))
noncomputable def hd.o_95 : Params → Obj := fun _ => (Obj.mk (Value.type "builtin_function_or_method") (Option.none) (Data.fields (List.toArray [(Value.builtin "object.__init_subclass__"), (Value.ref 55)])) (List.toArray []))
noncomputable def hd.o_100 : Params → Obj := fun _ => (Obj.mk (Value.type "builtin_function_or_method") (Option.none) (Data.fields (List.toArray [(Value.builtin "type.__prepare__"), (Value.type "type")])) (List.toArray []))
noncomputable def hd.o_101 : Params → Obj := fun P => (Obj.mk (Value.type "dict") (Option.none) (Data.dict (List.toArray [(DictEntry.mk (PyData.keyHash P (Str.ofString "__module__")) (Value.str (Str.ofString "__module__") 253) (Value.str (Str.ofString "vectorcove.errors") 224)), (DictEntry.mk (PyData.keyHash P (Str.ofString "__qualname__")) (Value.str (Str.ofString "__qualname__") 255) (Value.str (Str.ofString "Refusal") 254)), (DictEntry.mk (PyData.keyHash P (Str.ofString "__firstlineno__")) (Value.str (Str.ofString "__firstlineno__") 257) (Value.int 38 256)), (DictEntry.mk (PyData.keyHash P (Str.ofString "__init__")) (Value.str (Str.ofString "__init__") 265) (Value.ref 72)), (DictEntry.mk (PyData.keyHash P (Str.ofString "__static_attributes__")) (Value.str (Str.ofString "__static_attributes__") 267) (Value.ref 73))]) 5) (List.toArray []))
noncomputable def hd.o_103 : Params → Obj := fun _ => (Obj.mk Value.none (Option.none) (Data.fields (List.toArray [(Value.int 40 0), (Value.int 4 0), (Value.ref 71)])) (List.toArray []))
noncomputable def hd.o_104 : Params → Obj := fun _ => (Obj.mk (Value.type "code") (Option.none) (Data.fields (List.toArray [(Value.str (Str.ofString "Refusal") 248), (Value.str (Str.ofString "Refusal") 249), (Value.str (Str.ofString "/claim/cut.py") 250), (Value.int 38 0), (Value.int 0 0), (Value.int 0 0), (Value.int 0 0), (Value.int 0 0), (Value.ref 62), (Value.bool Bool.false), (Value.int 181 0), (Value.ref 63), Value.none, Value.none, Value.none, Value.none, (Value.int 251 0), (Value.int 38 0), (Value.str (Str.ofString "/claim/cut.py") 252)])) (List.toArray []))
noncomputable def hd.o_105 : Params → Obj := fun _ => (Obj.mk (Value.type "frame") (Option.none) Data.plain (List.toArray [(Option.some (Value.ref 64)), (Option.some (Value.ref 3)), (Option.some (Value.ref 61)), (Option.none), (Option.some (Value.str (Str.ofString "vectorcove.errors") 224)), (Option.none), (Option.some (Value.ref 0))]))
noncomputable def hd.o_107 : Params → Obj := fun _ => (Obj.mk Value.none (Option.none) (Data.fields (List.toArray [])) (List.toArray []))
noncomputable def hd.o_110 : Params → Obj := fun _ => (Obj.mk Value.none (Option.none) (hd.fnO (o := (hd.at2 8 0)) rfl (Str.ofString "__init__") (Str.ofString "Refusal.__init__") 0 [] Value.none Value.none Value.none Value.none (Option.none) Value.none Value.none 0) (List.toArray []))
noncomputable def hd.o_116 : Params → Obj := fun _ => (Obj.mk (Value.type "super") (Option.none) (Data.fields (List.toArray [(Value.ref 75), (Value.ref 75), (Value.ref 75)])) (List.toArray []))
noncomputable def hd.o_117 : Params → Obj := fun _ => (Obj.mk (Value.type "builtin_function_or_method") (Option.none) (Data.fields (List.toArray [(Value.builtin "object.__init_subclass__"), (Value.ref 75)])) (List.toArray []))
noncomputable def hd.o_119 : Params → Obj := fun _ => (Obj.mk Value.none (Option.none) (Data.fields (List.toArray [])) (List.toArray []))
noncomputable def hd.o_122 : Params → Obj := fun _ => (Obj.mk Value.none (Option.none) (hd.fnO (o := (hd.at1 10)) rfl (Str.ofString "is_finite") (Str.ofString "is_finite") 0 [] Value.none Value.none Value.none Value.none (Option.none) Value.none Value.none 0) (List.toArray []))
noncomputable def hd.o_126 : Params → Obj := fun _ => (Obj.mk Value.none (Option.none) (Data.fields (List.toArray [])) (List.toArray []))
noncomputable def hd.o_129 : Params → Obj := fun _ => (Obj.mk Value.none (Option.none) (hd.fnO (o := (hd.at1 11)) rfl (Str.ofString "to_whole") (Str.ofString "to_whole") 0 [] Value.none Value.none Value.none Value.none (Option.none) Value.none Value.none 0) (List.toArray []))
noncomputable def hd.o_133 : Params → Obj := fun _ => (Obj.mk Value.none (Option.none) (Data.fields (List.toArray [])) (List.toArray []))
noncomputable def hd.o_136 : Params → Obj := fun _ => (Obj.mk Value.none (Option.none) (hd.fnO (o := (hd.at1 13)) rfl (Str.ofString "whole_subscripts") (Str.ofString "whole_subscripts") 0 [] Value.none Value.none Value.none Value.none (Option.none) Value.none Value.none 0) (List.toArray []))
noncomputable def hd.o_140 : Params → Obj := fun _ => (Obj.mk Value.none (Option.none) (Data.fields (List.toArray [])) (List.toArray []))
noncomputable def hd.o_143 : Params → Obj := fun _ => (Obj.mk Value.none (Option.none) (hd.fnO (o := (hd.at1 14)) rfl (Str.ofString "logical_places") (Str.ofString "logical_places") 0 [] Value.none Value.none Value.none Value.none (Option.none) Value.none Value.none 0) (List.toArray []))
noncomputable def hd.o_149 : Params → Obj := fun _ => (Obj.mk Value.none (Option.none) (Data.fields (List.toArray [])) (List.toArray []))
noncomputable def hd.o_150 : Params → Obj := fun _ => (Obj.mk Value.none (Option.none) (hd.fnO (o := (hd.at1 15)) rfl (Str.ofString "whole_places") (Str.ofString "whole_places") 0 [] Value.none Value.none Value.none Value.none (Option.none) Value.none Value.none 0) (List.toArray []))
noncomputable def hd.o_154 : Params → Obj := fun _ => (Obj.mk Value.none (Option.none) (Data.fields (List.toArray [])) (List.toArray []))
noncomputable def hd.o_157 : Params → Obj := fun _ => (Obj.mk Value.none (Option.none) (hd.fnO (o := (hd.at1 16)) rfl (Str.ofString "first_places") (Str.ofString "first_places") 0 [] Value.none Value.none Value.none Value.none (Option.none) Value.none Value.none 0) (List.toArray []))
noncomputable def hd.o_161 : Params → Obj := fun _ => (Obj.mk Value.none (Option.none) (Data.fields (List.toArray [])) (List.toArray []))
noncomputable def hd.o_164 : Params → Obj := fun _ => (Obj.mk Value.none (Option.none) (hd.fnO (o := (hd.at1 17)) rfl (Str.ofString "name_places") (Str.ofString "name_places") 0 [] Value.none Value.none Value.none Value.none (Option.none) Value.none Value.none 0) (List.toArray []))
noncomputable def hd.o_168 : Params → Obj := fun _ => (Obj.mk Value.none (Option.none) (Data.fields (List.toArray [])) (List.toArray []))
noncomputable def hd.o_171 : Params → Obj := fun _ => (Obj.mk Value.none (Option.none) (hd.fnO (o := (hd.at1 18)) rfl (Str.ofString "extending_places") (Str.ofString "extending_places") 0 [] Value.none Value.none Value.none Value.none (Option.none) Value.none Value.none 0) (List.toArray []))
noncomputable def hd.o_175 : Params → Obj := fun _ => (Obj.mk Value.none (Option.none) (Data.fields (List.toArray [])) (List.toArray []))
noncomputable def hd.o_178 : Params → Obj := fun _ => (Obj.mk Value.none (Option.none) (hd.fnO (o := (hd.at1 19)) rfl (Str.ofString "positions") (Str.ofString "positions") 0 [] Value.none Value.none Value.none Value.none (Option.none) Value.none Value.none 0) (List.toArray []))
noncomputable def hd.o_182 : Params → Obj := fun _ => (Obj.mk (Value.type "builtin_function_or_method") (Option.none) (Data.fields (List.toArray [(Value.builtin "type.__prepare__"), (Value.type "type")])) (List.toArray []))
noncomputable def hd.o_183 : Params → Obj := fun P => (Obj.mk (Value.type "dict") (Option.none) (Data.dict (List.toArray [(DictEntry.mk (PyData.keyHash P (Str.ofString "__module__")) (Value.str (Str.ofString "__module__") 372) (Value.str (Str.ofString "vectorcove.values") 363)), (DictEntry.mk (PyData.keyHash P (Str.ofString "__qualname__")) (Value.str (Str.ofString "__qualname__") 374) (Value.str (Str.ofString "Null") 373)), (DictEntry.mk (PyData.keyHash P (Str.ofString "__firstlineno__")) (Value.str (Str.ofString "__firstlineno__") 376) (Value.int 139 375)), (DictEntry.mk (PyData.keyHash P (Str.ofString "__init__")) (Value.str (Str.ofString "__init__") 383) (Value.ref 152)), (DictEntry.mk (PyData.keyHash P (Str.ofString "__static_attributes__")) (Value.str (Str.ofString "__static_attributes__") 386) (Value.ref 153))]) 5) (List.toArray []))
noncomputable def hd.o_185 : Params → Obj := fun _ => (Obj.mk Value.none (Option.none) (Data.fields (List.toArray [(Value.int 141 0), (Value.int 4 0), (Value.ref 151)])) (List.toArray []))
noncomputable def hd.o_186 : Params → Obj := fun _ => (Obj.mk (Value.type "code") (Option.none) (Data.fields (List.toArray [(Value.str (Str.ofString "Null") 367), (Value.str (Str.ofString "Null") 368), (Value.str (Str.ofString "/claim/cut.py") 369), (Value.int 139 0), (Value.int 0 0), (Value.int 0 0), (Value.int 0 0), (Value.int 0 0), (Value.ref 142), (Value.bool Bool.false), (Value.int 181 0), (Value.ref 143), Value.none, Value.none, Value.none, Value.none, (Value.int 370 0), (Value.int 139 0), (Value.str (Str.ofString "/claim/cut.py") 371)])) (List.toArray []))
noncomputable def hd.o_187 : Params → Obj := fun _ => (Obj.mk (Value.type "frame") (Option.none) Data.plain (List.toArray [(Option.some (Value.ref 144)), (Option.some (Value.ref 3)), (Option.some (Value.ref 141)), (Option.none), (Option.some (Value.str (Str.ofString "vectorcove.values") 363)), (Option.none), (Option.some (Value.ref 0))]))
noncomputable def hd.o_189 : Params → Obj := fun _ => (Obj.mk Value.none (Option.none) (Data.fields (List.toArray [])) (List.toArray []))
noncomputable def hd.o_192 : Params → Obj := fun _ => (Obj.mk Value.none (Option.none) (hd.fnO (o := (hd.at2 21 0)) rfl (Str.ofString "__init__") (Str.ofString "Null.__init__") 0 [] Value.none Value.none Value.none Value.none (Option.none) Value.none Value.none 0) (List.toArray []))
noncomputable def hd.o_200 : Params → Obj := fun _ => (Obj.mk (Value.type "super") (Option.none) (Data.fields (List.toArray [(Value.ref 155), (Value.ref 155), (Value.ref 155)])) (List.toArray []))
noncomputable def hd.o_201 : Params → Obj := fun _ => (Obj.mk (Value.type "builtin_function_or_method") (Option.none) (Data.fields (List.toArray [(Value.builtin "object.__init_subclass__"), (Value.ref 155)])) (List.toArray []))
noncomputable def hd.o_205 : Params → Obj := fun _ => (Obj.mk (Value.type "builtin_function_or_method") (Option.none) (Data.fields (List.toArray [(Value.builtin "type.__prepare__"), (Value.type "type")])) (List.toArray []))
noncomputable def hd.o_206 : Params → Obj := fun P => (Obj.mk (Value.type "dict") (Option.none) (Data.dict (List.toArray [(DictEntry.mk (PyData.keyHash P (Str.ofString "__module__")) (Value.str (Str.ofString "__module__") 401) (Value.str (Str.ofString "vectorcove.values") 363)), (DictEntry.mk (PyData.keyHash P (Str.ofString "__qualname__")) (Value.str (Str.ofString "__qualname__") 403) (Value.str (Str.ofString "Vector") 402)), (DictEntry.mk (PyData.keyHash P (Str.ofString "__firstlineno__")) (Value.str (Str.ofString "__firstlineno__") 405) (Value.int 144 404)), (DictEntry.mk (PyData.keyHash P (Str.ofString "__init__")) (Value.str (Str.ofString "__init__") 415) (Value.ref 174)), (DictEntry.mk (PyData.keyHash P (Str.ofString "copy")) (Value.str (Str.ofString "copy") 422) (Value.ref 181)), (DictEntry.mk (PyData.keyHash P (Str.ofString "__static_attributes__")) (Value.str (Str.ofString "__static_attributes__") 428) (Value.ref 182))]) 6) (List.toArray []))
noncomputable def hd.o_208 : Params → Obj := fun _ => (Obj.mk Value.none (Option.none) (Data.fields (List.toArray [(Value.int 146 0), (Value.int 4 0), (Value.ref 173), (Value.int 153 0), (Value.int 4 0), (Value.ref 180)])) (List.toArray []))
noncomputable def hd.o_209 : Params → Obj := fun _ => (Obj.mk (Value.type "code") (Option.none) (Data.fields (List.toArray [(Value.str (Str.ofString "Vector") 396), (Value.str (Str.ofString "Vector") 397), (Value.str (Str.ofString "/claim/cut.py") 398), (Value.int 144 0), (Value.int 0 0), (Value.int 0 0), (Value.int 0 0), (Value.int 0 0), (Value.ref 163), (Value.bool Bool.false), (Value.int 181 0), (Value.ref 164), Value.none, Value.none, Value.none, Value.none, (Value.int 399 0), (Value.int 144 0), (Value.str (Str.ofString "/claim/cut.py") 400)])) (List.toArray []))
noncomputable def hd.o_210 : Params → Obj := fun _ => (Obj.mk (Value.type "frame") (Option.none) Data.plain (List.toArray [(Option.some (Value.ref 165)), (Option.some (Value.ref 3)), (Option.some (Value.ref 162)), (Option.none), (Option.some (Value.str (Str.ofString "vectorcove.values") 363)), (Option.none), (Option.some (Value.ref 0))]))
noncomputable def hd.o_213 : Params → Obj := fun _ => (Obj.mk Value.none (Option.none) (Data.fields (List.toArray [])) (List.toArray []))
noncomputable def hd.o_216 : Params → Obj := fun _ => (Obj.mk Value.none (Option.none) (hd.fnO (o := (hd.at2 22 0)) rfl (Str.ofString "__init__") (Str.ofString "Vector.__init__") 0 [] Value.none Value.none Value.none Value.none (Option.none) Value.none Value.none 0) (List.toArray []))
noncomputable def hd.o_220 : Params → Obj := fun _ => (Obj.mk Value.none (Option.none) (Data.fields (List.toArray [])) (List.toArray []))
noncomputable def hd.o_223 : Params → Obj := fun _ => (Obj.mk Value.none (Option.none) (hd.fnO (o := (hd.at2 22 1)) rfl (Str.ofString "copy") (Str.ofString "Vector.copy") 0 [] Value.none Value.none Value.none Value.none (Option.none) Value.none Value.none 0) (List.toArray []))
noncomputable def hd.o_231 : Params → Obj := fun _ => (Obj.mk (Value.type "super") (Option.none) (Data.fields (List.toArray [(Value.ref 184), (Value.ref 184), (Value.ref 184)])) (List.toArray []))
noncomputable def hd.o_232 : Params → Obj := fun _ => (Obj.mk (Value.type "builtin_function_or_method") (Option.none) (Data.fields (List.toArray [(Value.builtin "object.__init_subclass__"), (Value.ref 184)])) (List.toArray []))
noncomputable def hd.o_234 : Params → Obj := fun _ => (Obj.mk Value.none (Option.none) (Data.fields (List.toArray [])) (List.toArray []))
noncomputable def hd.o_237 : Params → Obj := fun _ => (Obj.mk Value.none (Option.none) (hd.fnO (o := (hd.at1 23)) rfl (Str.ofString "character") (Str.ofString "character") 0 [] Value.none Value.none Value.none Value.none (Option.none) Value.none Value.none 0) (List.toArray []))
noncomputable def hd.o_241 : Params → Obj := fun _ => (Obj.mk Value.none (Option.none) (Data.fields (List.toArray [])) (List.toArray []))
noncomputable def hd.o_244 : Params → Obj := fun _ => (Obj.mk Value.none (Option.none) (hd.fnO (o := (hd.at1 24)) rfl (Str.ofString "named") (Str.ofString "named") 0 [] Value.none Value.none Value.none Value.none (Option.none) Value.none Value.none 0) (List.toArray []))
noncomputable def hd.o_248 : Params → Obj := fun _ => (Obj.mk Value.none (Option.none) (Data.fields (List.toArray [])) (List.toArray []))
noncomputable def hd.o_251 : Params → Obj := fun _ => (Obj.mk Value.none (Option.none) (hd.fnO (o := (hd.at1 26)) rfl (Str.ofString "lacking_item") (Str.ofString "lacking_item") 0 [] Value.none Value.none Value.none Value.none (Option.none) Value.none Value.none 0) (List.toArray []))
noncomputable def hd.o_255 : Params → Obj := fun _ => (Obj.mk Value.none (Option.none) (Data.fields (List.toArray [])) (List.toArray []))
noncomputable def hd.o_258 : Params → Obj := fun _ => (Obj.mk Value.none (Option.none) (hd.fnO (o := (hd.at1 27)) rfl (Str.ofString "result_kind") (Str.ofString "result_kind") 0 [] Value.none Value.none Value.none Value.none (Option.none) Value.none Value.none 0) (List.toArray []))
noncomputable def hd.o_264 : Params → Obj := fun _ => (Obj.mk Value.none (Option.none) (Data.fields (List.toArray [])) (List.toArray []))
noncomputable def hd.o_267 : Params → Obj := fun _ => (Obj.mk Value.none (Option.none) (hd.fnO (o := (hd.at1 28)) rfl (Str.ofString "items_at") (Str.ofString "items_at") 0 [] Value.none Value.none Value.none Value.none (Option.none) Value.none Value.none 0) (List.toArray []))
noncomputable def hd.o_271 : Params → Obj := fun _ => (Obj.mk Value.none (Option.none) (Data.fields (List.toArray [])) (List.toArray []))
noncomputable def hd.o_274 : Params → Obj := fun _ => (Obj.mk Value.none (Option.none) (hd.fnO (o := (hd.at1 29)) rfl (Str.ofString "names_at") (Str.ofString "names_at") 0 [] Value.none Value.none Value.none Value.none (Option.none) Value.none Value.none 0) (List.toArray []))
noncomputable def hd.o_278 : Params → Obj := fun _ => (Obj.mk Value.none (Option.none) (Data.fields (List.toArray [])) (List.toArray []))
noncomputable def hd.o_281 : Params → Obj := fun _ => (Obj.mk Value.none (Option.none) (hd.fnO (o := (hd.at1 30)) rfl (Str.ofString "subset_vector") (Str.ofString "subset_vector") 0 [] Value.none Value.none Value.none Value.none (Option.none) Value.none Value.none 0) (List.toArray []))
noncomputable def hd.o_285 : Params → Obj := fun _ => (Obj.mk Value.none (Option.none) (Data.fields (List.toArray [])) (List.toArray []))
noncomputable def hd.o_288 : Params → Obj := fun _ => (Obj.mk Value.none (Option.none) (hd.fnO (o := (hd.at1 32)) rfl (Str.ofString "_law_cards") (Str.ofString "_law_cards") 0 [] Value.none Value.none Value.none Value.none (Option.none) Value.none Value.none 0) (List.toArray []))
noncomputable def hd.o_292 : Params → Obj := fun _ => (Obj.mk Value.none (Option.none) (Data.fields (List.toArray [])) (List.toArray []))
noncomputable def hd.o_295 : Params → Obj := fun _ => (Obj.mk Value.none (Option.none) (hd.fnO (o := (hd.at1 33)) rfl (Str.ofString "_law_card") (Str.ofString "_law_card") 0 [] Value.none Value.none Value.none Value.none (Option.none) Value.none Value.none 0) (List.toArray []))
noncomputable def hd.o_299 : Params → Obj := fun _ => (Obj.mk Value.none (Option.none) (Data.fields (List.toArray [])) (List.toArray []))
noncomputable def hd.o_300 : Params → Obj := fun _ => (Obj.mk Value.none (Option.none) (hd.fnO (o := (hd.at1 34)) rfl (Str.ofString "_law_index") (Str.ofString "_law_index") 0 [] Value.none Value.none Value.none Value.none (Option.none) Value.none Value.none 0) (List.toArray []))
noncomputable def hd.o_304 : Params → Obj := fun _ => (Obj.mk Value.none (Option.none) (Data.fields (List.toArray [])) (List.toArray []))
noncomputable def hd.o_305 : Params → Obj := fun _ => (Obj.mk Value.none (Option.none) (hd.fnO (o := (hd.at1 35)) rfl (Str.ofString "law") (Str.ofString "law") 0 [] Value.none Value.none Value.none Value.none (Option.none) Value.none Value.none 0) (List.toArray []))
noncomputable def hd.o_50 : Params → Obj := fun P => (Obj.mk (Value.type "dict") (Option.none) (Data.dict (List.toArray [(DictEntry.mk (PyData.keyHash P (Str.ofString "__name__")) (Value.str (Str.ofString "__name__") 165) (Value.str (Str.ofString "vectorcove.errors") 224)), (DictEntry.mk (PyData.keyHash P (Str.ofString "__doc__")) (Value.str (Str.ofString "__doc__") 166) Value.none), (DictEntry.mk (PyData.keyHash P (Str.ofString "__package__")) (Value.str (Str.ofString "__package__") 167) Value.none), (DictEntry.mk (PyData.keyHash P (Str.ofString "__loader__")) (Value.str (Str.ofString "__loader__") 168) (Value.builtin "__main__.__loader__#opaque")), (DictEntry.mk (PyData.keyHash P (Str.ofString "__spec__")) (Value.str (Str.ofString "__spec__") 169) Value.none), (DictEntry.mk (PyData.keyHash P (Str.ofString "__annotations__")) (Value.str (Str.ofString "__annotations__") 170) (Value.ref 6)), (DictEntry.mk (PyData.keyHash P (Str.ofString "__builtins__")) (Value.str (Str.ofString "__builtins__") 171) (Value.ref 4)), (DictEntry.mk (PyData.keyHash P (Str.ofString "__file__")) (Value.str (Str.ofString "__file__") 173) (Value.str (Str.ofString "/claim/cut.py") 172)), (DictEntry.mk (PyData.keyHash P (Str.ofString "__cached__")) (Value.str (Str.ofString "__cached__") 174) Value.none), (DictEntry.mk (PyData.keyHash P (Str.ofString "_wall")) (Value.str (Str.ofString "_wall") 193) (Value.ref 21)), (DictEntry.mk (PyData.keyHash P (Str.ofString "get_attr")) (Value.str (Str.ofString "get_attr") 203) (Value.ref 28)), (DictEntry.mk (PyData.keyHash P (Str.ofString "names_of")) (Value.str (Str.ofString "names_of") 209) (Value.ref 33)), (DictEntry.mk (PyData.keyHash P (Str.ofString "dim_of")) (Value.str (Str.ofString "dim_of") 217) (Value.ref 40)), (DictEntry.mk (PyData.keyHash P (Str.ofString "dimnames_of")) (Value.str (Str.ofString "dimnames_of") 223) (Value.ref 45)), (DictEntry.mk (PyData.keyHash P (Str.ofString "CoveError")) (Value.str (Str.ofString "CoveError") 245) (Value.ref 55))]) 15) (List.toArray []))
noncomputable def hd.o_92 : Params → Obj := fun _ => (Obj.mk (Value.type "type") (Option.none) (Data.cls (ClassData.mk (Str.ofString "CoveError") [(Value.type "Exception")] [(Value.ref 55), (Value.type "Exception"), (Value.type "BaseException"), (Value.type "object")] 54 (Str.ofString "CoveError") Bool.true [] [] Bool.false (Option.none) Bool.false)) (List.toArray [(Option.some (Value.ref 46)), (Option.none), (Option.some (Value.str (Str.ofString "CoveError") 226)), (Option.some (Value.str (Str.ofString "CoveError") 234)), (Option.some (Value.builtin "Exception.__new__")), (Option.some (Value.bool Bool.true))]))
noncomputable def hd.o_51 : Params → Obj := fun _ => (Obj.mk Value.none (Option.none) (Data.fields (List.toArray [(Value.int 1 0), (Value.int 0 0), (Value.ref 20), (Value.int 5 0), (Value.int 0 0), (Value.ref 27), (Value.int 9 0), (Value.int 0 0), (Value.ref 32), (Value.int 25 0), (Value.int 0 0), (Value.ref 39), (Value.int 30 0), (Value.int 0 0), (Value.ref 44), (Value.int 36 0), (Value.int 0 0), (Value.ref 51)])) (List.toArray []))
noncomputable def hd.o_96 : Params → Obj := fun P => (Obj.mk (Value.type "dict") (Option.none) (Data.dict (List.toArray [(DictEntry.mk (PyData.keyHash P (Str.ofString "__name__")) (Value.str (Str.ofString "__name__") 165) (Value.str (Str.ofString "vectorcove.index") 288)), (DictEntry.mk (PyData.keyHash P (Str.ofString "__doc__")) (Value.str (Str.ofString "__doc__") 166) Value.none), (DictEntry.mk (PyData.keyHash P (Str.ofString "__package__")) (Value.str (Str.ofString "__package__") 167) Value.none), (DictEntry.mk (PyData.keyHash P (Str.ofString "__loader__")) (Value.str (Str.ofString "__loader__") 168) (Value.builtin "__main__.__loader__#opaque")), (DictEntry.mk (PyData.keyHash P (Str.ofString "__spec__")) (Value.str (Str.ofString "__spec__") 169) Value.none), (DictEntry.mk (PyData.keyHash P (Str.ofString "__annotations__")) (Value.str (Str.ofString "__annotations__") 170) (Value.ref 6)), (DictEntry.mk (PyData.keyHash P (Str.ofString "__builtins__")) (Value.str (Str.ofString "__builtins__") 171) (Value.ref 4)), (DictEntry.mk (PyData.keyHash P (Str.ofString "__file__")) (Value.str (Str.ofString "__file__") 173) (Value.str (Str.ofString "/claim/cut.py") 172)), (DictEntry.mk (PyData.keyHash P (Str.ofString "__cached__")) (Value.str (Str.ofString "__cached__") 174) Value.none), (DictEntry.mk (PyData.keyHash P (Str.ofString "_wall")) (Value.str (Str.ofString "_wall") 193) (Value.ref 21)), (DictEntry.mk (PyData.keyHash P (Str.ofString "get_attr")) (Value.str (Str.ofString "get_attr") 203) (Value.ref 28)), (DictEntry.mk (PyData.keyHash P (Str.ofString "names_of")) (Value.str (Str.ofString "names_of") 209) (Value.ref 33)), (DictEntry.mk (PyData.keyHash P (Str.ofString "dim_of")) (Value.str (Str.ofString "dim_of") 217) (Value.ref 40)), (DictEntry.mk (PyData.keyHash P (Str.ofString "dimnames_of")) (Value.str (Str.ofString "dimnames_of") 223) (Value.ref 45)), (DictEntry.mk (PyData.keyHash P (Str.ofString "CoveError")) (Value.str (Str.ofString "CoveError") 245) (Value.ref 55)), (DictEntry.mk (PyData.keyHash P (Str.ofString "Refusal")) (Value.str (Str.ofString "Refusal") 270) (Value.ref 75)), (DictEntry.mk (PyData.keyHash P (Str.ofString "is_finite")) (Value.str (Str.ofString "is_finite") 279) (Value.ref 84)), (DictEntry.mk (PyData.keyHash P (Str.ofString "to_whole")) (Value.str (Str.ofString "to_whole") 287) (Value.ref 91)), (DictEntry.mk (PyData.keyHash P (Str.ofString "whole_subscripts")) (Value.str (Str.ofString "whole_subscripts") 298) (Value.ref 98)), (DictEntry.mk (PyData.keyHash P (Str.ofString "logical_places")) (Value.str (Str.ofString "logical_places") 310) (Value.ref 105))]) 20) (List.toArray []))
noncomputable def hd.o_97 : Params → Obj := fun _ => (Obj.mk Value.none (Option.none) (Data.fields (List.toArray [(Value.int 1 0), (Value.int 0 0), (Value.ref 20), (Value.int 5 0), (Value.int 0 0), (Value.ref 27), (Value.int 9 0), (Value.int 0 0), (Value.ref 32), (Value.int 25 0), (Value.int 0 0), (Value.ref 39), (Value.int 30 0), (Value.int 0 0), (Value.ref 44), (Value.int 36 0), (Value.int 0 0), (Value.ref 51), (Value.int 38 0), (Value.int 0 0), (Value.ref 64), (Value.int 43 0), (Value.int 0 0), (Value.ref 83), (Value.int 45 0), (Value.int 0 0), (Value.ref 90), (Value.int 51 0), (Value.int 0 0), (Value.ref 97), (Value.int 61 0), (Value.int 0 0), (Value.ref 104)])) (List.toArray []))
noncomputable def hd.o_146 : Params → Obj := fun P => (Obj.mk (Value.type "dict") (Option.none) (Data.dict (List.toArray [(DictEntry.mk (PyData.keyHash P (Str.ofString "__name__")) (Value.str (Str.ofString "__name__") 165) (Value.str (Str.ofString "vectorcove.values") 363)), (DictEntry.mk (PyData.keyHash P (Str.ofString "__doc__")) (Value.str (Str.ofString "__doc__") 166) Value.none), (DictEntry.mk (PyData.keyHash P (Str.ofString "__package__")) (Value.str (Str.ofString "__package__") 167) Value.none), (DictEntry.mk (PyData.keyHash P (Str.ofString "__loader__")) (Value.str (Str.ofString "__loader__") 168) (Value.builtin "__main__.__loader__#opaque")), (DictEntry.mk (PyData.keyHash P (Str.ofString "__spec__")) (Value.str (Str.ofString "__spec__") 169) Value.none), (DictEntry.mk (PyData.keyHash P (Str.ofString "__annotations__")) (Value.str (Str.ofString "__annotations__") 170) (Value.ref 6)), (DictEntry.mk (PyData.keyHash P (Str.ofString "__builtins__")) (Value.str (Str.ofString "__builtins__") 171) (Value.ref 4)), (DictEntry.mk (PyData.keyHash P (Str.ofString "__file__")) (Value.str (Str.ofString "__file__") 173) (Value.str (Str.ofString "/claim/cut.py") 172)), (DictEntry.mk (PyData.keyHash P (Str.ofString "__cached__")) (Value.str (Str.ofString "__cached__") 174) Value.none), (DictEntry.mk (PyData.keyHash P (Str.ofString "_wall")) (Value.str (Str.ofString "_wall") 193) (Value.ref 21)), (DictEntry.mk (PyData.keyHash P (Str.ofString "get_attr")) (Value.str (Str.ofString "get_attr") 203) (Value.ref 28)), (DictEntry.mk (PyData.keyHash P (Str.ofString "names_of")) (Value.str (Str.ofString "names_of") 209) (Value.ref 33)), (DictEntry.mk (PyData.keyHash P (Str.ofString "dim_of")) (Value.str (Str.ofString "dim_of") 217) (Value.ref 40)), (DictEntry.mk (PyData.keyHash P (Str.ofString "dimnames_of")) (Value.str (Str.ofString "dimnames_of") 223) (Value.ref 45)), (DictEntry.mk (PyData.keyHash P (Str.ofString "CoveError")) (Value.str (Str.ofString "CoveError") 245) (Value.ref 55)), (DictEntry.mk (PyData.keyHash P (Str.ofString "Refusal")) (Value.str (Str.ofString "Refusal") 270) (Value.ref 75)), (DictEntry.mk (PyData.keyHash P (Str.ofString "is_finite")) (Value.str (Str.ofString "is_finite") 279) (Value.ref 84)), (DictEntry.mk (PyData.keyHash P (Str.ofString "to_whole")) (Value.str (Str.ofString "to_whole") 287) (Value.ref 91)), (DictEntry.mk (PyData.keyHash P (Str.ofString "whole_subscripts")) (Value.str (Str.ofString "whole_subscripts") 298) (Value.ref 98)), (DictEntry.mk (PyData.keyHash P (Str.ofString "logical_places")) (Value.str (Str.ofString "logical_places") 310) (Value.ref 105)), (DictEntry.mk (PyData.keyHash P (Str.ofString "whole_places")) (Value.str (Str.ofString "whole_places") 316) (Value.ref 110)), (DictEntry.mk (PyData.keyHash P (Str.ofString "first_places")) (Value.str (Str.ofString "first_places") 326) (Value.ref 117)), (DictEntry.mk (PyData.keyHash P (Str.ofString "name_places")) (Value.str (Str.ofString "name_places") 337) (Value.ref 124)), (DictEntry.mk (PyData.keyHash P (Str.ofString "extending_places")) (Value.str (Str.ofString "extending_places") 351) (Value.ref 131)), (DictEntry.mk (PyData.keyHash P (Str.ofString "positions")) (Value.str (Str.ofString "positions") 362) (Value.ref 138)), (DictEntry.mk (PyData.keyHash P (Str.ofString "Null")) (Value.str (Str.ofString "Null") 393) (Value.ref 155))]) 26) (List.toArray []))
noncomputable def hd.o_147 : Params → Obj := fun _ => (Obj.mk Value.none (Option.none) (Data.fields (List.toArray [(Value.int 1 0), (Value.int 0 0), (Value.ref 20), (Value.int 5 0), (Value.int 0 0), (Value.ref 27), (Value.int 9 0), (Value.int 0 0), (Value.ref 32), (Value.int 25 0), (Value.int 0 0), (Value.ref 39), (Value.int 30 0), (Value.int 0 0), (Value.ref 44), (Value.int 36 0), (Value.int 0 0), (Value.ref 51), (Value.int 38 0), (Value.int 0 0), (Value.ref 64), (Value.int 43 0), (Value.int 0 0), (Value.ref 83), (Value.int 45 0), (Value.int 0 0), (Value.ref 90), (Value.int 51 0), (Value.int 0 0), (Value.ref 97), (Value.int 61 0), (Value.int 0 0), (Value.ref 104), (Value.int 73 0), (Value.int 0 0), (Value.ref 109), (Value.int 92 0), (Value.int 0 0), (Value.ref 116), (Value.int 100 0), (Value.int 0 0), (Value.ref 123), (Value.int 109 0), (Value.int 0 0), (Value.ref 130), (Value.int 123 0), (Value.int 0 0), (Value.ref 137), (Value.int 139 0), (Value.int 0 0), (Value.ref 144)])) (List.toArray []))
noncomputable def hd.o_202 : Params → Obj := fun P => (Obj.mk (Value.type "dict") (Option.none) (Data.dict (List.toArray [(DictEntry.mk (PyData.keyHash P (Str.ofString "__name__")) (Value.str (Str.ofString "__name__") 165) (Value.str (Str.ofString "vectorcove.subset") 451)), (DictEntry.mk (PyData.keyHash P (Str.ofString "__doc__")) (Value.str (Str.ofString "__doc__") 166) Value.none), (DictEntry.mk (PyData.keyHash P (Str.ofString "__package__")) (Value.str (Str.ofString "__package__") 167) Value.none), (DictEntry.mk (PyData.keyHash P (Str.ofString "__loader__")) (Value.str (Str.ofString "__loader__") 168) (Value.builtin "__main__.__loader__#opaque")), (DictEntry.mk (PyData.keyHash P (Str.ofString "__spec__")) (Value.str (Str.ofString "__spec__") 169) Value.none), (DictEntry.mk (PyData.keyHash P (Str.ofString "__annotations__")) (Value.str (Str.ofString "__annotations__") 170) (Value.ref 6)), (DictEntry.mk (PyData.keyHash P (Str.ofString "__builtins__")) (Value.str (Str.ofString "__builtins__") 171) (Value.ref 4)), (DictEntry.mk (PyData.keyHash P (Str.ofString "__file__")) (Value.str (Str.ofString "__file__") 173) (Value.str (Str.ofString "/claim/cut.py") 172)), (DictEntry.mk (PyData.keyHash P (Str.ofString "__cached__")) (Value.str (Str.ofString "__cached__") 174) Value.none), (DictEntry.mk (PyData.keyHash P (Str.ofString "_wall")) (Value.str (Str.ofString "_wall") 193) (Value.ref 21)), (DictEntry.mk (PyData.keyHash P (Str.ofString "get_attr")) (Value.str (Str.ofString "get_attr") 203) (Value.ref 28)), (DictEntry.mk (PyData.keyHash P (Str.ofString "names_of")) (Value.str (Str.ofString "names_of") 209) (Value.ref 33)), (DictEntry.mk (PyData.keyHash P (Str.ofString "dim_of")) (Value.str (Str.ofString "dim_of") 217) (Value.ref 40)), (DictEntry.mk (PyData.keyHash P (Str.ofString "dimnames_of")) (Value.str (Str.ofString "dimnames_of") 223) (Value.ref 45)), (DictEntry.mk (PyData.keyHash P (Str.ofString "CoveError")) (Value.str (Str.ofString "CoveError") 245) (Value.ref 55)), (DictEntry.mk (PyData.keyHash P (Str.ofString "Refusal")) (Value.str (Str.ofString "Refusal") 270) (Value.ref 75)), (DictEntry.mk (PyData.keyHash P (Str.ofString "is_finite")) (Value.str (Str.ofString "is_finite") 279) (Value.ref 84)), (DictEntry.mk (PyData.keyHash P (Str.ofString "to_whole")) (Value.str (Str.ofString "to_whole") 287) (Value.ref 91)), (DictEntry.mk (PyData.keyHash P (Str.ofString "whole_subscripts")) (Value.str (Str.ofString "whole_subscripts") 298) (Value.ref 98)), (DictEntry.mk (PyData.keyHash P (Str.ofString "logical_places")) (Value.str (Str.ofString "logical_places") 310) (Value.ref 105)), (DictEntry.mk (PyData.keyHash P (Str.ofString "whole_places")) (Value.str (Str.ofString "whole_places") 316) (Value.ref 110)), (DictEntry.mk (PyData.keyHash P (Str.ofString "first_places")) (Value.str (Str.ofString "first_places") 326) (Value.ref 117)), (DictEntry.mk (PyData.keyHash P (Str.ofString "name_places")) (Value.str (Str.ofString "name_places") 337) (Value.ref 124)), (DictEntry.mk (PyData.keyHash P (Str.ofString "extending_places")) (Value.str (Str.ofString "extending_places") 351) (Value.ref 131)), (DictEntry.mk (PyData.keyHash P (Str.ofString "positions")) (Value.str (Str.ofString "positions") 362) (Value.ref 138)), (DictEntry.mk (PyData.keyHash P (Str.ofString "Null")) (Value.str (Str.ofString "Null") 393) (Value.ref 155)), (DictEntry.mk (PyData.keyHash P (Str.ofString "Vector")) (Value.str (Str.ofString "Vector") 435) (Value.ref 184)), (DictEntry.mk (PyData.keyHash P (Str.ofString "character")) (Value.str (Str.ofString "character") 442) (Value.ref 195)), (DictEntry.mk (PyData.keyHash P (Str.ofString "named")) (Value.str (Str.ofString "named") 450) (Value.ref 202)), (DictEntry.mk (PyData.keyHash P (Str.ofString "lacking_item")) (Value.str (Str.ofString "lacking_item") 459) (Value.ref 209)), (DictEntry.mk (PyData.keyHash P (Str.ofString "result_kind")) (Value.str (Str.ofString "result_kind") 466) (Value.ref 216))]) 31) (List.toArray []))
noncomputable def hd.o_203 : Params → Obj := fun _ => (Obj.mk Value.none (Option.none) (Data.fields (List.toArray ((Value.int 1 0) :: (Value.int 0 0) :: (Value.ref 20) :: (Value.int 5 0) :: (Value.int 0 0) :: (Value.ref 27) :: (Value.int 9 0) :: (Value.int 0 0) :: (Value.ref 32) :: (Value.int 25 0) :: (Value.int 0 0) :: (Value.ref 39) :: (Value.int 30 0) :: (Value.int 0 0) :: (Value.ref 44) :: (Value.int 36 0) :: (Value.int 0 0) :: (Value.ref 51) :: (Value.int 38 0) :: (Value.int 0 0) :: (Value.ref 64) :: (Value.int 43 0) :: (Value.int 0 0) :: (Value.ref 83) :: (Value.int 45 0) :: (Value.int 0 0) :: (Value.ref 90) :: (Value.int 51 0) :: (Value.int 0 0) :: (Value.ref 97) :: (Value.int 61 0) :: (Value.int 0 0) :: (Value.ref 104) :: (Value.int 73 0) :: (Value.int 0 0) :: (Value.ref 109) :: (Value.int 92 0) :: (Value.int 0 0) :: (Value.ref 116) :: (Value.int 100 0) :: (Value.int 0 0) :: (Value.ref 123) :: (Value.int 109 0) :: (Value.int 0 0) :: (Value.ref 130) :: (Value.int 123 0) :: (Value.int 0 0) :: (Value.ref 137) :: (Value.int 139 0) :: (Value.int 0 0) :: (Value.ref 144) :: (Value.int 144 0) :: (Value.int 0 0) :: (Value.ref 165) :: (Value.int 155 0) :: (Value.int 0 0) :: (Value.ref 194) :: (Value.int 157 0) :: (Value.int 0 0) :: (Value.ref 201) :: (Value.int 162 0) :: (Value.int 0 0) :: (Value.ref 208) :: (Value.int 166 0) :: (Value.int 0 0) :: (Value.ref 215) :: []))) (List.toArray []))
noncomputable def hd.heap_46 : Params → Heap := fun P => ⟨Array.mk [(boot_o_0 P), (boot_o_1 P), (boot_o_2 P), (boot_o_3 P), (boot_o_4 P), (boot_o_5 P), (boot_o_6 P), (boot_o_7 P), (boot_o_8 P), (boot_o_9 P), (boot_o_10 P), (hd.ko P 154), (hd.o_44 P), (hd.o_45 P), (hd.o_46 P)], {}⟩
noncomputable def hd.heap_308 : Params → Heap := fun P => ⟨Array.mk [(boot_o_0 P), (boot_o_1 P), (hd.ko P 0), (hd.ko P 1), (boot_o_4 P), (boot_o_5 P), (boot_o_6 P), (boot_o_7 P), (boot_o_8 P), (boot_o_9 P), (boot_o_10 P), (hd.ko P 154), (hd.o_262 P), (hd.o_45 P), (hd.o_46 P), (hd.ko P 154), (hd.o_53 P), (hd.ko P 3), (hd.ko P 154), (hd.o_56 P), (hd.ko P 5), (hd.ko P 6), (hd.ko P 154), (hd.o_60 P), (hd.ko P 8), (hd.ko P 154), (hd.o_63 P), (hd.ko P 10), (hd.ko P 11), (hd.ko P 154), (hd.o_67 P), (hd.o_68 P), (hd.ko P 13), (hd.ko P 14), (hd.ko P 154), (hd.o_72 P), (hd.ko P 16), (hd.ko P 154), (hd.o_75 P), (hd.ko P 18), (hd.ko P 19), (hd.ko P 154), (hd.o_79 P), (hd.o_80 P), (hd.ko P 21), (hd.ko P 22), (hd.ko P 23), (hd.o_84 P), (hd.o_85 P), (hd.ko P 154), (hd.o_87 P), (hd.o_88 P), (hd.o_89 P), (hd.ko P 154), (hd.ko P 25), (hd.ko P 26), (hd.ko P 27), (hd.o_94 P), (hd.o_95 P), (hd.ko P 28), (hd.o_100 P), (hd.o_101 P), (hd.ko P 154), (hd.o_103 P), (hd.o_104 P), (hd.o_105 P), (hd.ko P 154), (hd.o_107 P), (hd.ko P 30), (hd.ko P 154), (hd.o_110 P), (hd.ko P 32), (hd.ko P 33), (hd.ko P 34), (hd.ko P 35), (hd.ko P 36), (hd.o_116 P), (hd.o_117 P), (hd.ko P 154), (hd.o_119 P), (hd.ko P 38), (hd.ko P 154), (hd.o_122 P), (hd.ko P 40), (hd.ko P 41), (hd.ko P 154), (hd.o_126 P), (hd.ko P 43), (hd.ko P 154), (hd.o_129 P), (hd.ko P 45), (hd.ko P 46), (hd.ko P 154), (hd.o_133 P), (hd.ko P 48), (hd.ko P 154), (hd.o_136 P), (hd.ko P 50), (hd.ko P 51), (hd.ko P 154), (hd.o_140 P), (hd.ko P 53), (hd.ko P 154), (hd.o_143 P), (hd.ko P 55), (hd.ko P 56), (hd.ko P 154), (hd.o_149 P), (hd.o_150 P), (hd.ko P 58), (hd.ko P 59), (hd.ko P 154), (hd.o_154 P), (hd.ko P 61), (hd.ko P 154), (hd.o_157 P), (hd.ko P 63), (hd.ko P 64), (hd.ko P 154), (hd.o_161 P), (hd.ko P 66), (hd.ko P 154), (hd.o_164 P), (hd.ko P 68), (hd.ko P 69), (hd.ko P 154), (hd.o_168 P), (hd.ko P 71), (hd.ko P 154), (hd.o_171 P), (hd.ko P 73), (hd.ko P 74), (hd.ko P 154), (hd.o_175 P), (hd.ko P 76), (hd.ko P 154), (hd.o_178 P), (hd.ko P 78), (hd.ko P 79), (hd.ko P 154), (hd.o_182 P), (hd.o_183 P), (hd.ko P 154), (hd.o_185 P), (hd.o_186 P), (hd.o_187 P), (hd.ko P 154), (hd.o_189 P), (hd.ko P 81), (hd.ko P 154), (hd.o_192 P), (hd.ko P 83), (hd.ko P 84), (hd.ko P 85), (hd.ko P 86), (hd.ko P 87), (hd.ko P 88), (hd.ko P 89), (hd.o_200 P), (hd.o_201 P), (hd.ko P 154), (hd.o_205 P), (hd.o_206 P), (hd.ko P 154), (hd.o_208 P), (hd.o_209 P), (hd.o_210 P), (hd.ko P 90), (hd.ko P 154), (hd.o_213 P), (hd.ko P 92), (hd.ko P 154), (hd.o_216 P), (hd.ko P 94), (hd.ko P 95), (hd.ko P 154), (hd.o_220 P), (hd.ko P 97), (hd.ko P 154), (hd.o_223 P), (hd.ko P 99), (hd.ko P 100), (hd.ko P 101), (hd.ko P 102), (hd.ko P 103), (hd.ko P 104), (hd.ko P 105), (hd.o_231 P), (hd.o_232 P), (hd.ko P 154), (hd.o_234 P), (hd.ko P 107), (hd.ko P 154), (hd.o_237 P), (hd.ko P 109), (hd.ko P 110), (hd.ko P 154), (hd.o_241 P), (hd.ko P 112), (hd.ko P 154), (hd.o_244 P), (hd.ko P 114), (hd.ko P 115), (hd.ko P 154), (hd.o_248 P), (hd.ko P 117), (hd.ko P 154), (hd.o_251 P), (hd.ko P 119), (hd.ko P 120), (hd.ko P 154), (hd.o_255 P), (hd.ko P 122), (hd.ko P 154), (hd.o_258 P), (hd.ko P 124), (hd.ko P 125), (hd.ko P 154), (hd.o_264 P), (hd.ko P 127), (hd.ko P 154), (hd.o_267 P), (hd.ko P 129), (hd.ko P 130), (hd.ko P 154), (hd.o_271 P), (hd.ko P 132), (hd.ko P 154), (hd.o_274 P), (hd.ko P 134), (hd.ko P 135), (hd.ko P 154), (hd.o_278 P), (hd.ko P 137), (hd.ko P 154), (hd.o_281 P), (hd.ko P 139), (hd.ko P 140), (hd.ko P 154), (hd.o_285 P), (hd.ko P 142), (hd.ko P 154), (hd.o_288 P), (hd.ko P 144), (hd.ko P 145), (hd.ko P 154), (hd.o_292 P), (hd.ko P 147), (hd.ko P 154), (hd.o_295 P), (hd.ko P 149), (hd.ko P 150), (hd.ko P 154), (hd.o_299 P), (hd.o_300 P), (hd.ko P 152), (hd.ko P 153), (hd.ko P 154), (hd.o_304 P), (hd.o_305 P), (hd.ko P 155), (hd.ko P 156)], {}⟩
noncomputable def hd.tree_47 : Params → BT := fun P => (.node (boot_o_0 P) (.node (boot_o_1 P) (.node (boot_o_3 P) (.node (boot_o_7 P) .nil .nil) (.node (hd.ko P 154) .nil .nil)) (.node (boot_o_5 P) (.node (boot_o_9 P) .nil .nil) (.node (hd.o_45 P) .nil .nil))) (.node (boot_o_2 P) (.node (boot_o_4 P) (.node (boot_o_8 P) .nil .nil) (.node (hd.o_44 P) .nil .nil)) (.node (boot_o_6 P) (.node (boot_o_10 P) .nil .nil) (.node (hd.o_46 P) .nil .nil))))
noncomputable def hd.tree_95 : Params → BT := fun P => (.node (boot_o_0 P) (.node (boot_o_1 P) (.node (hd.o_50 P) (.node (boot_o_7 P) (.node (hd.ko P 154) (.node (hd.o_68 P) .nil .nil) (.node (hd.o_84 P) .nil .nil)) (.node (hd.o_60 P) (.node (hd.ko P 18) .nil .nil) (.node (hd.o_92 P) .nil .nil))) (.node (hd.ko P 154) (.node (hd.o_56 P) (.node (hd.o_72 P) .nil .nil) (.node (hd.o_88 P) .nil .nil)) (.node (hd.ko P 10) (.node (hd.o_80 P) .nil .nil) .nil))) (.node (boot_o_5 P) (.node (boot_o_9 P) (.node (hd.ko P 3) (.node (hd.ko P 14) .nil .nil) (.node (hd.ko P 154) .nil .nil)) (.node (hd.ko P 154) (.node (hd.ko P 154) .nil .nil) (.node (hd.o_94 P) .nil .nil))) (.node (hd.o_45 P) (.node (hd.ko P 6) (.node (hd.ko P 154) .nil .nil) (.node (hd.ko P 154) .nil .nil)) (.node (hd.ko P 154) (.node (hd.ko P 22) .nil .nil) .nil)))) (.node (hd.ko P 0) (.node (boot_o_4 P) (.node (boot_o_8 P) (.node (hd.o_53 P) (.node (hd.ko P 13) .nil .nil) (.node (hd.o_85 P) .nil .nil)) (.node (hd.ko P 8) (.node (hd.ko P 19) .nil .nil) (.node (hd.ko P 27) .nil .nil))) (.node (hd.o_51 P) (.node (hd.ko P 5) (.node (hd.ko P 16) .nil .nil) (.node (hd.o_89 P) .nil .nil)) (.node (hd.ko P 11) (.node (hd.ko P 21) .nil .nil) .nil))) (.node (boot_o_6 P) (.node (boot_o_10 P) (.node (hd.ko P 154) (.node (hd.ko P 154) .nil .nil) (.node (hd.o_87 P) .nil .nil)) (.node (hd.o_63 P) (.node (hd.o_79 P) .nil .nil) (.node (hd.o_95 P) .nil .nil))) (.node (hd.o_46 P) (.node (hd.ko P 154) (.node (hd.o_75 P) .nil .nil) (.node (hd.ko P 25) .nil .nil)) (.node (hd.o_67 P) (.node (hd.ko P 23) .nil .nil) .nil)))))
noncomputable def hd.tree_145 : Params → BT := fun P => (.node (boot_o_0 P) (.node (boot_o_1 P) (.node (hd.o_96 P) (.node (boot_o_7 P) (.node (hd.ko P 154) (.node (hd.o_68 P) (.node (hd.o_103 P) .nil .nil) (.node (hd.ko P 154) .nil .nil)) (.node (hd.o_84 P) (.node (hd.o_119 P) .nil .nil) .nil)) (.node (hd.o_60 P) (.node (hd.ko P 18) (.node (hd.ko P 32) .nil .nil) (.node (hd.o_143 P) .nil .nil)) (.node (hd.ko P 26) (.node (hd.ko P 43) .nil .nil) .nil))) (.node (hd.ko P 154) (.node (hd.o_56 P) (.node (hd.o_72 P) (.node (hd.o_107 P) .nil .nil) (.node (hd.ko P 154) .nil .nil)) (.node (hd.o_88 P) (.node (hd.ko P 40) .nil .nil) .nil)) (.node (hd.ko P 10) (.node (hd.o_80 P) (.node (hd.ko P 36) .nil .nil) .nil) (.node (hd.ko P 28) (.node (hd.ko P 46) .nil .nil) .nil)))) (.node (boot_o_5 P) (.node (boot_o_9 P) (.node (hd.ko P 3) (.node (hd.ko P 14) (.node (hd.o_105 P) .nil .nil) (.node (hd.ko P 50) .nil .nil)) (.node (hd.ko P 154) (.node (hd.ko P 154) .nil .nil) .nil)) (.node (hd.ko P 154) (.node (hd.ko P 154) (.node (hd.ko P 34) .nil .nil) (.node (hd.ko P 56) .nil .nil)) (.node (hd.o_94 P) (.node (hd.o_129 P) .nil .nil) .nil))) (.node (hd.o_45 P) (.node (hd.ko P 6) (.node (hd.ko P 154) (.node (hd.ko P 154) .nil .nil) (.node (hd.ko P 53) .nil .nil)) (.node (hd.ko P 154) (.node (hd.ko P 154) .nil .nil) .nil)) (.node (hd.ko P 154) (.node (hd.ko P 22) (.node (hd.o_117 P) .nil .nil) .nil) (.node (hd.o_101 P) (.node (hd.o_133 P) .nil .nil) .nil))))) (.node (hd.ko P 0) (.node (boot_o_4 P) (.node (boot_o_8 P) (.node (hd.o_53 P) (.node (hd.ko P 13) (.node (hd.o_104 P) .nil .nil) (.node (hd.o_136 P) .nil .nil)) (.node (hd.o_85 P) (.node (hd.ko P 38) .nil .nil) .nil)) (.node (hd.ko P 8) (.node (hd.ko P 19) (.node (hd.ko P 33) .nil .nil) (.node (hd.ko P 55) .nil .nil)) (.node (hd.ko P 27) (.node (hd.ko P 154) .nil .nil) .nil))) (.node (hd.o_97 P) (.node (hd.ko P 5) (.node (hd.ko P 16) (.node (hd.ko P 30) .nil .nil) (.node (hd.o_140 P) .nil .nil)) (.node (hd.o_89 P) (.node (hd.ko P 41) .nil .nil) .nil)) (.node (hd.ko P 11) (.node (hd.ko P 21) (.node (hd.o_116 P) .nil .nil) .nil) (.node (hd.o_100 P) (.node (hd.ko P 154) .nil .nil) .nil)))) (.node (boot_o_6 P) (.node (boot_o_10 P) (.node (hd.ko P 154) (.node (hd.ko P 154) (.node (hd.ko P 154) .nil .nil) (.node (hd.ko P 51) .nil .nil)) (.node (hd.o_87 P) (.node (hd.o_122 P) .nil .nil) .nil)) (.node (hd.o_63 P) (.node (hd.o_79 P) (.node (hd.ko P 35) .nil .nil) .nil) (.node (hd.o_95 P) (.node (hd.ko P 45) .nil .nil) .nil))) (.node (hd.o_46 P) (.node (hd.ko P 154) (.node (hd.o_75 P) (.node (hd.o_110 P) .nil .nil) (.node (hd.ko P 154) .nil .nil)) (.node (hd.ko P 25) (.node (hd.o_126 P) .nil .nil) .nil)) (.node (hd.o_67 P) (.node (hd.ko P 23) (.node (hd.ko P 154) .nil .nil) .nil) (.node (hd.ko P 154) (.node (hd.ko P 48) .nil .nil) .nil))))))
noncomputable def hd.tree_201 : Params → BT := fun P => (.node (boot_o_0 P) (.node (boot_o_1 P) (.node (hd.o_146 P) (.node (boot_o_7 P) (.node (hd.ko P 154) (.node (hd.o_68 P) (.node (hd.o_103 P) (.node (hd.ko P 71) .nil .nil) .nil) (.node (hd.ko P 154) (.node (hd.o_201 P) .nil .nil) .nil)) (.node (hd.o_84 P) (.node (hd.o_119 P) (.node (hd.o_185 P) .nil .nil) .nil) (.node (hd.ko P 154) .nil .nil))) (.node (hd.o_60 P) (.node (hd.ko P 18) (.node (hd.ko P 32) (.node (hd.ko P 154) .nil .nil) .nil) (.node (hd.o_143 P) .nil .nil)) (.node (hd.ko P 26) (.node (hd.ko P 43) (.node (hd.ko P 83) .nil .nil) .nil) (.node (hd.o_161 P) .nil .nil)))) (.node (hd.ko P 154) (.node (hd.o_56 P) (.node (hd.o_72 P) (.node (hd.o_107 P) (.node (hd.ko P 74) .nil .nil) .nil) (.node (hd.ko P 154) .nil .nil)) (.node (hd.o_88 P) (.node (hd.ko P 40) (.node (hd.o_189 P) .nil .nil) .nil) (.node (hd.o_157 P) .nil .nil))) (.node (hd.ko P 10) (.node (hd.o_80 P) (.node (hd.ko P 36) (.node (hd.ko P 154) .nil .nil) .nil) (.node (hd.o_149 P) .nil .nil)) (.node (hd.ko P 28) (.node (hd.ko P 46) (.node (hd.ko P 87) .nil .nil) .nil) (.node (hd.ko P 68) .nil .nil))))) (.node (boot_o_5 P) (.node (boot_o_9 P) (.node (hd.ko P 3) (.node (hd.ko P 14) (.node (hd.o_105 P) (.node (hd.o_171 P) .nil .nil) .nil) (.node (hd.ko P 50) .nil .nil)) (.node (hd.ko P 154) (.node (hd.ko P 154) (.node (hd.o_187 P) .nil .nil) .nil) (.node (hd.ko P 61) .nil .nil))) (.node (hd.ko P 154) (.node (hd.ko P 154) (.node (hd.ko P 34) (.node (hd.ko P 78) .nil .nil) .nil) (.node (hd.ko P 56) .nil .nil)) (.node (hd.o_94 P) (.node (hd.o_129 P) (.node (hd.ko P 85) .nil .nil) .nil) (.node (hd.ko P 154) .nil .nil)))) (.node (hd.o_45 P) (.node (hd.ko P 6) (.node (hd.ko P 154) (.node (hd.ko P 154) (.node (hd.o_175 P) .nil .nil) .nil) (.node (hd.ko P 53) .nil .nil)) (.node (hd.ko P 154) (.node (hd.ko P 154) (.node (hd.ko P 154) .nil .nil) .nil) (.node (hd.ko P 64) .nil .nil))) (.node (hd.ko P 154) (.node (hd.ko P 22) (.node (hd.o_117 P) (.node (hd.o_183 P) .nil .nil) .nil) (.node (hd.ko P 58) .nil .nil)) (.node (hd.o_101 P) (.node (hd.o_133 P) (.node (hd.ko P 89) .nil .nil) .nil) (.node (hd.ko P 154) .nil .nil)))))) (.node (hd.ko P 0) (.node (boot_o_4 P) (.node (boot_o_8 P) (.node (hd.o_53 P) (.node (hd.ko P 13) (.node (hd.o_104 P) (.node (hd.ko P 154) .nil .nil) .nil) (.node (hd.o_136 P) .nil .nil)) (.node (hd.o_85 P) (.node (hd.ko P 38) (.node (hd.o_186 P) .nil .nil) .nil) (.node (hd.o_154 P) .nil .nil))) (.node (hd.ko P 8) (.node (hd.ko P 19) (.node (hd.ko P 33) (.node (hd.o_178 P) .nil .nil) .nil) (.node (hd.ko P 55) .nil .nil)) (.node (hd.ko P 27) (.node (hd.ko P 154) (.node (hd.ko P 84) .nil .nil) .nil) (.node (hd.ko P 66) .nil .nil)))) (.node (hd.o_147 P) (.node (hd.ko P 5) (.node (hd.ko P 16) (.node (hd.ko P 30) (.node (hd.ko P 154) .nil .nil) .nil) (.node (hd.o_140 P) .nil .nil)) (.node (hd.o_89 P) (.node (hd.ko P 41) (.node (hd.ko P 81) .nil .nil) .nil) (.node (hd.ko P 63) .nil .nil))) (.node (hd.ko P 11) (.node (hd.ko P 21) (.node (hd.o_116 P) (.node (hd.o_182 P) .nil .nil) .nil) (.node (hd.o_150 P) .nil .nil)) (.node (hd.o_100 P) (.node (hd.ko P 154) (.node (hd.ko P 88) .nil .nil) .nil) (.node (hd.ko P 69) .nil .nil))))) (.node (boot_o_6 P) (.node (boot_o_10 P) (.node (hd.ko P 154) (.node (hd.ko P 154) (.node (hd.ko P 154) (.node (hd.ko P 73) .nil .nil) .nil) (.node (hd.ko P 51) .nil .nil)) (.node (hd.o_87 P) (.node (hd.o_122 P) (.node (hd.ko P 154) .nil .nil) .nil) (.node (hd.ko P 154) .nil .nil))) (.node (hd.o_63 P) (.node (hd.o_79 P) (.node (hd.ko P 35) (.node (hd.ko P 79) .nil .nil) .nil) (.node (hd.ko P 154) .nil .nil)) (.node (hd.o_95 P) (.node (hd.ko P 45) (.node (hd.ko P 86) .nil .nil) .nil) (.node (hd.o_164 P) .nil .nil)))) (.node (hd.o_46 P) (.node (hd.ko P 154) (.node (hd.o_75 P) (.node (hd.o_110 P) (.node (hd.ko P 76) .nil .nil) .nil) (.node (hd.ko P 154) .nil .nil)) (.node (hd.ko P 25) (.node (hd.o_126 P) (.node (hd.o_192 P) .nil .nil) .nil) (.node (hd.ko P 154) .nil .nil))) (.node (hd.o_67 P) (.node (hd.ko P 23) (.node (hd.ko P 154) (.node (hd.ko P 154) .nil .nil) .nil) (.node (hd.ko P 59) .nil .nil)) (.node (hd.ko P 154) (.node (hd.ko P 48) (.node (hd.o_200 P) .nil .nil) .nil) (.node (hd.o_168 P) .nil .nil)))))))
noncomputable def hd.tree_260 : Params → BT := fun P => (.node (boot_o_0 P) (.node (boot_o_1 P) (.node (hd.o_202 P) (.node (boot_o_7 P) (.node (hd.ko P 154) (.node (hd.o_68 P) (.node (hd.o_103 P) (.node (hd.ko P 71) .nil .nil) (.node (hd.ko P 107) .nil .nil)) (.node (hd.ko P 154) (.node (hd.o_201 P) .nil .nil) .nil)) (.node (hd.o_84 P) (.node (hd.o_119 P) (.node (hd.o_185 P) .nil .nil) (.node (hd.o_251 P) .nil .nil)) (.node (hd.ko P 154) (.node (hd.ko P 154) .nil .nil) .nil))) (.node (hd.o_60 P) (.node (hd.ko P 18) (.node (hd.ko P 32) (.node (hd.ko P 154) .nil .nil) (.node (hd.ko P 154) .nil .nil)) (.node (hd.o_143 P) (.node (hd.ko P 90) .nil .nil) .nil)) (.node (hd.ko P 26) (.node (hd.ko P 43) (.node (hd.ko P 83) .nil .nil) (.node (hd.ko P 124) .nil .nil)) (.node (hd.o_161 P) (.node (hd.ko P 102) .nil .nil) .nil)))) (.node (hd.ko P 154) (.node (hd.o_56 P) (.node (hd.o_72 P) (.node (hd.o_107 P) (.node (hd.ko P 74) .nil .nil) (.node (hd.ko P 110) .nil .nil)) (.node (hd.ko P 154) (.node (hd.ko P 154) .nil .nil) .nil)) (.node (hd.o_88 P) (.node (hd.ko P 40) (.node (hd.o_189 P) .nil .nil) (.node (hd.o_255 P) .nil .nil)) (.node (hd.o_157 P) (.node (hd.o_223 P) .nil .nil) .nil))) (.node (hd.ko P 10) (.node (hd.o_80 P) (.node (hd.ko P 36) (.node (hd.ko P 154) .nil .nil) (.node (hd.ko P 154) .nil .nil)) (.node (hd.o_149 P) (.node (hd.ko P 154) .nil .nil) .nil)) (.node (hd.ko P 28) (.node (hd.ko P 46) (.node (hd.ko P 87) .nil .nil) .nil) (.node (hd.ko P 68) (.node (hd.o_231 P) .nil .nil) .nil))))) (.node (boot_o_5 P) (.node (boot_o_9 P) (.node (hd.ko P 3) (.node (hd.ko P 14) (.node (hd.o_105 P) (.node (hd.o_171 P) .nil .nil) (.node (hd.o_237 P) .nil .nil)) (.node (hd.ko P 50) (.node (hd.o_205 P) .nil .nil) .nil)) (.node (hd.ko P 154) (.node (hd.ko P 154) (.node (hd.o_187 P) .nil .nil) (.node (hd.ko P 120) .nil .nil)) (.node (hd.ko P 61) (.node (hd.ko P 97) .nil .nil) .nil))) (.node (hd.ko P 154) (.node (hd.ko P 154) (.node (hd.ko P 34) (.node (hd.ko P 78) .nil .nil) (.node (hd.ko P 114) .nil .nil)) (.node (hd.ko P 56) (.node (hd.o_213 P) .nil .nil) .nil)) (.node (hd.o_94 P) (.node (hd.o_129 P) (.node (hd.ko P 85) .nil .nil) .nil) (.node (hd.ko P 154) (.node (hd.ko P 104) .nil .nil) .nil)))) (.node (hd.o_45 P) (.node (hd.ko P 6) (.node (hd.ko P 154) (.node (hd.ko P 154) (.node (hd.o_175 P) .nil .nil) (.node (hd.o_241 P) .nil .nil)) (.node (hd.ko P 53) (.node (hd.o_209 P) .nil .nil) .nil)) (.node (hd.ko P 154) (.node (hd.ko P 154) (.node (hd.ko P 154) .nil .nil) (.node (hd.ko P 154) .nil .nil)) (.node (hd.ko P 64) (.node (hd.ko P 100) .nil .nil) .nil))) (.node (hd.ko P 154) (.node (hd.ko P 22) (.node (hd.o_117 P) (.node (hd.o_183 P) .nil .nil) (.node (hd.ko P 117) .nil .nil)) (.node (hd.ko P 58) (.node (hd.ko P 94) .nil .nil) .nil)) (.node (hd.o_101 P) (.node (hd.o_133 P) (.node (hd.ko P 89) .nil .nil) .nil) (.node (hd.ko P 154) (.node (hd.ko P 154) .nil .nil) .nil)))))) (.node (hd.ko P 0) (.node (boot_o_4 P) (.node (boot_o_8 P) (.node (hd.o_53 P) (.node (hd.ko P 13) (.node (hd.o_104 P) (.node (hd.ko P 154) .nil .nil) (.node (hd.ko P 154) .nil .nil)) (.node (hd.o_136 P) (.node (hd.ko P 154) .nil .nil) .nil)) (.node (hd.o_85 P) (.node (hd.ko P 38) (.node (hd.o_186 P) .nil .nil) (.node (hd.ko P 119) .nil .nil)) (.node (hd.o_154 P) (.node (hd.o_220 P) .nil .nil) .nil))) (.node (hd.ko P 8) (.node (hd.ko P 19) (.node (hd.ko P 33) (.node (hd.o_178 P) .nil .nil) (.node (hd.o_244 P) .nil .nil)) (.node (hd.ko P 55) (.node (hd.ko P 154) .nil .nil) .nil)) (.node (hd.ko P 27) (.node (hd.ko P 154) (.node (hd.ko P 84) .nil .nil) (.node (hd.ko P 125) .nil .nil)) (.node (hd.ko P 66) (.node (hd.ko P 103) .nil .nil) .nil)))) (.node (hd.o_203 P) (.node (hd.ko P 5) (.node (hd.ko P 16) (.node (hd.ko P 30) (.node (hd.ko P 154) .nil .nil) (.node (hd.ko P 154) .nil .nil)) (.node (hd.o_140 P) (.node (hd.o_208 P) .nil .nil) .nil)) (.node (hd.o_89 P) (.node (hd.ko P 41) (.node (hd.ko P 81) .nil .nil) (.node (hd.ko P 122) .nil .nil)) (.node (hd.ko P 63) (.node (hd.ko P 99) .nil .nil) .nil))) (.node (hd.ko P 11) (.node (hd.ko P 21) (.node (hd.o_116 P) (.node (hd.o_182 P) .nil .nil) (.node (hd.o_248 P) .nil .nil)) (.node (hd.o_150 P) (.node (hd.o_216 P) .nil .nil) .nil)) (.node (hd.o_100 P) (.node (hd.ko P 154) (.node (hd.ko P 88) .nil .nil) .nil) (.node (hd.ko P 69) (.node (hd.o_232 P) .nil .nil) .nil))))) (.node (boot_o_6 P) (.node (boot_o_10 P) (.node (hd.ko P 154) (.node (hd.ko P 154) (.node (hd.ko P 154) (.node (hd.ko P 73) .nil .nil) (.node (hd.ko P 109) .nil .nil)) (.node (hd.ko P 51) (.node (hd.o_206 P) .nil .nil) .nil)) (.node (hd.o_87 P) (.node (hd.o_122 P) (.node (hd.ko P 154) .nil .nil) (.node (hd.ko P 154) .nil .nil)) (.node (hd.ko P 154) (.node (hd.ko P 154) .nil .nil) .nil))) (.node (hd.o_63 P) (.node (hd.o_79 P) (.node (hd.ko P 35) (.node (hd.ko P 79) .nil .nil) (.node (hd.ko P 115) .nil .nil)) (.node (hd.ko P 154) (.node (hd.ko P 92) .nil .nil) .nil)) (.node (hd.o_95 P) (.node (hd.ko P 45) (.node (hd.ko P 86) .nil .nil) .nil) (.node (hd.o_164 P) (.node (hd.ko P 105) .nil .nil) .nil)))) (.node (hd.o_46 P) (.node (hd.ko P 154) (.node (hd.o_75 P) (.node (hd.o_110 P) (.node (hd.ko P 76) .nil .nil) (.node (hd.ko P 112) .nil .nil)) (.node (hd.ko P 154) (.node (hd.o_210 P) .nil .nil) .nil)) (.node (hd.ko P 25) (.node (hd.o_126 P) (.node (hd.o_192 P) .nil .nil) (.node (hd.o_258 P) .nil .nil)) (.node (hd.ko P 154) (.node (hd.ko P 101) .nil .nil) .nil))) (.node (hd.o_67 P) (.node (hd.ko P 23) (.node (hd.ko P 154) (.node (hd.ko P 154) .nil .nil) (.node (hd.ko P 154) .nil .nil)) (.node (hd.ko P 59) (.node (hd.ko P 95) .nil .nil) .nil)) (.node (hd.ko P 154) (.node (hd.ko P 48) (.node (hd.o_200 P) .nil .nil) .nil) (.node (hd.o_168 P) (.node (hd.o_234 P) .nil .nil) .nil)))))))
noncomputable def hd.tree_307 : Params → BT := fun P => (.node (boot_o_0 P) (.node (boot_o_1 P) (.node (hd.ko P 1) (.node (boot_o_7 P) (.node (hd.ko P 154) (.node (hd.o_68 P) (.node (hd.o_103 P) (.node (hd.ko P 71) (.node (hd.ko P 152) .nil .nil) .nil) (.node (hd.ko P 107) .nil .nil)) (.node (hd.ko P 154) (.node (hd.o_201 P) .nil .nil) (.node (hd.ko P 130) .nil .nil))) (.node (hd.o_84 P) (.node (hd.o_119 P) (.node (hd.o_185 P) .nil .nil) (.node (hd.o_251 P) .nil .nil)) (.node (hd.ko P 154) (.node (hd.ko P 154) .nil .nil) (.node (hd.o_285 P) .nil .nil)))) (.node (hd.o_60 P) (.node (hd.ko P 18) (.node (hd.ko P 32) (.node (hd.ko P 154) .nil .nil) (.node (hd.ko P 154) .nil .nil)) (.node (hd.o_143 P) (.node (hd.ko P 90) .nil .nil) (.node (hd.ko P 154) .nil .nil))) (.node (hd.ko P 26) (.node (hd.ko P 43) (.node (hd.ko P 83) .nil .nil) (.node (hd.ko P 124) .nil .nil)) (.node (hd.o_161 P) (.node (hd.ko P 102) .nil .nil) (.node (hd.ko P 147) .nil .nil))))) (.node (hd.ko P 154) (.node (hd.o_56 P) (.node (hd.o_72 P) (.node (hd.o_107 P) (.node (hd.ko P 74) (.node (hd.o_305 P) .nil .nil) .nil) (.node (hd.ko P 110) .nil .nil)) (.node (hd.ko P 154) (.node (hd.ko P 154) .nil .nil) (.node (hd.ko P 154) .nil .nil))) (.node (hd.o_88 P) (.node (hd.ko P 40) (.node (hd.o_189 P) .nil .nil) (.node (hd.o_255 P) .nil .nil)) (.node (hd.o_157 P) (.node (hd.o_223 P) .nil .nil) (.node (hd.ko P 144) .nil .nil)))) (.node (hd.ko P 10) (.node (hd.o_80 P) (.node (hd.ko P 36) (.node (hd.ko P 154) .nil .nil) (.node (hd.ko P 154) .nil .nil)) (.node (hd.o_149 P) (.node (hd.ko P 154) .nil .nil) (.node (hd.o_281 P) .nil .nil))) (.node (hd.ko P 28) (.node (hd.ko P 46) (.node (hd.ko P 87) .nil .nil) (.node (hd.ko P 127) .nil .nil)) (.node (hd.ko P 68) (.node (hd.o_231 P) .nil .nil) (.node (hd.ko P 150) .nil .nil)))))) (.node (boot_o_5 P) (.node (boot_o_9 P) (.node (hd.ko P 3) (.node (hd.ko P 14) (.node (hd.o_105 P) (.node (hd.o_171 P) (.node (hd.ko P 154) .nil .nil) .nil) (.node (hd.o_237 P) .nil .nil)) (.node (hd.ko P 50) (.node (hd.o_205 P) .nil .nil) (.node (hd.o_271 P) .nil .nil))) (.node (hd.ko P 154) (.node (hd.ko P 154) (.node (hd.o_187 P) .nil .nil) (.node (hd.ko P 120) .nil .nil)) (.node (hd.ko P 61) (.node (hd.ko P 97) .nil .nil) (.node (hd.ko P 154) .nil .nil)))) (.node (hd.ko P 154) (.node (hd.ko P 154) (.node (hd.ko P 34) (.node (hd.ko P 78) .nil .nil) (.node (hd.ko P 114) .nil .nil)) (.node (hd.ko P 56) (.node (hd.o_213 P) .nil .nil) (.node (hd.ko P 137) .nil .nil))) (.node (hd.o_94 P) (.node (hd.o_129 P) (.node (hd.ko P 85) .nil .nil) (.node (hd.ko P 154) .nil .nil)) (.node (hd.ko P 154) (.node (hd.ko P 104) .nil .nil) (.node (hd.o_295 P) .nil .nil))))) (.node (hd.o_45 P) (.node (hd.ko P 6) (.node (hd.ko P 154) (.node (hd.ko P 154) (.node (hd.o_175 P) (.node (hd.ko P 156) .nil .nil) .nil) (.node (hd.o_241 P) .nil .nil)) (.node (hd.ko P 53) (.node (hd.o_209 P) .nil .nil) (.node (hd.ko P 134) .nil .nil))) (.node (hd.ko P 154) (.node (hd.ko P 154) (.node (hd.ko P 154) .nil .nil) (.node (hd.ko P 154) .nil .nil)) (.node (hd.ko P 64) (.node (hd.ko P 100) .nil .nil) (.node (hd.ko P 154) .nil .nil)))) (.node (hd.ko P 154) (.node (hd.ko P 22) (.node (hd.o_117 P) (.node (hd.o_183 P) .nil .nil) (.node (hd.ko P 117) .nil .nil)) (.node (hd.ko P 58) (.node (hd.ko P 94) .nil .nil) (.node (hd.ko P 140) .nil .nil))) (.node (hd.o_101 P) (.node (hd.o_133 P) (.node (hd.ko P 89) .nil .nil) (.node (hd.o_267 P) .nil .nil)) (.node (hd.ko P 154) (.node (hd.ko P 154) .nil .nil) (.node (hd.o_299 P) .nil .nil))))))) (.node (hd.ko P 0) (.node (boot_o_4 P) (.node (boot_o_8 P) (.node (hd.o_53 P) (.node (hd.ko P 13) (.node (hd.o_104 P) (.node (hd.ko P 154) (.node (hd.ko P 153) .nil .nil) .nil) (.node (hd.ko P 154) .nil .nil)) (.node (hd.o_136 P) (.node (hd.ko P 154) .nil .nil) (.node (hd.ko P 154) .nil .nil))) (.node (hd.o_85 P) (.node (hd.ko P 38) (.node (hd.o_186 P) .nil .nil) (.node (hd.ko P 119) .nil .nil)) (.node (hd.o_154 P) (.node (hd.o_220 P) .nil .nil) (.node (hd.ko P 142) .nil .nil)))) (.node (hd.ko P 8) (.node (hd.ko P 19) (.node (hd.ko P 33) (.node (hd.o_178 P) .nil .nil) (.node (hd.o_244 P) .nil .nil)) (.node (hd.ko P 55) (.node (hd.ko P 154) .nil .nil) (.node (hd.o_278 P) .nil .nil))) (.node (hd.ko P 27) (.node (hd.ko P 154) (.node (hd.ko P 84) .nil .nil) (.node (hd.ko P 125) .nil .nil)) (.node (hd.ko P 66) (.node (hd.ko P 103) .nil .nil) (.node (hd.ko P 154) .nil .nil))))) (.node (hd.o_262 P) (.node (hd.ko P 5) (.node (hd.ko P 16) (.node (hd.ko P 30) (.node (hd.ko P 154) (.node (hd.ko P 155) .nil .nil) .nil) (.node (hd.ko P 154) .nil .nil)) (.node (hd.o_140 P) (.node (hd.o_208 P) .nil .nil) (.node (hd.o_274 P) .nil .nil))) (.node (hd.o_89 P) (.node (hd.ko P 41) (.node (hd.ko P 81) .nil .nil) (.node (hd.ko P 122) .nil .nil)) (.node (hd.ko P 63) (.node (hd.ko P 99) .nil .nil) (.node (hd.ko P 145) .nil .nil)))) (.node (hd.ko P 11) (.node (hd.ko P 21) (.node (hd.o_116 P) (.node (hd.o_182 P) .nil .nil) (.node (hd.o_248 P) .nil .nil)) (.node (hd.o_150 P) (.node (hd.o_216 P) .nil .nil) (.node (hd.ko P 139) .nil .nil))) (.node (hd.o_100 P) (.node (hd.ko P 154) (.node (hd.ko P 88) .nil .nil) (.node (hd.ko P 154) .nil .nil)) (.node (hd.ko P 69) (.node (hd.o_232 P) .nil .nil) (.node (hd.ko P 154) .nil .nil)))))) (.node (boot_o_6 P) (.node (boot_o_10 P) (.node (hd.ko P 154) (.node (hd.ko P 154) (.node (hd.ko P 154) (.node (hd.ko P 73) (.node (hd.o_304 P) .nil .nil) .nil) (.node (hd.ko P 109) .nil .nil)) (.node (hd.ko P 51) (.node (hd.o_206 P) .nil .nil) (.node (hd.ko P 132) .nil .nil))) (.node (hd.o_87 P) (.node (hd.o_122 P) (.node (hd.ko P 154) .nil .nil) (.node (hd.ko P 154) .nil .nil)) (.node (hd.ko P 154) (.node (hd.ko P 154) .nil .nil) (.node (hd.o_288 P) .nil .nil)))) (.node (hd.o_63 P) (.node (hd.o_79 P) (.node (hd.ko P 35) (.node (hd.ko P 79) .nil .nil) (.node (hd.ko P 115) .nil .nil)) (.node (hd.ko P 154) (.node (hd.ko P 92) .nil .nil) (.node (hd.ko P 154) .nil .nil))) (.node (hd.o_95 P) (.node (hd.ko P 45) (.node (hd.ko P 86) .nil .nil) (.node (hd.o_264 P) .nil .nil)) (.node (hd.o_164 P) (.node (hd.ko P 105) .nil .nil) (.node (hd.ko P 149) .nil .nil))))) (.node (hd.o_46 P) (.node (hd.ko P 154) (.node (hd.o_75 P) (.node (hd.o_110 P) (.node (hd.ko P 76) .nil .nil) (.node (hd.ko P 112) .nil .nil)) (.node (hd.ko P 154) (.node (hd.o_210 P) .nil .nil) (.node (hd.ko P 135) .nil .nil))) (.node (hd.ko P 25) (.node (hd.o_126 P) (.node (hd.o_192 P) .nil .nil) (.node (hd.o_258 P) .nil .nil)) (.node (hd.ko P 154) (.node (hd.ko P 101) .nil .nil) (.node (hd.o_292 P) .nil .nil)))) (.node (hd.o_67 P) (.node (hd.ko P 23) (.node (hd.ko P 154) (.node (hd.ko P 154) .nil .nil) (.node (hd.ko P 154) .nil .nil)) (.node (hd.ko P 59) (.node (hd.ko P 95) .nil .nil) (.node (hd.ko P 154) .nil .nil))) (.node (hd.ko P 154) (.node (hd.ko P 48) (.node (hd.o_200 P) .nil .nil) (.node (hd.ko P 129) .nil .nil)) (.node (hd.o_168 P) (.node (hd.o_234 P) .nil .nil) (.node (hd.o_300 P) .nil .nil))))))))

noncomputable abbrev hd.pw : Program := PySem.Challenge.pw_pq1395_01
noncomputable def hd.env : Env := { scope := PySem.Challenge.pw_pq1395_01.main.scope, locals := mainNs, globals := mainNs, cells := [], code := Value.ref 13, frame := some 14 }
noncomputable abbrev hd.c : Code := Code.body (behindTheImports PySem.Challenge.pw_pq1395_01) hd.env
noncomputable abbrev hd.ann : Option Value := some (Value.ref 6)
noncomputable def hd.r1 : List Stmt := (behindTheImports PySem.Challenge.pw_pq1395_01).drop 8
noncomputable def hd.r2 : List Stmt := hd.r1.drop 7
noncomputable def hd.r3 : List Stmt := hd.r2.drop 7
noncomputable def hd.r4 : List Stmt := hd.r3.drop 6
noncomputable def hd.r5 : List Stmt := hd.r4.drop 8
noncomputable abbrev hd.B : List Frame := [topFrame ⟨0, 0, 0, 0⟩]
noncomputable abbrev hd.S (T : BT) (n k : Nat) (os : OsState) : SharedT := ⟨T, n, {}, Array.mk [], {}, k, os⟩
noncomputable abbrev hd.Z (h : Heap) (k : Nat) (os : OsState) : Shared := ⟨h, Array.mk [], {}, k, os⟩
theorem hd.pre (w : World) (os : OsState) : topGo treeTable hd.pw w 11 hd.ann 12 ⟨boot_heap w.params, Array.mk [], boot_drawn, boot_toks, os⟩ (topStub hd.pw) = some (hd.Z (hd.heap_46 w.params) 187 os, ⟨denote treeTable hd.c, hd.c, ⟨0, 0, 0, 0⟩, hd.B⟩) := by
  rw [PySem.W.Fast.te15667345088766844465, PySem.W.Fast.te14364793385576792824, PySem.W.Fast.te11892475500146522536]
  kernel_rfl
theorem hd.block (w : World) (os : OsState) : segRun treeTable hd.pw w 11 hd.ann 1 1 (hd.Z (hd.heap_46 w.params) 187 os) (blockOf (behindTheImports PySem.Challenge.pw_pq1395_01) hd.env hd.c ⟨0, 0, 0, 0⟩ hd.B) = some (.next, (hd.S (hd.tree_47 w.params) 15 187 os).abs, hd.c, ⟨0, 0, 0, 0⟩) := by
  rw [PySem.W.Fast.te14374325043358763698, PySem.W.Fast.te14364793385576792824]
  kernel_rfl
theorem hd.p1 (w : World) (os : OsState) : segRunT treeTable hd.pw w 11 hd.ann 1 356 (hd.S (hd.tree_47 w.params) 15 187 os) (piecesOf ((behindTheImports PySem.Challenge.pw_pq1395_01).take 8) hd.env hd.c ⟨0, 0, 0, 0⟩ hd.B) = some (.next, hd.S (hd.tree_95 w.params) 59 246 os, hd.c, ⟨36, 0, 37, 8⟩) := by
  rw [PySem.W.Fast.te10110043849684766642, PySem.W.Fast.te14364793385576792824]
  kernel_rfl
theorem hd.p2 (w : World) (os : OsState) : segRunT treeTable hd.pw w 11 hd.ann 1 388 (hd.S (hd.tree_95 w.params) 59 246 os) (piecesOf (hd.r1.take 7) hd.env hd.c ⟨36, 0, 37, 8⟩ hd.B) = some (.next, hd.S (hd.tree_145 w.params) 106 311 os, hd.c, ⟨61, 0, 72, 17⟩) := by
  rw [PySem.W.Fast.te10110043849684766642, PySem.W.Fast.te14364793385576792824]
  kernel_rfl
theorem hd.p3 (w : World) (os : OsState) : segRunT treeTable hd.pw w 11 hd.ann 1 392 (hd.S (hd.tree_145 w.params) 106 311 os) (piecesOf (hd.r2.take 7) hd.env hd.c ⟨61, 0, 72, 17⟩ hd.B) = some (.next, hd.S (hd.tree_201 w.params) 160 394 os, hd.c, ⟨139, 0, 143, 25⟩) := by
  rw [PySem.W.Fast.te10110043849684766642, PySem.W.Fast.te14364793385576792824]
  kernel_rfl
theorem hd.p4 (w : World) (os : OsState) : segRunT treeTable hd.pw w 11 hd.ann 1 387 (hd.S (hd.tree_201 w.params) 160 394 os) (piecesOf (hd.r3.take 6) hd.env hd.c ⟨139, 0, 143, 25⟩ hd.B) = some (.next, hd.S (hd.tree_260 w.params) 217 467 os, hd.c, ⟨166, 0, 169, 15⟩) := by
  rw [PySem.W.Fast.te10110043849684766642, PySem.W.Fast.te14364793385576792824]
  kernel_rfl
theorem hd.p5 (w : World) (os : OsState) : segRunT treeTable hd.pw w 11 hd.ann 1 223 (hd.S (hd.tree_260 w.params) 217 467 os) (piecesOf (hd.r4.take 8) hd.env hd.c ⟨166, 0, 169, 15⟩ hd.B) = some (.next, hd.S (hd.tree_307 w.params) 262 532 os, hd.c, ⟨231, 0, 258, 103⟩) := by
  rw [PySem.W.Fast.te10110043849684766642, PySem.W.Fast.te14364793385576792824]
  kernel_rfl
theorem hd.fin (w : World) (os : OsState) : topRun treeTable hd.pw w 11 hd.ann 2 (hd.S (hd.tree_307 w.params) 262 532 os).abs (restOf hd.r5 hd.env hd.c ⟨231, 0, 258, 103⟩ hd.B) = some (hd.Z (hd.heap_308 w.params) 532 os) := by
  rw [PySem.W.Fast.te14082659384304107361, PySem.W.Fast.te14364793385576792824]
  kernel_rfl
theorem hd.app {w : World} {s s' r : Shared} {l : List Stmt} {p p' : Pos} (n : Nat) {N M : Nat} (h : segRun treeTable hd.pw w 11 hd.ann 1 M s (piecesOf (l.take n) hd.env hd.c p hd.B) = some (.next, s', hd.c, p'))
    (k : topRun treeTable hd.pw w 11 hd.ann N s' (restOf (l.drop n) hd.env hd.c p' hd.B) = some r) : topRun treeTable hd.pw w 11 hd.ann (M + N) s (restOf l hd.env hd.c p hd.B) = some r := by
  have q := piece_app h k
  rw [List.take_append_drop] at q
  exact q
theorem hd.run (w : World) (os : OsState) : topRun treeTable hd.pw w 11 hd.ann (12 + (1 + (356 + (388 + (392 + (387 + (223 + 2))))))) ⟨boot_heap w.params, Array.mk [], boot_drawn, boot_toks, os⟩ (topStub hd.pw) = some (hd.Z (hd.heap_308 w.params) 532 os) :=
  go_top (hd.pre w os) (piece_block (hd.block w os) (hd.app 8 (segRun_of (hd.p1 w os)) (hd.app (l := hd.r1) 7 (segRun_of (hd.p2 w os)) (hd.app (l := hd.r2) 7 (segRun_of (hd.p3 w os)) (hd.app (l := hd.r3) 6 (segRun_of (hd.p4 w os)) (hd.app (l := hd.r4) 8 (segRun_of (hd.p5 w os)) (hd.fin w os)))))))
theorem hd.size (w : World) : ((boot_heap w.params).isNs mainGlobals && (Array.mk [] : Array GenState).size == 0, (boot_heap w.params).objs.size, (boot_heap w.params).nsMap mainGlobals "__annotations__") = (true, 11, hd.ann) := by kernel_rfl
noncomputable abbrev hd.Xt : Shared → Bool := fun s => xlAt hd.view_39 [] s && recOk (RowW.records PySem.Challenge.rw_pq1395_01.row.toRowW) s
noncomputable abbrev hd.O (w : World) (os : OsState) := openSeen hd.view_39 [] (importedModules PySem.Challenge.pw_pq1395_01.main.body) hd.Xt true (hd.Z (hd.heap_308 w.params) 532 os)
theorem hd.l0 (w : World) (os : OsState) : (staticsOk (importedModules PySem.Challenge.pw_pq1395_01.main.body) (boot_heap w.params) (hd.heap_308 w.params) && namesBound PySem.Challenge.pw_pq1395_01 (hd.heap_308 w.params) && gensDone (hd.Z (hd.heap_308 w.params) 532 os) && laidKept (boot_heap w.params) (hd.heap_308 w.params)) = true := by kernel_rfl
theorem hd.l1 (w : World) (os : OsState) : hd.O w os = openGood hd.view_39 [] := by
  unfold hd.O
  rw [PySem.W.Fast.te4187177175401517315]
  kernel_rfl
theorem hd.l6 (w : World) (os : OsState) : (kHook hd.heap_39 hd.as hd.as_eq).obs (hd.Z (hd.heap_308 w.params) 532 os) = (kHook hd.heap_39 hd.as hd.as_eq).val w := by kernel_rfl
theorem hd.opens : opening PySem.Challenge.pw_pq1395_01 = plainProg PySem.Challenge.pw_pq1395_01.main.scope.names := by kernel_rfl
theorem hd.fence (s : Shared) : fenceModules? PySem.Challenge.pw_pq1395_01 s = some s := by kernel_rfl
theorem hd.left : LeftO PySem.Challenge.rw_pq1395_01.row.prog hd.view_39 [] hd.Xt (kHook hd.heap_39 hd.as hd.as_eq).obs (kHook hd.heap_39 hd.as hd.as_eq).val 3608 :=
  LeftO.of_pieces (p := PySem.Challenge.pw_pq1395_01) (H₀ := boot_heap) (H₁ := hd.heap_308) (gs₀ := Array.mk []) (gs₁ := Array.mk []) (d₀ := boot_drawn) (d₁ := {}) (k₀ := boot_toks) (k₁ := 532) (m₀ := 11) (ann := hd.ann)
    (boot_open hd.opens (by decide) hd.fence) hd.size hd.run (by decide) (fun w => funext fun os => Prod.ext (hd.l0 w os) (Prod.ext (hd.l1 w os) (hd.l6 w os)))
theorem hd {d : DefRec} {kwd : List (Str × Expr)} (hdef : defOf hd.view_39 PySem.Challenge.rw_pq1395_01.row.name = some (d, kwd)) (hp : PySem.Challenge.rw_pq1395_01.row.prog.theDef PySem.Challenge.rw_pq1395_01.row.name = some (d.params, d.body, d.scope))
    (hk : kwWritten? d.params.kwonlyargs d.params.kw_defaults = some kwd)
    (call : WalkO hd.view_39 [] (XL hd.view_39 []) (kHook hd.heap_39 hd.as hd.as_eq).says PySem.Challenge.rw_pq1395_01.row.toRowW d kwd fun f vs => PySem.call f vs) : PySem.Challenge.rw_pq1395_01.Holds := by
  o_law
  rename_i said
  refine holds_open (q := hd.view_39) (loose := []) (Xt := hd.Xt) (XP := XL hd.view_39 []) (Yf := (kHook hd.heap_39 hd.as hd.as_eq).obs) (Ya := (kHook hd.heap_39 hd.as hd.as_eq).val) (YP := (kHook hd.heap_39 hd.as hd.as_eq).says) (N := 3608)
    hd.left (kHook hd.heap_39 hd.as hd.as_eq).of (kHook hd.heap_39 hd.as hd.as_eq).keeps (fun s e => xl_of s (Bool.and_eq_true_iff.mp e).1) XL.keeps hdef hp hk (fun s e => recFacts_of (Bool.and_eq_true_iff.mp e).2) (by rfl) said (by decide +kernel) ⟨rfl, rfl, rfl, rfl, rfl, by decide +kernel⟩ ?hw call
  w_witness2
theorem fill_all : PySem.Challenge.rw_pq1395_01 = PySem.Challenge.rw_pq1395_01 → Mine.hd.heap_39 = Mine.hd.heap_39 → True := by
  w_top off
  k_fill
  intros
  trivial
local macro_rules | `(tactic| k_all) => `(tactic| first | assumption | (refine' ne_of_lts ?h9 ?d9; (case h9 => assumption); (case d9 => omega)))
local macro_rules | `(tactic| k_mem) => `(tactic| ((repeat (first | assumption | exact List.mem_cons_self | refine List.mem_cons_of_mem _ ?_)); done))
local macro_rules | `(tactic| k_room) => `(tactic| ((try simp only [depth_under_make, depth_under_kw, depth_in1, depth_deeper, depth_caller]); (try dsimp only [ktrTop]); first | decide | omega))
local macro_rules | `(tactic| kst_same) => `(tactic| (repeat (first | exact lp_same1 rfl | refine lp_sameX ?_ | refine lp_sameC (by rfl) ?_ | refine lp_sameK (by rfl) ?_ | refine lp_sameN ?_)))
local macro_rules | `(tactic| walk_at $s:str) => `(tactic| k_extra $s)
theorem reg1 : True := by
  k_with_none
  (k_with "call builtin:len" => (k_here; (with_reducible show wpAny _ _ (call (Value.builtin "len") [Value.ref _]) _ _ _); k_dflt (refine len_own (by first | ((k_asm); done) | fail "no") (by first | ((k_mem); done) | fail "no") (by first | ((omega); done) | fail "no") ?_; k_whole)))
  (k_with "subscriptTail" => (k_here; (with_reducible show wpAny _ _ (subscriptTail _ _ (Value.ref _) (Value.int _ _)) _ _ _); (with_unfolding_all refine item_own (by first | ((k_asm); done) | fail "no") (by first | ((k_mem); done) | fail "no") (by first | ((omega); done) | fail "no") (by first | ((omega); done) | fail "no") (by first | ((omega); done) | fail "no") ?_ (by first | ((with_unfolding_all rfl); done) | fail "no"); k_whole)))
  (k_with "subscriptTail" => (k_here; (with_reducible show wpAny _ _ (subscriptTail _ _ (Value.ref _) (Value.int (Nat.cast _) _)) _ _ _); (with_unfolding_all refine item_at (by first | ((k_asm); done) | fail "no") (by first | ((k_mem); done) | fail "no") (by first | ((assumption); done) | fail "no") (by first | ((omega); done) | fail "no") ?_ (by first | ((with_unfolding_all rfl); done) | fail "no"); k_whole)))
  (k_with "call builtin:list.append" => (k_here; (with_reducible show wpAny _ _ (call (Value.builtin _) [Value.ref _, _]) _ _ _); k_dflt (refine append_own (by first | ((k_asm); done) | fail "no") (by first | ((k_asm); done) | fail "no") (by first | ((k_upd); done) | fail "no") (by first | ((exact sizeLine_big (by omega)); done) | fail "no") ?_; k_whole); intro hqz Fqz Nqz; (try k_sweep)))
  (k_with "exec For Name Name cons nil" => (k_here; (rename Fr _ _ _ _ => lFqz); (with_unfolding_all refine For_invVF lFqz (by first | ((exact rfl); done) | fail "no") (by first | ((exact rfl); done) | fail "no") ?_; k_whole)))
  (k_with "exec For Name Subscript cons nil" => (k_here; (rename Fr _ _ _ _ => lFqz); (with_unfolding_all refine For_invVF lFqz (by first | ((exact rfl); done) | fail "no") (by first | ((exact rfl); done) | fail "no") ?_; k_whole)))
  (k_with "exec For Name Call cons nil" => (k_here; (rename Fr _ _ _ _ => lFqz); (with_unfolding_all refine For_invVF lFqz (by first | ((exact rfl); done) | fail "no") (by first | ((exact rfl); done) | fail "no") ?_; k_whole)))
  (k_with "getMethod ref" => (k_here; (with_reducible show wpAny _ _ (getMethod (Value.ref _) (PySem.Str.ofString "get") _) _ _ _); k_dflt (refine kdg_method (knd := PySem.strKind _ _) (by k_asm) (by k_mem) (by k_asm) ?_)))
  (k_with "call builtin:dict.get" => (k_here; k_dflt (first
  | refine kdg_get1 (knd := PySem.strKind _ _) (by k_asm) (by k_mem) (by k_asm) (by k_asm) (strKind_is _ _ _ _) (some _) (by rfl) ?_
  | refine kdg_get1 (knd := PySem.strKind _ _) (by k_asm) (by k_mem) (by k_asm) (by k_asm) (strKind_is _ _ _ _) none (by rfl) ?_); (try dsimp only [Option.getD])))
  (k_with "call type:list" => (k_here; (with_reducible show wpAny _ _ (call (Value.type _) [Value.ref _]) _ _ _); k_dflt (refine copy_own (by first | ((k_asm); done) | fail "no") (by first | ((k_asm); done) | fail "no") (by first | ((k_mem); done) | fail "no") (by first | ((exact sizeLine_big (by omega)); done) | fail "no") ?_; k_whole); intro Dqz cqz hqz Fqz Nqz l1z; (try k_lt l1z); (try k_sweep)))
  (k_with "call type:range" => (k_here; (with_reducible show wpAny _ _ (call (Value.type _) [Value.int _ _]) _ _ _); (rename Fr _ _ _ _ => Fqz); (rename News _ _ _ _ => Nqz); (with_unfolding_all refine range1_rows Fqz Nqz ?_); intro hqz tkqz t1qz u1qz v1qz Rqz Fqz Nqz hkqz))
  (k_with "setItem ref int" => (k_here; k_dflt (refine kda_set (knd := PySem.intKind _ _) (by first | ((k_asm); done) | fail "no") (by first | ((k_asm); done) | fail "no") (by first | ((k_updF); done) | fail "no") (by first | ((assumption); done) | fail "no") (intKind_is _ _ _ _) (by first | ((exact sizeLine_big (by omega)); done) | fail "no") ?_); intro hqz oqz Fqz Nqz hdqz; (try dsimp only at Nqz)))
  (k_with "call builtin:len" => (k_here; (with_reducible show wpAny _ _ (call (Value.builtin "len") [Value.ref _]) _ _ _); k_dflt (refine kda_len (knd := PySem.intKind _ _) (by first | ((k_asm); done) | fail "no") (by first | ((k_mem); done) | fail "no") (by first | ((assumption); done) | fail "no") (by first | ((assumption); done) | fail "no") (by first | ((omega); done) | fail "no") ?_; k_whole)))
  (k_with "compareOp NotIn int ref" => (k_here; k_dflt (refine kdg_notin (knd := PySem.intKind _ _) (by first | ((k_asm); done) | fail "no") (by first | ((k_mem); done) | fail "no") (by first | ((assumption); done) | fail "no") (by first | ((assumption); done) | fail "no") (intKind_is _ _ _ _) _ rfl ?_)))
  (k_with "CompSrcT" => (k_here; k_dflt (first
  | (refine LCt.CompSrcT.range (by rfl) (by first | ((k_asm); done) | fail "no") (by first | ((k_asm); done) | fail "no") (by first | ((assumption); done) | fail "no") (by first | ((exact small_one (by omega) (by omega) (by omega) (by omega)); done) | fail "no") (rs_nat _) (by first | ((exact sizeLine_big (by omega)); done) | fail "no") ?_; intro gqz)
  | (refine LCt.CompSrcT.ledger (by rfl) (by first | ((k_asm); done) | fail "no") (by first | ((k_asm); done) | fail "no") (by first | ((k_mem); done) | fail "no") (by first | ((exact sizeLine_big (by omega)); done) | fail "no") ?_; intro gqz))))
  (k_with "pyIter ref" => (k_here; (with_reducible show wpAny _ _ (pyIter (Value.ref _)) (fun it s₂ => LoopAtV _ _ _ _ _ _ _ _ _ it s₂) _ _); refine Halt.out ?_))
  (k_with "setItem ref str" => (k_here; k_dflt (refine kda_set (knd := PySem.strKind _ _) (by first | ((k_asm); done) | fail "no") (by first | ((k_asm); done) | fail "no") (by first | ((k_updF); done) | fail "no") (by first | ((assumption); done) | fail "no") (strKind_is _ _ _ _) (by first | ((exact sizeLine_big (by omega)); done) | fail "no") ?_); intro hqz oqz Fqz Nqz hdqz; (try dsimp only at Nqz)))
  (k_with "compareOp NotIn str ref" => (k_here; k_dflt (refine kdg_notin (knd := PySem.strKind _ _) (by first | ((k_asm); done) | fail "no") (by first | ((k_mem); done) | fail "no") (by first | ((assumption); done) | fail "no") (by first | ((assumption); done) | fail "no") (strKind_is _ _ _ _) _ rfl ?_)))
  (k_with "compareOp In str ref" => (k_here; k_dflt (refine kda_in (knd := PySem.strKind _ _) (by first | ((k_asm); done) | fail "no") (by first | ((k_mem); done) | fail "no") (by first | ((assumption); done) | fail "no") (by first | ((assumption); done) | fail "no") (strKind_is _ _ _ _) _ rfl ?_)))
  trivial
section
variable {w : World} {loose : List Str} {mean : ExcName → Option Value} {mg mb : Str → Option Value} {dp un : Nat} {gd : Option (List Code)} {cn : Str} {cs : Scope} {a : Addr} {ccd : Value} {cl : List (Str × Addr)} {outer : List Env} {A₀ : Around} {base h₀ : Heap} {L : Addr} {m : Str → Option Value} {news : List (Addr × Obj)} {s : Shared} {Q E : Value → Shared → Prop}
theorem card_spec {c : Addr} {vs : List Value} {ns : List Int} {n : Nat} {many : Int} {t : Tok}
    (B : Below A₀ base outer h₀) (F : Fr h₀ L s.heap m) (X : (hd.heap_39 w.params).In h₀) (N : News h₀ L s.heap ((c, listOf vs.toArray n) :: news)) (T : Top hd.view_39 loose mean mg mb h₀) (hk : cs.kind = .function)
    (hdp : dp + 5 < recursionLimit) (hI : IntsAre vs ns) (hc : ∀ p ∈ news, p.1 ≠ c) (hlen : ns.length ≤ 140) (h0 : 0 < many) (h1 : many < 1000)
    (ret : ∀ r t' h' tk' vs' ns' n', Fr h₀ L h' m → News h₀ L h' ((c, listOf vs'.toArray n') :: news) → IntsAre vs' ns' → ns'.length ≤ 140 → 0 ≤ r → r < many → Q (.int r t') { s with heap := h', toks := tk' }) :
    wpAny (model PySem.Challenge.rw_pq1395_01.row.prog w) (ktrTop dp un gd cn cs L a ccd cl outer) (call (.ref 251) [.ref c, .int many t]) Q E s := by
  have hvl : vs.length ≤ 140 := by rw [hI.length]; exact hlen
  refine wpAny_call ?_
  k_dflt cell_enter
  k_steps
  · exact ret _ _ _ _ vs ns n (by assumption) (by assumption) hI hlen (by omega) (by omega)
  · refine ret _ _ _ _ vs.dropLast ns.dropLast (n + 1) (by assumption) (by assumption) (by assumption) ?_ ?_ ?_
    · rw [List.length_dropLast]; omega
    · exact Int.fmod_nonneg_of_pos _ h0
    · exact Int.fmod_lt_of_pos _ h0
end
theorem reg2 : True := by
  k_with_none
  (k_with "call builtin:len" => (k_here; (with_reducible show wpAny _ _ (call (Value.builtin "len") [Value.ref _]) _ _ _); k_dflt (refine len_own (by first | ((k_asm); done) | fail "no") (by first | ((k_mem); done) | fail "no") (by first | ((omega); done) | fail "no") ?_; k_whole)))
  (k_with "subscriptTail" => (k_here; (with_reducible show wpAny _ _ (subscriptTail _ _ (Value.ref _) (Value.int _ _)) _ _ _); (with_unfolding_all refine item_own (by first | ((k_asm); done) | fail "no") (by first | ((k_mem); done) | fail "no") (by first | ((omega); done) | fail "no") (by first | ((omega); done) | fail "no") (by first | ((omega); done) | fail "no") ?_ (by first | ((with_unfolding_all rfl); done) | fail "no"); k_whole)))
  (k_with "subscriptTail" => (k_here; (with_reducible show wpAny _ _ (subscriptTail _ _ (Value.ref _) (Value.int (Nat.cast _) _)) _ _ _); (with_unfolding_all refine item_at (by first | ((k_asm); done) | fail "no") (by first | ((k_mem); done) | fail "no") (by first | ((assumption); done) | fail "no") (by first | ((omega); done) | fail "no") ?_ (by first | ((with_unfolding_all rfl); done) | fail "no"); k_whole)))
  (k_with "call builtin:list.append" => (k_here; (with_reducible show wpAny _ _ (call (Value.builtin _) [Value.ref _, _]) _ _ _); k_dflt (refine append_own (by first | ((k_asm); done) | fail "no") (by first | ((k_asm); done) | fail "no") (by first | ((k_upd); done) | fail "no") (by first | ((exact sizeLine_big (by omega)); done) | fail "no") ?_; k_whole); intro hqz Fqz Nqz; (try k_sweep)))
  (k_with "exec For Name Name cons nil" => (k_here; (rename Fr _ _ _ _ => lFqz); (with_unfolding_all refine For_invVF lFqz (by first | ((exact rfl); done) | fail "no") (by first | ((exact rfl); done) | fail "no") ?_; k_whole)))
  (k_with "exec For Name Subscript cons nil" => (k_here; (rename Fr _ _ _ _ => lFqz); (with_unfolding_all refine For_invVF lFqz (by first | ((exact rfl); done) | fail "no") (by first | ((exact rfl); done) | fail "no") ?_; k_whole)))
  (k_with "exec For Name Call cons nil" => (k_here; (rename Fr _ _ _ _ => lFqz); (with_unfolding_all refine For_invVF lFqz (by first | ((exact rfl); done) | fail "no") (by first | ((exact rfl); done) | fail "no") ?_; k_whole)))
  (k_with "getMethod ref" => (k_here; (with_reducible show wpAny _ _ (getMethod (Value.ref _) (PySem.Str.ofString "get") _) _ _ _); k_dflt (refine kdg_method (knd := PySem.strKind _ _) (by k_asm) (by k_mem) (by k_asm) ?_)))
  (k_with "call builtin:dict.get" => (k_here; k_dflt (first
  | refine kdg_get1 (knd := PySem.strKind _ _) (by k_asm) (by k_mem) (by k_asm) (by k_asm) (strKind_is _ _ _ _) (some _) (by rfl) ?_
  | refine kdg_get1 (knd := PySem.strKind _ _) (by k_asm) (by k_mem) (by k_asm) (by k_asm) (strKind_is _ _ _ _) none (by rfl) ?_); (try dsimp only [Option.getD])))
  (k_with "call type:list" => (k_here; (with_reducible show wpAny _ _ (call (Value.type _) [Value.ref _]) _ _ _); k_dflt (refine copy_own (by first | ((k_asm); done) | fail "no") (by first | ((k_asm); done) | fail "no") (by first | ((k_mem); done) | fail "no") (by first | ((exact sizeLine_big (by omega)); done) | fail "no") ?_; k_whole); intro Dqz cqz hqz Fqz Nqz l1z; (try k_lt l1z); (try k_sweep)))
  (k_with "call type:range" => (k_here; (with_reducible show wpAny _ _ (call (Value.type _) [Value.int _ _]) _ _ _); (rename Fr _ _ _ _ => Fqz); (rename News _ _ _ _ => Nqz); (with_unfolding_all refine range1_rows Fqz Nqz ?_); intro hqz tkqz t1qz u1qz v1qz Rqz Fqz Nqz hkqz))
  (k_with "setItem ref int" => (k_here; k_dflt (refine kda_set (knd := PySem.intKind _ _) (by first | ((k_asm); done) | fail "no") (by first | ((k_asm); done) | fail "no") (by first | ((k_updF); done) | fail "no") (by first | ((assumption); done) | fail "no") (intKind_is _ _ _ _) (by first | ((exact sizeLine_big (by omega)); done) | fail "no") ?_); intro hqz oqz Fqz Nqz hdqz; (try dsimp only at Nqz)))
  (k_with "call builtin:len" => (k_here; (with_reducible show wpAny _ _ (call (Value.builtin "len") [Value.ref _]) _ _ _); k_dflt (refine kda_len (knd := PySem.intKind _ _) (by first | ((k_asm); done) | fail "no") (by first | ((k_mem); done) | fail "no") (by first | ((assumption); done) | fail "no") (by first | ((assumption); done) | fail "no") (by first | ((omega); done) | fail "no") ?_; k_whole)))
  (k_with "compareOp NotIn int ref" => (k_here; k_dflt (refine kdg_notin (knd := PySem.intKind _ _) (by first | ((k_asm); done) | fail "no") (by first | ((k_mem); done) | fail "no") (by first | ((assumption); done) | fail "no") (by first | ((assumption); done) | fail "no") (intKind_is _ _ _ _) _ rfl ?_)))
  (k_with "CompSrcT" => (k_here; k_dflt (first
  | (refine LCt.CompSrcT.range (by rfl) (by first | ((k_asm); done) | fail "no") (by first | ((k_asm); done) | fail "no") (by first | ((assumption); done) | fail "no") (by first | ((exact small_one (by omega) (by omega) (by omega) (by omega)); done) | fail "no") (rs_nat _) (by first | ((exact sizeLine_big (by omega)); done) | fail "no") ?_; intro gqz)
  | (refine LCt.CompSrcT.ledger (by rfl) (by first | ((k_asm); done) | fail "no") (by first | ((k_asm); done) | fail "no") (by first | ((k_mem); done) | fail "no") (by first | ((exact sizeLine_big (by omega)); done) | fail "no") ?_; intro gqz))))
  (k_with "pyIter ref" => (k_here; (with_reducible show wpAny _ _ (pyIter (Value.ref _)) (fun it s₂ => LoopAtV _ _ _ _ _ _ _ _ _ it s₂) _ _); refine Halt.out ?_))
  (k_with "setItem ref str" => (k_here; k_dflt (refine kda_set (knd := PySem.strKind _ _) (by first | ((k_asm); done) | fail "no") (by first | ((k_asm); done) | fail "no") (by first | ((k_updF); done) | fail "no") (by first | ((assumption); done) | fail "no") (strKind_is _ _ _ _) (by first | ((exact sizeLine_big (by omega)); done) | fail "no") ?_); intro hqz oqz Fqz Nqz hdqz; (try dsimp only at Nqz)))
  (k_with "compareOp NotIn str ref" => (k_here; k_dflt (refine kdg_notin (knd := PySem.strKind _ _) (by first | ((k_asm); done) | fail "no") (by first | ((k_mem); done) | fail "no") (by first | ((assumption); done) | fail "no") (by first | ((assumption); done) | fail "no") (strKind_is _ _ _ _) _ rfl ?_)))
  (k_with "compareOp In str ref" => (k_here; k_dflt (refine kda_in (knd := PySem.strKind _ _) (by first | ((k_asm); done) | fail "no") (by first | ((k_mem); done) | fail "no") (by first | ((assumption); done) | fail "no") (by first | ((assumption); done) | fail "no") (strKind_is _ _ _ _) _ rfl ?_)))
  trivial
section
variable {w : World} {loose : List Str} {mean : ExcName → Option Value} {mg mb : Str → Option Value} {dp un : Nat} {gd : Option (List Code)} {cn : Str} {cs : Scope} {a : Addr} {ccd : Value} {cl : List (Str × Addr)} {outer : List Env} {A₀ : Around} {base h₀ : Heap} {L : Addr} {m : Str → Option Value} {news : List (Addr × Obj)} {s : Shared} {Q E : Value → Shared → Prop}
theorem lacking_spec {kd : Str} {t : Tok}
    (B : Below A₀ base outer h₀) (F : Fr h₀ L s.heap m) (X : (hd.heap_39 w.params).In h₀) (N : News h₀ L s.heap news) (T : Top hd.view_39 loose mean mg mb h₀) (hk : cs.kind = .function)
    (hdp : dp + 5 < recursionLimit) (hkd : kd = Str.ofString "character" ∨ kd = Str.ofString "integer")
    (ret : ∀ h' tk', Fr h₀ L h' m → News h₀ L h' news → Q Value.none { s with heap := h', toks := tk' }) :
    wpAny (model PySem.Challenge.rw_pq1395_01.row.prog w) (ktrTop dp un gd cn cs L a ccd cl outer) (call (.ref 209) [.str kd t]) Q E s := by
  refine wpAny_call ?_
  k_dflt cell_enter
  rcases hkd with rfl | rfl <;> k_steps <;> exact ret _ _ (by assumption) (cb_drop (by assumption) (by intro p hp; k_mem))

def itemAt (vs : List Value) : Option Nat → Value
  | none => Value.none
  | some k => vs.getD k Value.none


theorem reg3 : True := by
  (k_with "call ref" => (k_here; (with_reducible show wpAny _ _ (call (Value.ref 209) _) _ _ _); k_dflt (refine lacking_spec (by first | ((k_asm); done) | fail "no") (by first | ((k_asm); done) | fail "no") (by first | ((k_asm); done) | fail "no") (by first | ((k_asm); done) | fail "no") (by first | ((k_asm); done) | fail "no") (by first | ((first | assumption | exact rfl); done) | fail "no") (by first | ((k_room); done) | fail "no") (by first | ((assumption); done) | fail "no") ?_); intro h9z tk9z F9z N9z; (try dsimp only); (try k_fold)))
  trivial
theorem items_at_spec {v d l pl : Addr} {vs ps : List Value} {n n' : Nat} {os : List (Option Nat)} {kd : Str} {t : Tok} {att : Value} {k : Nat → Tok}
    (B : Below A₀ base outer h₀) (F : Fr h₀ L s.heap m) (X : (hd.heap_39 w.params).In h₀) (N : News h₀ L s.heap news) (T : Top hd.view_39 loose mean mg mb h₀) (hk : cs.kind = .function)
    (hdp : dp + 10 < recursionLimit)
    (hv : (v, instObj 184 d) ∈ news) (hvd : (d, vecD w.params (.str kd t) (.ref l) att k) ∈ news) (hl : (l, listOf vs.toArray n) ∈ news) (hpl : (pl, listOf ps.toArray n') ∈ news) (hps : Paired OI ps os) (hkd : kd = Str.ofString "character" ∨ kd = Str.ofString "integer")
    (hvl : vs.length ≤ 1000) (hol : os.length ≤ 1000)
    (ret : ∀ f h' tk' nf, Fr h₀ L h' m → News h₀ L h' ((f, listOf (os.map (itemAt vs)).toArray nf) :: news) → (∀ p ∈ news, p.1 < f) → Q (.ref f) { s with heap := h', toks := tk' }) :
    wpAny (model PySem.Challenge.rw_pq1395_01.row.prog w) (ktrTop dp un gd cn cs L a ccd cl outer) (call (.ref 223) [.ref v, .ref pl]) Q E s := by
  refine wpAny_call ?_
  k_dflt cell_enter
  k_steps
  rename News _ _ _ _ => N1
  rename Fr _ _ _ _ => F1
  refine Halt.mk ?_
  with_unfolding_all refine lp_list (σ := List Value × Nat) (rest := news) (fun c => [(_, listOf c.1.toArray c.2)]) (fun _ => []) [] (fun i c => c.1 = (os.take i).map (itemAt vs)) _ ([], 0) rfl rfl hpl F1 N1 (fun _ => rfl) (off_one' (by assumption)) (fun _ hp => nomatch hp) rfl ?_ ?_
  · clear F1 N1
    intro i pv c nx u h9 tk9 hi hsub hoff hP F2 N2
    obtain ⟨o, ho, hO⟩ := pget hps hi
    have hoff' := off_one hoff
    have hv' := hsub _ hv
    have hvd' := hsub _ hvd
    have hl' := hsub _ hl
    have hcl : c.1.length ≤ 1000 := by rw [hP]; simp; omega
    simp only [List.cons_append, List.nil_append] at N2
    k_unmd
    k_fold
    cases hO with
    | none =>
      k_steps
      refine LpEnd.intro (_, _) (by assumption) (by assumption) (fun _ hp => nomatch hp) (by kst_same) ?_
      show c.1 ++ [Value.none] = _
      rw [take_map_succ _ ho, ← hP]; rfl
    | int kk t =>
      k_steps
      · refine LpEnd.intro (_, _) (by assumption) (by assumption) (fun _ hp => nomatch hp) (by kst_same) ?_
        show c.1 ++ [Value.none] = _
        have : vs.length ≤ kk := by omega
        rw [take_map_succ _ ho, ← hP]; simp [itemAt, this]
      · refine LpEnd.intro (_, _) (by assumption) (by assumption) (fun _ hp => nomatch hp) (by kst_same) ?_
        show c.1 ++ [vs.getD (kk : Int).toNat Value.none] = _
        rw [take_map_succ _ ho, ← hP]; simp [itemAt]
  · clear F1 N1
    intro c u h9 tk9 hP F2 N2
    simp only [List.cons_append, List.nil_append] at N2
    dsimp only
    k_steps
    rw [List.take_of_length_le (by rw [Paired.length hps]; exact Nat.le_refl _)] at hP
    rw [hP] at *
    exact ret _ _ _ _ (by assumption) (by assumption) (by assumption)
end
theorem reg4 : True := by
  k_with_none
  (k_with "call builtin:len" => (k_here; (with_reducible show wpAny _ _ (call (Value.builtin "len") [Value.ref _]) _ _ _); k_dflt (refine len_own (by first | ((k_asm); done) | fail "no") (by first | ((k_mem); done) | fail "no") (by first | ((omega); done) | fail "no") ?_; k_whole)))
  (k_with "subscriptTail" => (k_here; (with_reducible show wpAny _ _ (subscriptTail _ _ (Value.ref _) (Value.int _ _)) _ _ _); (with_unfolding_all refine item_own (by first | ((k_asm); done) | fail "no") (by first | ((k_mem); done) | fail "no") (by first | ((omega); done) | fail "no") (by first | ((omega); done) | fail "no") (by first | ((omega); done) | fail "no") ?_ (by first | ((with_unfolding_all rfl); done) | fail "no"); k_whole)))
  (k_with "subscriptTail" => (k_here; (with_reducible show wpAny _ _ (subscriptTail _ _ (Value.ref _) (Value.int (Nat.cast _) _)) _ _ _); (with_unfolding_all refine item_at (by first | ((k_asm); done) | fail "no") (by first | ((k_mem); done) | fail "no") (by first | ((assumption); done) | fail "no") (by first | ((omega); done) | fail "no") ?_ (by first | ((with_unfolding_all rfl); done) | fail "no"); k_whole)))
  (k_with "call builtin:list.append" => (k_here; (with_reducible show wpAny _ _ (call (Value.builtin _) [Value.ref _, _]) _ _ _); k_dflt (refine append_own (by first | ((k_asm); done) | fail "no") (by first | ((k_asm); done) | fail "no") (by first | ((k_upd); done) | fail "no") (by first | ((exact sizeLine_big (by omega)); done) | fail "no") ?_; k_whole); intro hqz Fqz Nqz; (try k_sweep)))
  (k_with "exec For Name Name cons nil" => (k_here; (rename Fr _ _ _ _ => lFqz); (with_unfolding_all refine For_invVF lFqz (by first | ((exact rfl); done) | fail "no") (by first | ((exact rfl); done) | fail "no") ?_; k_whole)))
  (k_with "exec For Name Subscript cons nil" => (k_here; (rename Fr _ _ _ _ => lFqz); (with_unfolding_all refine For_invVF lFqz (by first | ((exact rfl); done) | fail "no") (by first | ((exact rfl); done) | fail "no") ?_; k_whole)))
  (k_with "exec For Name Call cons nil" => (k_here; (rename Fr _ _ _ _ => lFqz); (with_unfolding_all refine For_invVF lFqz (by first | ((exact rfl); done) | fail "no") (by first | ((exact rfl); done) | fail "no") ?_; k_whole)))
  (k_with "getMethod ref" => (k_here; (with_reducible show wpAny _ _ (getMethod (Value.ref _) (PySem.Str.ofString "get") _) _ _ _); k_dflt (refine kdg_method (knd := PySem.strKind _ _) (by k_asm) (by k_mem) (by k_asm) ?_)))
  (k_with "call builtin:dict.get" => (k_here; k_dflt (first
  | refine kdg_get1 (knd := PySem.strKind _ _) (by k_asm) (by k_mem) (by k_asm) (by k_asm) (strKind_is _ _ _ _) (some _) (by rfl) ?_
  | refine kdg_get1 (knd := PySem.strKind _ _) (by k_asm) (by k_mem) (by k_asm) (by k_asm) (strKind_is _ _ _ _) none (by rfl) ?_); (try dsimp only [Option.getD])))
  (k_with "call type:list" => (k_here; (with_reducible show wpAny _ _ (call (Value.type _) [Value.ref _]) _ _ _); k_dflt (refine copy_own (by first | ((k_asm); done) | fail "no") (by first | ((k_asm); done) | fail "no") (by first | ((k_mem); done) | fail "no") (by first | ((exact sizeLine_big (by omega)); done) | fail "no") ?_; k_whole); intro Dqz cqz hqz Fqz Nqz l1z; (try k_lt l1z); (try k_sweep)))
  (k_with "call type:range" => (k_here; (with_reducible show wpAny _ _ (call (Value.type _) [Value.int _ _]) _ _ _); (rename Fr _ _ _ _ => Fqz); (rename News _ _ _ _ => Nqz); (with_unfolding_all refine range1_rows Fqz Nqz ?_); intro hqz tkqz t1qz u1qz v1qz Rqz Fqz Nqz hkqz))
  (k_with "setItem ref int" => (k_here; k_dflt (refine kda_set (knd := PySem.intKind _ _) (by first | ((k_asm); done) | fail "no") (by first | ((k_asm); done) | fail "no") (by first | ((k_updF); done) | fail "no") (by first | ((assumption); done) | fail "no") (intKind_is _ _ _ _) (by first | ((exact sizeLine_big (by omega)); done) | fail "no") ?_); intro hqz oqz Fqz Nqz hdqz; (try dsimp only at Nqz)))
  (k_with "call builtin:len" => (k_here; (with_reducible show wpAny _ _ (call (Value.builtin "len") [Value.ref _]) _ _ _); k_dflt (refine kda_len (knd := PySem.intKind _ _) (by first | ((k_asm); done) | fail "no") (by first | ((k_mem); done) | fail "no") (by first | ((assumption); done) | fail "no") (by first | ((assumption); done) | fail "no") (by first | ((omega); done) | fail "no") ?_; k_whole)))
  (k_with "compareOp NotIn int ref" => (k_here; k_dflt (refine kdg_notin (knd := PySem.intKind _ _) (by first | ((k_asm); done) | fail "no") (by first | ((k_mem); done) | fail "no") (by first | ((assumption); done) | fail "no") (by first | ((assumption); done) | fail "no") (intKind_is _ _ _ _) _ rfl ?_)))
  (k_with "CompSrcT" => (k_here; k_dflt (first
  | (refine LCt.CompSrcT.range (by rfl) (by first | ((k_asm); done) | fail "no") (by first | ((k_asm); done) | fail "no") (by first | ((assumption); done) | fail "no") (by first | ((exact small_one (by omega) (by omega) (by omega) (by omega)); done) | fail "no") (rs_nat _) (by first | ((exact sizeLine_big (by omega)); done) | fail "no") ?_; intro gqz)
  | (refine LCt.CompSrcT.ledger (by rfl) (by first | ((k_asm); done) | fail "no") (by first | ((k_asm); done) | fail "no") (by first | ((k_mem); done) | fail "no") (by first | ((exact sizeLine_big (by omega)); done) | fail "no") ?_; intro gqz))))
  (k_with "pyIter ref" => (k_here; (with_reducible show wpAny _ _ (pyIter (Value.ref _)) (fun it s₂ => LoopAtV _ _ _ _ _ _ _ _ _ it s₂) _ _); refine Halt.out ?_))
  (k_with "setItem ref str" => (k_here; k_dflt (refine kda_set (knd := PySem.strKind _ _) (by first | ((k_asm); done) | fail "no") (by first | ((k_asm); done) | fail "no") (by first | ((k_updF); done) | fail "no") (by first | ((assumption); done) | fail "no") (strKind_is _ _ _ _) (by first | ((exact sizeLine_big (by omega)); done) | fail "no") ?_); intro hqz oqz Fqz Nqz hdqz; (try dsimp only at Nqz)))
  (k_with "compareOp NotIn str ref" => (k_here; k_dflt (refine kdg_notin (knd := PySem.strKind _ _) (by first | ((k_asm); done) | fail "no") (by first | ((k_mem); done) | fail "no") (by first | ((assumption); done) | fail "no") (by first | ((assumption); done) | fail "no") (strKind_is _ _ _ _) _ rfl ?_)))
  (k_with "compareOp In str ref" => (k_here; k_dflt (refine kda_in (knd := PySem.strKind _ _) (by first | ((k_asm); done) | fail "no") (by first | ((k_mem); done) | fail "no") (by first | ((assumption); done) | fail "no") (by first | ((assumption); done) | fail "no") (strKind_is _ _ _ _) _ rfl ?_)))
  trivial
section
variable {w : World} {loose : List Str} {mean : ExcName → Option Value} {mg mb : Str → Option Value} {dp un : Nat} {gd : Option (List Code)} {cn : Str} {cs : Scope} {a : Addr} {ccd : Value} {cl : List (Str × Addr)} {outer : List Env} {A₀ : Around} {base h₀ : Heap} {L : Addr} {m : Str → Option Value} {news : List (Addr × Obj)} {s : Shared} {Q E : Value → Shared → Prop}
def naStr : Str := Str.ofString "<NA>"
def nameAt (xs : List Str) : Option Nat → Str
  | none => Str.ofString "<NA>"
  | some k => xs.getD k (Str.ofString "<NA>")

theorem names_at_spec {nl pl : Addr} {hs ps : List Value} {xs : List Str} {n n' : Nat} {os : List (Option Nat)}
    (B : Below A₀ base outer h₀) (F : Fr h₀ L s.heap m) (X : (hd.heap_39 w.params).In h₀) (N : News h₀ L s.heap news) (T : Top hd.view_39 loose mean mg mb h₀) (hk : cs.kind = .function)
    (hdp : dp + 10 < recursionLimit)
    (hl : (nl, listOf hs.toArray n) ∈ news) (hpl : (pl, listOf ps.toArray n') ∈ news) (hps : Paired OI ps os) (hhs : Paired SR hs xs)
    (hvl : xs.length ≤ 1000) (hol : os.length ≤ 1000)
    (ret : ∀ f h' tk' nf fs, Fr h₀ L h' m → News h₀ L h' ((f, listOf fs.toArray nf) :: news) → Paired SR fs (os.map (nameAt xs)) → (∀ p ∈ news, p.1 < f) → Q (.ref f) { s with heap := h', toks := tk' }) :
    wpAny (model PySem.Challenge.rw_pq1395_01.row.prog w) (ktrTop dp un gd cn cs L a ccd cl outer) (call (.ref 230) [.ref nl, .ref pl]) Q E s := by
  have hlen := Paired.length hhs
  refine wpAny_call ?_
  k_dflt cell_enter
  k_steps
  rename News _ _ _ _ => N1
  rename Fr _ _ _ _ => F1
  refine Halt.mk ?_
  with_unfolding_all refine lp_list (σ := List Value × Nat) (rest := news) (fun c => [(_, listOf c.1.toArray c.2)]) (fun _ => []) [] (fun i c => Paired SR c.1 ((os.take i).map (nameAt xs))) _ ([], 0) rfl rfl hpl F1 N1 (fun _ => rfl) (off_one' (by assumption)) (fun _ hp => nomatch hp) .nil ?_ ?_
  · clear F1 N1
    intro i pv c nx u h9 tk9 hi hsub hoff hP F2 N2
    obtain ⟨o, ho, hO⟩ := pget hps hi
    have hoff' := off_one hoff
    have hl' := hsub _ hl
    have hcl : c.1.length ≤ 1000 := by rw [Paired.length hP]; simp; omega
    simp only [List.cons_append, List.nil_append] at N2
    k_unmd
    k_fold
    cases hO with
    | none =>
      k_steps
      refine LpEnd.intro (_, _) (by assumption) (by assumption) (fun _ hp => nomatch hp) (by kst_same) ?_
      rw [take_map_succ _ ho]; exact Paired.snoc hP (.str _ _)
    | int kk t =>
      k_steps
      · refine LpEnd.intro (_, _) (by assumption) (by assumption) (fun _ hp => nomatch hp) (by kst_same) ?_
        have : xs.length ≤ kk := by omega
        have e : nameAt xs (some kk) = Str.ofString "<NA>" := by simp [nameAt, this]
        rw [take_map_succ _ ho, e]; exact Paired.snoc hP (.str _ _)
      · refine LpEnd.intro (_, _) (by assumption) (by assumption) (fun _ hp => nomatch hp) (by kst_same) ?_
        rw [take_map_succ _ ho]
        refine Paired.snoc hP ?_
        have hlt : kk < hs.length := by omega
        obtain ⟨y, hy, hR⟩ := pget hhs (List.getElem?_eq_getElem hlt)
        have e1 : hs.getD (kk : Int).toNat Value.none = hs[kk] := by simp [hlt]
        have e2 : nameAt xs (some kk) = y := by simp [nameAt, hy]
        show SR (hs.getD (kk : Int).toNat Value.none) _
        rw [e1, e2]; exact hR
  · clear F1 N1
    intro c u h9 tk9 hP F2 N2
    simp only [List.cons_append, List.nil_append] at N2
    dsimp only
    k_steps
    rw [List.take_of_length_le (by rw [Paired.length hps]; exact Nat.le_refl _)] at hP
    exact ret _ _ _ _ _ (by assumption) (by assumption) hP (by assumption)
end
theorem reg5 : True := by
  k_with_none
  (k_with "call builtin:len" => (k_here; (with_reducible show wpAny _ _ (call (Value.builtin "len") [Value.ref _]) _ _ _); k_dflt (refine len_own (by first | ((k_asm); done) | fail "no") (by first | ((k_mem); done) | fail "no") (by first | ((omega); done) | fail "no") ?_; k_whole)))
  (k_with "subscriptTail" => (k_here; (with_reducible show wpAny _ _ (subscriptTail _ _ (Value.ref _) (Value.int _ _)) _ _ _); (with_unfolding_all refine item_own (by first | ((k_asm); done) | fail "no") (by first | ((k_mem); done) | fail "no") (by first | ((omega); done) | fail "no") (by first | ((omega); done) | fail "no") (by first | ((omega); done) | fail "no") ?_ (by first | ((with_unfolding_all rfl); done) | fail "no"); k_whole)))
  (k_with "subscriptTail" => (k_here; (with_reducible show wpAny _ _ (subscriptTail _ _ (Value.ref _) (Value.int (Nat.cast _) _)) _ _ _); (with_unfolding_all refine item_at (by first | ((k_asm); done) | fail "no") (by first | ((k_mem); done) | fail "no") (by first | ((assumption); done) | fail "no") (by first | ((omega); done) | fail "no") ?_ (by first | ((with_unfolding_all rfl); done) | fail "no"); k_whole)))
  (k_with "call builtin:list.append" => (k_here; (with_reducible show wpAny _ _ (call (Value.builtin _) [Value.ref _, _]) _ _ _); k_dflt (refine append_own (by first | ((k_asm); done) | fail "no") (by first | ((k_asm); done) | fail "no") (by first | ((k_upd); done) | fail "no") (by first | ((exact sizeLine_big (by omega)); done) | fail "no") ?_; k_whole); intro hqz Fqz Nqz; (try k_sweep)))
  (k_with "exec For Name Name cons nil" => (k_here; (rename Fr _ _ _ _ => lFqz); (with_unfolding_all refine For_invVF lFqz (by first | ((exact rfl); done) | fail "no") (by first | ((exact rfl); done) | fail "no") ?_; k_whole)))
  (k_with "exec For Name Subscript cons nil" => (k_here; (rename Fr _ _ _ _ => lFqz); (with_unfolding_all refine For_invVF lFqz (by first | ((exact rfl); done) | fail "no") (by first | ((exact rfl); done) | fail "no") ?_; k_whole)))
  (k_with "exec For Name Call cons nil" => (k_here; (rename Fr _ _ _ _ => lFqz); (with_unfolding_all refine For_invVF lFqz (by first | ((exact rfl); done) | fail "no") (by first | ((exact rfl); done) | fail "no") ?_; k_whole)))
  (k_with "getMethod ref" => (k_here; (with_reducible show wpAny _ _ (getMethod (Value.ref _) (PySem.Str.ofString "get") _) _ _ _); k_dflt (refine kdg_method (knd := PySem.strKind _ _) (by k_asm) (by k_mem) (by k_asm) ?_)))
  (k_with "call builtin:dict.get" => (k_here; k_dflt (first
  | refine kdg_get1 (knd := PySem.strKind _ _) (by k_asm) (by k_mem) (by k_asm) (by k_asm) (strKind_is _ _ _ _) (some _) (by rfl) ?_
  | refine kdg_get1 (knd := PySem.strKind _ _) (by k_asm) (by k_mem) (by k_asm) (by k_asm) (strKind_is _ _ _ _) none (by rfl) ?_); (try dsimp only [Option.getD])))
  (k_with "call type:list" => (k_here; (with_reducible show wpAny _ _ (call (Value.type _) [Value.ref _]) _ _ _); k_dflt (refine copy_own (by first | ((k_asm); done) | fail "no") (by first | ((k_asm); done) | fail "no") (by first | ((k_mem); done) | fail "no") (by first | ((exact sizeLine_big (by omega)); done) | fail "no") ?_; k_whole); intro Dqz cqz hqz Fqz Nqz l1z; (try k_lt l1z); (try k_sweep)))
  (k_with "call type:range" => (k_here; (with_reducible show wpAny _ _ (call (Value.type _) [Value.int _ _]) _ _ _); (rename Fr _ _ _ _ => Fqz); (rename News _ _ _ _ => Nqz); (with_unfolding_all refine range1_rows Fqz Nqz ?_); intro hqz tkqz t1qz u1qz v1qz Rqz Fqz Nqz hkqz))
  (k_with "setItem ref int" => (k_here; k_dflt (refine kda_set (knd := PySem.intKind _ _) (by first | ((k_asm); done) | fail "no") (by first | ((k_asm); done) | fail "no") (by first | ((k_updF); done) | fail "no") (by first | ((assumption); done) | fail "no") (intKind_is _ _ _ _) (by first | ((exact sizeLine_big (by omega)); done) | fail "no") ?_); intro hqz oqz Fqz Nqz hdqz; (try dsimp only at Nqz)))
  (k_with "call builtin:len" => (k_here; (with_reducible show wpAny _ _ (call (Value.builtin "len") [Value.ref _]) _ _ _); k_dflt (refine kda_len (knd := PySem.intKind _ _) (by first | ((k_asm); done) | fail "no") (by first | ((k_mem); done) | fail "no") (by first | ((assumption); done) | fail "no") (by first | ((assumption); done) | fail "no") (by first | ((omega); done) | fail "no") ?_; k_whole)))
  (k_with "compareOp NotIn int ref" => (k_here; k_dflt (refine kdg_notin (knd := PySem.intKind _ _) (by first | ((k_asm); done) | fail "no") (by first | ((k_mem); done) | fail "no") (by first | ((assumption); done) | fail "no") (by first | ((assumption); done) | fail "no") (intKind_is _ _ _ _) _ rfl ?_)))
  (k_with "CompSrcT" => (k_here; k_dflt (first
  | (refine LCt.CompSrcT.range (by rfl) (by first | ((k_asm); done) | fail "no") (by first | ((k_asm); done) | fail "no") (by first | ((assumption); done) | fail "no") (by first | ((exact small_one (by omega) (by omega) (by omega) (by omega)); done) | fail "no") (rs_nat _) (by first | ((exact sizeLine_big (by omega)); done) | fail "no") ?_; intro gqz)
  | (refine LCt.CompSrcT.ledger (by rfl) (by first | ((k_asm); done) | fail "no") (by first | ((k_asm); done) | fail "no") (by first | ((k_mem); done) | fail "no") (by first | ((exact sizeLine_big (by omega)); done) | fail "no") ?_; intro gqz))))
  (k_with "pyIter ref" => (k_here; (with_reducible show wpAny _ _ (pyIter (Value.ref _)) (fun it s₂ => LoopAtV _ _ _ _ _ _ _ _ _ it s₂) _ _); refine Halt.out ?_))
  (k_with "setItem ref str" => (k_here; k_dflt (refine kda_set (knd := PySem.strKind _ _) (by first | ((k_asm); done) | fail "no") (by first | ((k_asm); done) | fail "no") (by first | ((k_updF); done) | fail "no") (by first | ((assumption); done) | fail "no") (strKind_is _ _ _ _) (by first | ((exact sizeLine_big (by omega)); done) | fail "no") ?_); intro hqz oqz Fqz Nqz hdqz; (try dsimp only at Nqz)))
  (k_with "compareOp NotIn str ref" => (k_here; k_dflt (refine kdg_notin (knd := PySem.strKind _ _) (by first | ((k_asm); done) | fail "no") (by first | ((k_mem); done) | fail "no") (by first | ((assumption); done) | fail "no") (by first | ((assumption); done) | fail "no") (strKind_is _ _ _ _) _ rfl ?_)))
  (k_with "compareOp In str ref" => (k_here; k_dflt (refine kda_in (knd := PySem.strKind _ _) (by first | ((k_asm); done) | fail "no") (by first | ((k_mem); done) | fail "no") (by first | ((assumption); done) | fail "no") (by first | ((assumption); done) | fail "no") (strKind_is _ _ _ _) _ rfl ?_)))
  trivial
section
variable {w : World} {loose : List Str} {mean : ExcName → Option Value} {mg mb : Str → Option Value} {dp un : Nat} {gd : Option (List Code)} {cn : Str} {cs : Scope} {a : Addr} {ccd : Value} {cl : List (Str × Addr)} {outer : List Env} {A₀ : Around} {base h₀ : Heap} {L : Addr} {m : Str → Option Value} {news : List (Addr × Obj)} {s : Shared} {Q E : Value → Shared → Prop}
theorem names_of_none {v d : Addr} {it : Value} {kd : Str} {t : Tok} {k : Nat → Tok}
    (B : Below A₀ base outer h₀) (F : Fr h₀ L s.heap m) (X : (hd.heap_39 w.params).In h₀) (N : News h₀ L s.heap news) (T : Top hd.view_39 loose mean mg mb h₀) (hk : cs.kind = .function)
    (hdp : dp + 10 < recursionLimit)
    (hv : (v, instObj 184 d) ∈ news) (hvd : (d, vecD w.params (.str kd t) it .none k) ∈ news) (hkd : kd = Str.ofString "character" ∨ kd = Str.ofString "integer")
    (ret : ∀ h' tk', Fr h₀ L h' m → News h₀ L h' news → Q Value.none { s with heap := h', toks := tk' }) :
    wpAny (model PySem.Challenge.rw_pq1395_01.row.prog w) (ktrTop dp un gd cn cs L a ccd cl outer) (call (.ref 33) [.ref v]) Q E s := by
  refine wpAny_call ?_
  k_dflt cell_enter
  rcases hkd with rfl | rfl <;> k_steps <;> exact ret _ _ (by assumption) (cb_drop (by assumption) (by intro p hp; k_mem))

theorem names_of_some {v d ad nv nd nl : Addr} {it : Value} {kd kn : Str} {t tn : Tok} {k k' : Nat → Tok} {hs : List Value} {n : Nat} {na : Value} {oad : Obj}
    (B : Below A₀ base outer h₀) (F : Fr h₀ L s.heap m) (X : (hd.heap_39 w.params).In h₀) (N : News h₀ L s.heap news) (T : Top hd.view_39 loose mean mg mb h₀) (hk : cs.kind = .function)
    (hdp : dp + 10 < recursionLimit)
    (hv : (v, instObj 184 d) ∈ news) (hvd : (d, vecD w.params (.str kd t) it (.ref ad) k) ∈ news) (had : (ad, oad) ∈ news) (hdo : oad.IsDictOf (PySem.strKind PySem.Challenge.rw_pq1395_01.row.prog w) [(Str.ofString "names", Value.ref nv)]) (hlo : (ad == sysModules) = false) (hnv : (nv, instObj 184 nd) ∈ news) (hnd : (nd, vecD w.params (.str kn tn) (.ref nl) na k') ∈ news) (hnl : (nl, listOf hs.toArray n) ∈ news)
    (hkd : kd = Str.ofString "character" ∨ kd = Str.ofString "integer") (hlen : hs.length ≤ 1000)
    (ret : ∀ f h' tk' nf, Fr h₀ L h' m → News h₀ L h' ((f, listOf hs.toArray nf) :: news) → (∀ p ∈ news, p.1 < f) → Q (.ref f) { s with heap := h', toks := tk' }) :
    wpAny (model PySem.Challenge.rw_pq1395_01.row.prog w) (ktrTop dp un gd cn cs L a ccd cl outer) (call (.ref 33) [.ref v]) Q E s := by
  refine wpAny_call ?_
  k_dflt cell_enter
  rcases hkd with rfl | rfl <;> k_steps <;> exact ret _ _ _ _ (by assumption) (by assumption) (by assumption)
end
theorem reg6 : True := by
  k_with_none
  (k_with "call builtin:len" => (k_here; (with_reducible show wpAny _ _ (call (Value.builtin "len") [Value.ref _]) _ _ _); k_dflt (refine len_own (by first | ((k_asm); done) | fail "no") (by first | ((k_mem); done) | fail "no") (by first | ((omega); done) | fail "no") ?_; k_whole)))
  (k_with "subscriptTail" => (k_here; (with_reducible show wpAny _ _ (subscriptTail _ _ (Value.ref _) (Value.int _ _)) _ _ _); (with_unfolding_all refine item_own (by first | ((k_asm); done) | fail "no") (by first | ((k_mem); done) | fail "no") (by first | ((omega); done) | fail "no") (by first | ((omega); done) | fail "no") (by first | ((omega); done) | fail "no") ?_ (by first | ((with_unfolding_all rfl); done) | fail "no"); k_whole)))
  (k_with "subscriptTail" => (k_here; (with_reducible show wpAny _ _ (subscriptTail _ _ (Value.ref _) (Value.int (Nat.cast _) _)) _ _ _); (with_unfolding_all refine item_at (by first | ((k_asm); done) | fail "no") (by first | ((k_mem); done) | fail "no") (by first | ((assumption); done) | fail "no") (by first | ((omega); done) | fail "no") ?_ (by first | ((with_unfolding_all rfl); done) | fail "no"); k_whole)))
  (k_with "call builtin:list.append" => (k_here; (with_reducible show wpAny _ _ (call (Value.builtin _) [Value.ref _, _]) _ _ _); k_dflt (refine append_own (by first | ((k_asm); done) | fail "no") (by first | ((k_asm); done) | fail "no") (by first | ((k_upd); done) | fail "no") (by first | ((exact sizeLine_big (by omega)); done) | fail "no") ?_; k_whole); intro hqz Fqz Nqz; (try k_sweep)))
  (k_with "exec For Name Name cons nil" => (k_here; (rename Fr _ _ _ _ => lFqz); (with_unfolding_all refine For_invVF lFqz (by first | ((exact rfl); done) | fail "no") (by first | ((exact rfl); done) | fail "no") ?_; k_whole)))
  (k_with "exec For Name Subscript cons nil" => (k_here; (rename Fr _ _ _ _ => lFqz); (with_unfolding_all refine For_invVF lFqz (by first | ((exact rfl); done) | fail "no") (by first | ((exact rfl); done) | fail "no") ?_; k_whole)))
  (k_with "exec For Name Call cons nil" => (k_here; (rename Fr _ _ _ _ => lFqz); (with_unfolding_all refine For_invVF lFqz (by first | ((exact rfl); done) | fail "no") (by first | ((exact rfl); done) | fail "no") ?_; k_whole)))
  (k_with "getMethod ref" => (k_here; (with_reducible show wpAny _ _ (getMethod (Value.ref _) (PySem.Str.ofString "get") _) _ _ _); k_dflt (refine kdg_method (knd := PySem.strKind _ _) (by k_asm) (by k_mem) (by k_asm) ?_)))
  (k_with "call builtin:dict.get" => (k_here; k_dflt (first
  | refine kdg_get1 (knd := PySem.strKind _ _) (by k_asm) (by k_mem) (by k_asm) (by k_asm) (strKind_is _ _ _ _) (some _) (by rfl) ?_
  | refine kdg_get1 (knd := PySem.strKind _ _) (by k_asm) (by k_mem) (by k_asm) (by k_asm) (strKind_is _ _ _ _) none (by rfl) ?_); (try dsimp only [Option.getD])))
  (k_with "call type:list" => (k_here; (with_reducible show wpAny _ _ (call (Value.type _) [Value.ref _]) _ _ _); k_dflt (refine copy_own (by first | ((k_asm); done) | fail "no") (by first | ((k_asm); done) | fail "no") (by first | ((k_mem); done) | fail "no") (by first | ((exact sizeLine_big (by omega)); done) | fail "no") ?_; k_whole); intro Dqz cqz hqz Fqz Nqz l1z; (try k_lt l1z); (try k_sweep)))
  (k_with "call type:range" => (k_here; (with_reducible show wpAny _ _ (call (Value.type _) [Value.int _ _]) _ _ _); (rename Fr _ _ _ _ => Fqz); (rename News _ _ _ _ => Nqz); (with_unfolding_all refine range1_rows Fqz Nqz ?_); intro hqz tkqz t1qz u1qz v1qz Rqz Fqz Nqz hkqz))
  (k_with "setItem ref int" => (k_here; k_dflt (refine kda_set (knd := PySem.intKind _ _) (by first | ((k_asm); done) | fail "no") (by first | ((k_asm); done) | fail "no") (by first | ((k_updF); done) | fail "no") (by first | ((assumption); done) | fail "no") (intKind_is _ _ _ _) (by first | ((exact sizeLine_big (by omega)); done) | fail "no") ?_); intro hqz oqz Fqz Nqz hdqz; (try dsimp only at Nqz)))
  (k_with "call builtin:len" => (k_here; (with_reducible show wpAny _ _ (call (Value.builtin "len") [Value.ref _]) _ _ _); k_dflt (refine kda_len (knd := PySem.intKind _ _) (by first | ((k_asm); done) | fail "no") (by first | ((k_mem); done) | fail "no") (by first | ((assumption); done) | fail "no") (by first | ((assumption); done) | fail "no") (by first | ((omega); done) | fail "no") ?_; k_whole)))
  (k_with "compareOp NotIn int ref" => (k_here; k_dflt (refine kdg_notin (knd := PySem.intKind _ _) (by first | ((k_asm); done) | fail "no") (by first | ((k_mem); done) | fail "no") (by first | ((assumption); done) | fail "no") (by first | ((assumption); done) | fail "no") (intKind_is _ _ _ _) _ rfl ?_)))
  (k_with "CompSrcT" => (k_here; k_dflt (first
  | (refine LCt.CompSrcT.range (by rfl) (by first | ((k_asm); done) | fail "no") (by first | ((k_asm); done) | fail "no") (by first | ((assumption); done) | fail "no") (by first | ((exact small_one (by omega) (by omega) (by omega) (by omega)); done) | fail "no") (rs_nat _) (by first | ((exact sizeLine_big (by omega)); done) | fail "no") ?_; intro gqz)
  | (refine LCt.CompSrcT.ledger (by rfl) (by first | ((k_asm); done) | fail "no") (by first | ((k_asm); done) | fail "no") (by first | ((k_mem); done) | fail "no") (by first | ((exact sizeLine_big (by omega)); done) | fail "no") ?_; intro gqz))))
  (k_with "pyIter ref" => (k_here; (with_reducible show wpAny _ _ (pyIter (Value.ref _)) (fun it s₂ => LoopAtV _ _ _ _ _ _ _ _ _ it s₂) _ _); refine Halt.out ?_))
  (k_with "setItem ref str" => (k_here; k_dflt (refine kda_set (knd := PySem.strKind _ _) (by first | ((k_asm); done) | fail "no") (by first | ((k_asm); done) | fail "no") (by first | ((k_updF); done) | fail "no") (by first | ((assumption); done) | fail "no") (strKind_is _ _ _ _) (by first | ((exact sizeLine_big (by omega)); done) | fail "no") ?_); intro hqz oqz Fqz Nqz hdqz; (try dsimp only at Nqz)))
  (k_with "compareOp NotIn str ref" => (k_here; k_dflt (refine kdg_notin (knd := PySem.strKind _ _) (by first | ((k_asm); done) | fail "no") (by first | ((k_mem); done) | fail "no") (by first | ((assumption); done) | fail "no") (by first | ((assumption); done) | fail "no") (strKind_is _ _ _ _) _ rfl ?_)))
  (k_with "compareOp In str ref" => (k_here; k_dflt (refine kda_in (knd := PySem.strKind _ _) (by first | ((k_asm); done) | fail "no") (by first | ((k_mem); done) | fail "no") (by first | ((assumption); done) | fail "no") (by first | ((assumption); done) | fail "no") (strKind_is _ _ _ _) _ rfl ?_)))
  trivial
section
variable {w : World} {loose : List Str} {mean : ExcName → Option Value} {mg mb : Str → Option Value} {dp un : Nat} {gd : Option (List Code)} {cn : Str} {cs : Scope} {a : Addr} {ccd : Value} {cl : List (Str × Addr)} {outer : List Env} {A₀ : Around} {base h₀ : Heap} {L : Addr} {m : Str → Option Value} {news : List (Addr × Obj)} {s : Shared} {Q E : Value → Shared → Prop}
def wp1 : Option Nat → List (Option Nat)
  | none => [none]
  | some 0 => []
  | some (k + 1) => [some k]
def wpA (figs : List (Option Nat)) : List (Option Nat) := figs.flatMap wp1

theorem wpA_succ {figs : List (Option Nat)} {i : Nat} {x : Option Nat} (h : figs[i]? = some x) : wpA (figs.take (i + 1)) = wpA (figs.take i) ++ wp1 x := by
  unfold wpA
  rw [List.take_add_one, h, List.flatMap_append]; simp
theorem wp1_le (x : Option Nat) : (wp1 x).length ≤ 1 := by
  rcases x with _ | _ | k <;> simp [wp1]
theorem wpA_len : ∀ l : List (Option Nat), (wpA l).length ≤ l.length
  | [] => Nat.le_refl _
  | x :: r => by
    have h1 := wp1_le x
    have h2 := wpA_len r
    have e : wpA (x :: r) = wp1 x ++ wpA r := by simp [wpA]
    rw [e, List.length_append, List.length_cons]; omega
theorem wpA_le {l : List (Option Nat)} {i n : Nat} (h : l.length ≤ n) : (wpA (l.take i)).length ≤ n := Nat.le_trans (wpA_len _) (by rw [List.length_take]; omega)

theorem whole_nonneg {il : Addr} {is : List Value} {figs : List (Option Nat)} {n' : Nat} {sz : Int} {t : Tok}
    (B : Below A₀ base outer h₀) (F : Fr h₀ L s.heap m) (X : (hd.heap_39 w.params).In h₀) (N : News h₀ L s.heap news) (T : Top hd.view_39 loose mean mg mb h₀) (hk : cs.kind = .function)
    (hdp : dp + 10 < recursionLimit)
    (hil : (il, listOf is.toArray n') ∈ news) (hfi : Paired OI is figs) (hlen : figs.length ≤ 1000)
    (ret : ∀ f h' tk' nf ps, Fr h₀ L h' m → News h₀ L h' ((f, listOf ps.toArray nf) :: news) → Paired OI ps (wpA figs) → (∀ p ∈ news, p.1 ≠ f) → Q (.ref f) { s with heap := h', toks := tk' }) :
    wpAny (model PySem.Challenge.rw_pq1395_01.row.prog w) (ktrTop dp un gd cn cs L a ccd cl outer) (call (.ref 110) [.ref il, .int sz t]) Q E s := by
  refine wpAny_call ?_
  obtain ⟨k0, n0, ig0, ic0, mo0⟩ := cs
  dsimp only at hk
  subst hk
  k_dflt k_enter
  k_steps
  rename News _ _ _ _ => N1
  rename Fr _ _ _ _ => F1
  have N2 := news_swap N1
  refine Halt.mk ?_
  with_unfolding_all refine lp_list (σ := List Value × Nat) (fun c => [(_, listOf c.1.toArray c.2)]) (fun _ => []) [Str.ofString "lacks"] (fun i c => Paired OI c.1 (wpA (figs.take i))) _ ([], 0) rfl rfl (List.mem_cons_of_mem _ (List.mem_cons_of_mem _ hil)) F1 N2 (fun _ => rfl) (off_of (by first | k_all | fail "off")) (fun _ hp => nomatch hp) .nil ?_ ?_
  · clear F1 N1 N2
    intro i pv c nx u h9 tk9 hi hsub hoff hP F2 N2
    obtain ⟨o, ho, hO⟩ := pget hfi hi
    have hoff' := off_one hoff
    have hcl : c.1.length ≤ 1000 := by rw [Paired.length hP]; exact wpA_le (by omega)
    simp only [List.cons_append, List.nil_append] at N2
    k_unmd
    k_fold
    cases hO with
    | none =>
      k_steps
      refine LpEnd.intro (_, _) (by assumption) (by assumption) (fun _ hp => nomatch hp) (by kst_same) ?_
      rw [wpA_succ ho]; exact Paired.snoc hP .none
    | int kk t =>
      k_steps
      · refine LpEnd.intro (_, _) (by assumption) (by assumption) (fun _ hp => nomatch hp) (by kst_same) ?_
        rw [wpA_succ ho]
        obtain ⟨j, rfl⟩ : ∃ j, kk = j + 1 := ⟨kk - 1, by omega⟩
        have e : ((j + 1 : Nat) : Int) - 1 = (j : Int) := by omega
        show Paired OI (c.1 ++ [Value.int (((j + 1 : Nat) : Int) - 1) _]) _
        rw [e]; exact Paired.snoc hP (.int _ _)
      · refine LpEnd.intro (_, _) (by assumption) (by assumption) (fun _ hp => nomatch hp) (by kst_same) ?_
        rw [wpA_succ ho]
        obtain rfl : kk = 0 := by omega
        show Paired OI c.1 _
        simpa [wp1] using hP
  · clear F1 N1
    intro c u h9 tk9 hP F2 N2
    simp only [List.cons_append, List.nil_append] at N2
    dsimp only
    k_steps
    rw [List.take_of_length_le (by rw [Paired.length hfi]; exact Nat.le_refl _)] at hP
    exact ret _ _ _ _ _ (by assumption) (cb_drop (by assumption) (by intro p hp; rcases List.mem_cons.mp hp with rfl | hp <;> k_mem)) hP (ne_of_lts (by assumption) (by omega))
end
theorem reg7 : True := by
  k_with_none
  (k_with "call builtin:len" => (k_here; (with_reducible show wpAny _ _ (call (Value.builtin "len") [Value.ref _]) _ _ _); k_dflt (refine len_own (by first | ((k_asm); done) | fail "no") (by first | ((k_mem); done) | fail "no") (by first | ((omega); done) | fail "no") ?_; k_whole)))
  (k_with "subscriptTail" => (k_here; (with_reducible show wpAny _ _ (subscriptTail _ _ (Value.ref _) (Value.int _ _)) _ _ _); (with_unfolding_all refine item_own (by first | ((k_asm); done) | fail "no") (by first | ((k_mem); done) | fail "no") (by first | ((omega); done) | fail "no") (by first | ((omega); done) | fail "no") (by first | ((omega); done) | fail "no") ?_ (by first | ((with_unfolding_all rfl); done) | fail "no"); k_whole)))
  (k_with "subscriptTail" => (k_here; (with_reducible show wpAny _ _ (subscriptTail _ _ (Value.ref _) (Value.int (Nat.cast _) _)) _ _ _); (with_unfolding_all refine item_at (by first | ((k_asm); done) | fail "no") (by first | ((k_mem); done) | fail "no") (by first | ((assumption); done) | fail "no") (by first | ((omega); done) | fail "no") ?_ (by first | ((with_unfolding_all rfl); done) | fail "no"); k_whole)))
  (k_with "call builtin:list.append" => (k_here; (with_reducible show wpAny _ _ (call (Value.builtin _) [Value.ref _, _]) _ _ _); k_dflt (refine append_own (by first | ((k_asm); done) | fail "no") (by first | ((k_asm); done) | fail "no") (by first | ((k_upd); done) | fail "no") (by first | ((exact sizeLine_big (by omega)); done) | fail "no") ?_; k_whole); intro hqz Fqz Nqz; (try k_sweep)))
  (k_with "exec For Name Name cons nil" => (k_here; (rename Fr _ _ _ _ => lFqz); (with_unfolding_all refine For_invVF lFqz (by first | ((exact rfl); done) | fail "no") (by first | ((exact rfl); done) | fail "no") ?_; k_whole)))
  (k_with "exec For Name Subscript cons nil" => (k_here; (rename Fr _ _ _ _ => lFqz); (with_unfolding_all refine For_invVF lFqz (by first | ((exact rfl); done) | fail "no") (by first | ((exact rfl); done) | fail "no") ?_; k_whole)))
  (k_with "exec For Name Call cons nil" => (k_here; (rename Fr _ _ _ _ => lFqz); (with_unfolding_all refine For_invVF lFqz (by first | ((exact rfl); done) | fail "no") (by first | ((exact rfl); done) | fail "no") ?_; k_whole)))
  (k_with "getMethod ref" => (k_here; (with_reducible show wpAny _ _ (getMethod (Value.ref _) (PySem.Str.ofString "get") _) _ _ _); k_dflt (refine kdg_method (knd := PySem.strKind _ _) (by k_asm) (by k_mem) (by k_asm) ?_)))
  (k_with "call builtin:dict.get" => (k_here; k_dflt (first
  | refine kdg_get1 (knd := PySem.strKind _ _) (by k_asm) (by k_mem) (by k_asm) (by k_asm) (strKind_is _ _ _ _) (some _) (by rfl) ?_
  | refine kdg_get1 (knd := PySem.strKind _ _) (by k_asm) (by k_mem) (by k_asm) (by k_asm) (strKind_is _ _ _ _) none (by rfl) ?_); (try dsimp only [Option.getD])))
  (k_with "call type:list" => (k_here; (with_reducible show wpAny _ _ (call (Value.type _) [Value.ref _]) _ _ _); k_dflt (refine copy_own (by first | ((k_asm); done) | fail "no") (by first | ((k_asm); done) | fail "no") (by first | ((k_mem); done) | fail "no") (by first | ((exact sizeLine_big (by omega)); done) | fail "no") ?_; k_whole); intro Dqz cqz hqz Fqz Nqz l1z; (try k_lt l1z); (try k_sweep)))
  (k_with "call type:range" => (k_here; (with_reducible show wpAny _ _ (call (Value.type _) [Value.int _ _]) _ _ _); (rename Fr _ _ _ _ => Fqz); (rename News _ _ _ _ => Nqz); (with_unfolding_all refine range1_rows Fqz Nqz ?_); intro hqz tkqz t1qz u1qz v1qz Rqz Fqz Nqz hkqz))
  (k_with "setItem ref int" => (k_here; k_dflt (refine kda_set (knd := PySem.intKind _ _) (by first | ((k_asm); done) | fail "no") (by first | ((k_asm); done) | fail "no") (by first | ((k_updF); done) | fail "no") (by first | ((assumption); done) | fail "no") (intKind_is _ _ _ _) (by first | ((exact sizeLine_big (by omega)); done) | fail "no") ?_); intro hqz oqz Fqz Nqz hdqz; (try dsimp only at Nqz)))
  (k_with "call builtin:len" => (k_here; (with_reducible show wpAny _ _ (call (Value.builtin "len") [Value.ref _]) _ _ _); k_dflt (refine kda_len (knd := PySem.intKind _ _) (by first | ((k_asm); done) | fail "no") (by first | ((k_mem); done) | fail "no") (by first | ((assumption); done) | fail "no") (by first | ((assumption); done) | fail "no") (by first | ((omega); done) | fail "no") ?_; k_whole)))
  (k_with "compareOp NotIn int ref" => (k_here; k_dflt (refine kdg_notin (knd := PySem.intKind _ _) (by first | ((k_asm); done) | fail "no") (by first | ((k_mem); done) | fail "no") (by first | ((assumption); done) | fail "no") (by first | ((assumption); done) | fail "no") (intKind_is _ _ _ _) _ rfl ?_)))
  (k_with "CompSrcT" => (k_here; k_dflt (first
  | (refine LCt.CompSrcT.range (by rfl) (by first | ((k_asm); done) | fail "no") (by first | ((k_asm); done) | fail "no") (by first | ((assumption); done) | fail "no") (by first | ((exact small_one (by omega) (by omega) (by omega) (by omega)); done) | fail "no") (rs_nat _) (by first | ((exact sizeLine_big (by omega)); done) | fail "no") ?_; intro gqz)
  | (refine LCt.CompSrcT.ledger (by rfl) (by first | ((k_asm); done) | fail "no") (by first | ((k_asm); done) | fail "no") (by first | ((k_mem); done) | fail "no") (by first | ((exact sizeLine_big (by omega)); done) | fail "no") ?_; intro gqz))))
  (k_with "pyIter ref" => (k_here; (with_reducible show wpAny _ _ (pyIter (Value.ref _)) (fun it s₂ => LoopAtV _ _ _ _ _ _ _ _ _ it s₂) _ _); refine Halt.out ?_))
  (k_with "setItem ref str" => (k_here; k_dflt (refine kda_set (knd := PySem.strKind _ _) (by first | ((k_asm); done) | fail "no") (by first | ((k_asm); done) | fail "no") (by first | ((k_updF); done) | fail "no") (by first | ((assumption); done) | fail "no") (strKind_is _ _ _ _) (by first | ((exact sizeLine_big (by omega)); done) | fail "no") ?_); intro hqz oqz Fqz Nqz hdqz; (try dsimp only at Nqz)))
  (k_with "compareOp NotIn str ref" => (k_here; k_dflt (refine kdg_notin (knd := PySem.strKind _ _) (by first | ((k_asm); done) | fail "no") (by first | ((k_mem); done) | fail "no") (by first | ((assumption); done) | fail "no") (by first | ((assumption); done) | fail "no") (strKind_is _ _ _ _) _ rfl ?_)))
  (k_with "compareOp In str ref" => (k_here; k_dflt (refine kda_in (knd := PySem.strKind _ _) (by first | ((k_asm); done) | fail "no") (by first | ((k_mem); done) | fail "no") (by first | ((assumption); done) | fail "no") (by first | ((assumption); done) | fail "no") (strKind_is _ _ _ _) _ rfl ?_)))
  trivial
section
variable {w : World} {loose : List Str} {mean : ExcName → Option Value} {mg mb : Str → Option Value} {dp un : Nat} {gd : Option (List Code)} {cn : Str} {cs : Scope} {a : Addr} {ccd : Value} {cl : List (Str × Addr)} {outer : List Env} {A₀ : Around} {base h₀ : Heap} {L : Addr} {m : Str → Option Value} {news : List (Addr × Obj)} {s : Shared} {Q E : Value → Shared → Prop}
def lp1 (ts : List (Option Nat)) (i : Nat) : List (Option Nat) :=
  match ts[i % ts.length]? with
  | some none => [none]
  | some (some 0) => []
  | some (some (_ + 1)) => [some i]
  | none => []
theorem lp1_none {ts : List (Option Nat)} {i : Nat} (h : ts[i % ts.length]? = some none) : lp1 ts i = [none] := by unfold lp1; rw [h]
theorem lp1_zero {ts : List (Option Nat)} {i : Nat} (h : ts[i % ts.length]? = some (some 0)) : lp1 ts i = [] := by unfold lp1; rw [h]
theorem lp1_succ {ts : List (Option Nat)} {i j : Nat} (h : ts[i % ts.length]? = some (some (j + 1))) : lp1 ts i = [some i] := by unfold lp1; rw [h]
def lpA (ts : List (Option Nat)) (k : Nat) : List (Option Nat) := (List.range k).flatMap (lp1 ts)
def logA (ts : List (Option Nat)) (n : Nat) : List (Option Nat) := if ts.length = 0 then [] else lpA ts (max n ts.length)
theorem lpA_succ (ts : List (Option Nat)) (i : Nat) : lpA ts (i + 1) = lpA ts i ++ lp1 ts i := by
  unfold lpA
  rw [List.range_succ, List.flatMap_append]; simp
theorem lp1_le (ts : List (Option Nat)) (i : Nat) : (lp1 ts i).length ≤ 1 := by
  unfold lp1; split <;> simp
theorem lpA_le (ts : List (Option Nat)) : ∀ i, (lpA ts i).length ≤ i
  | 0 => by simp [lpA]
  | i + 1 => by
    have h1 := lp1_le ts i
    have h2 := lpA_le ts i
    rw [lpA_succ, List.length_append]; omega

theorem logical_spec {il : Addr} {is : List Value} {ts : List (Option Nat)} {n' sz : Nat} {t : Tok}
    (B : Below A₀ base outer h₀) (F : Fr h₀ L s.heap m) (X : (hd.heap_39 w.params).In h₀) (N : News h₀ L s.heap news) (T : Top hd.view_39 loose mean mg mb h₀) (hk : cs.kind = .function)
    (hdp : dp + 10 < recursionLimit)
    (hil : (il, listOf is.toArray n') ∈ news) (hfi : Paired OI is ts) (hlen : ts.length ≤ 1000) (hsz : sz ≤ 1000)
    (ret : ∀ f h' tk' nf ps, Fr h₀ L h' m → News h₀ L h' ((f, listOf ps.toArray nf) :: news) → Paired OI ps (logA ts sz) → (∀ p ∈ news, p.1 ≠ f) → Q (.ref f) { s with heap := h', toks := tk' }) :
    wpAny (model PySem.Challenge.rw_pq1395_01.row.prog w) (ktrTop dp un gd cn cs L a ccd cl outer) (call (.ref 105) [.ref il, .int (sz : Int) t]) Q E s := by
  have hlen2 := Paired.length hfi
  refine wpAny_call ?_
  k_dflt cell_enter
  k_steps
  · have e0 : ts.length = 0 := by omega
    exact ret _ _ _ _ _ (by assumption) (by assumption) (by unfold logA; rw [if_pos e0]; exact .nil) (ne_of_lt_all (by assumption))
  · have e0 : ¬ ts.length = 0 := by omega
    rename News _ _ _ _ => N1
    rename Fr _ _ _ _ => F1
    rename IsRange _ _ _ _ _ _ _ _ => R1
    refine Halt.mk ?_
    with_unfolding_all refine lp_range (σ := List Value × Nat) (n := max sz is.length) (fun c => [(_, listOf c.1.toArray c.2)]) (fun _ => []) [Str.ofString "item"] (fun i c => Paired OI c.1 (lpA ts i)) _ ([], 0) rfl R1 (small_one (by omega) (by omega) (by omega) (by omega)) (rs_max _ _) rfl F1 N1 (fun _ => rfl) (off_of (by first | k_all | fail "off")) (fun _ hp => nomatch hp) .nil ?_ ?_
    · clear F1 N1
      intro i ti c nx u h9 tk9 hi hsub hoff hP F2 N2
      have hoff' := off_one hoff
      have hil' := hsub _ hil
      have hcl : c.1.length ≤ 1000 := by rw [Paired.length hP]; exact Nat.le_trans (lpA_le _ _) (by omega)
      simp only [List.cons_append, List.nil_append] at N2
      k_unmd
      k_fold
      k_steps
      have hpos : 0 < is.length := by omega
      have e9 : Int.fmod (0 + (i : Int)) (is.length : Int) = ((i % is.length : Nat) : Int) := by rw [Int.fmod_eq_emod_of_nonneg _ (by omega), Int.zero_add]; rfl
      simp only [e9]
      have hj : i % is.length < is.length := Nat.mod_lt _ hpos
      obtain ⟨o, ho, hO⟩ := pget hfi (List.getElem?_eq_getElem hj)
      with_unfolding_all refine item_at N2 (List.mem_cons_of_mem _ hil') (List.getElem?_eq_getElem hj) (by omega) ?_
      generalize is[i % is.length] = v9 at hO
      rw [hlen2] at ho
      cases hO with
      | none =>
        k_steps
        refine LpEnd.intro (_, _) (by assumption) (by assumption) (fun _ hp => nomatch hp) (by kst_same) ?_
        rw [lpA_succ, lp1_none ho]; exact Paired.snoc hP .none
      | int kk t =>
        k_steps
        · refine LpEnd.intro (_, _) (by assumption) (by assumption) (fun _ hp => nomatch hp) (by kst_same) ?_
          obtain ⟨j, rfl⟩ : ∃ j, kk = j + 1 := ⟨kk - 1, by omega⟩
          rw [lpA_succ, lp1_succ ho]
          have e8 : (0 : Int) + (i : Int) = (i : Int) := by omega
          rw [e8]; exact Paired.snoc hP (.int _ _)
        · refine LpEnd.intro (_, _) (by assumption) (by assumption) (fun _ hp => nomatch hp) (by kst_same) ?_
          obtain rfl : kk = 0 := by omega
          rw [lpA_succ, lp1_zero ho]
          show Paired OI c.1 _
          simpa using hP
    · clear F1 N1
      intro c u h9 tk9 hP F2 N2
      simp only [List.cons_append, List.nil_append] at N2
      dsimp only
      k_steps
      refine ret _ _ _ _ _ (by assumption) (by assumption) ?_ (ne_of_lt_all (by assumption))
      unfold logA
      rw [if_neg e0, ← hlen2]; exact hP
end
theorem reg8 : True := by
  k_with_none
  (k_with "call builtin:len" => (k_here; (with_reducible show wpAny _ _ (call (Value.builtin "len") [Value.ref _]) _ _ _); k_dflt (refine len_own (by first | ((k_asm); done) | fail "no") (by first | ((k_mem); done) | fail "no") (by first | ((omega); done) | fail "no") ?_; k_whole)))
  (k_with "subscriptTail" => (k_here; (with_reducible show wpAny _ _ (subscriptTail _ _ (Value.ref _) (Value.int _ _)) _ _ _); (with_unfolding_all refine item_own (by first | ((k_asm); done) | fail "no") (by first | ((k_mem); done) | fail "no") (by first | ((omega); done) | fail "no") (by first | ((omega); done) | fail "no") (by first | ((omega); done) | fail "no") ?_ (by first | ((with_unfolding_all rfl); done) | fail "no"); k_whole)))
  (k_with "subscriptTail" => (k_here; (with_reducible show wpAny _ _ (subscriptTail _ _ (Value.ref _) (Value.int (Nat.cast _) _)) _ _ _); (with_unfolding_all refine item_at (by first | ((k_asm); done) | fail "no") (by first | ((k_mem); done) | fail "no") (by first | ((assumption); done) | fail "no") (by first | ((omega); done) | fail "no") ?_ (by first | ((with_unfolding_all rfl); done) | fail "no"); k_whole)))
  (k_with "call builtin:list.append" => (k_here; (with_reducible show wpAny _ _ (call (Value.builtin _) [Value.ref _, _]) _ _ _); k_dflt (refine append_own (by first | ((k_asm); done) | fail "no") (by first | ((k_asm); done) | fail "no") (by first | ((k_upd); done) | fail "no") (by first | ((exact sizeLine_big (by omega)); done) | fail "no") ?_; k_whole); intro hqz Fqz Nqz; (try k_sweep)))
  (k_with "exec For Name Name cons nil" => (k_here; (rename Fr _ _ _ _ => lFqz); (with_unfolding_all refine For_invVF lFqz (by first | ((exact rfl); done) | fail "no") (by first | ((exact rfl); done) | fail "no") ?_; k_whole)))
  (k_with "exec For Name Subscript cons nil" => (k_here; (rename Fr _ _ _ _ => lFqz); (with_unfolding_all refine For_invVF lFqz (by first | ((exact rfl); done) | fail "no") (by first | ((exact rfl); done) | fail "no") ?_; k_whole)))
  (k_with "exec For Name Call cons nil" => (k_here; (rename Fr _ _ _ _ => lFqz); (with_unfolding_all refine For_invVF lFqz (by first | ((exact rfl); done) | fail "no") (by first | ((exact rfl); done) | fail "no") ?_; k_whole)))
  (k_with "getMethod ref" => (k_here; (with_reducible show wpAny _ _ (getMethod (Value.ref _) (PySem.Str.ofString "get") _) _ _ _); k_dflt (refine kdg_method (knd := PySem.strKind _ _) (by k_asm) (by k_mem) (by k_asm) ?_)))
  (k_with "call builtin:dict.get" => (k_here; k_dflt (first
  | refine kdg_get1 (knd := PySem.strKind _ _) (by k_asm) (by k_mem) (by k_asm) (by k_asm) (strKind_is _ _ _ _) (some _) (by rfl) ?_
  | refine kdg_get1 (knd := PySem.strKind _ _) (by k_asm) (by k_mem) (by k_asm) (by k_asm) (strKind_is _ _ _ _) none (by rfl) ?_); (try dsimp only [Option.getD])))
  (k_with "call type:list" => (k_here; (with_reducible show wpAny _ _ (call (Value.type _) [Value.ref _]) _ _ _); k_dflt (refine copy_own (by first | ((k_asm); done) | fail "no") (by first | ((k_asm); done) | fail "no") (by first | ((k_mem); done) | fail "no") (by first | ((exact sizeLine_big (by omega)); done) | fail "no") ?_; k_whole); intro Dqz cqz hqz Fqz Nqz l1z; (try k_lt l1z); (try k_sweep)))
  (k_with "call type:range" => (k_here; (with_reducible show wpAny _ _ (call (Value.type _) [Value.int _ _]) _ _ _); (rename Fr _ _ _ _ => Fqz); (rename News _ _ _ _ => Nqz); (with_unfolding_all refine range1_rows Fqz Nqz ?_); intro hqz tkqz t1qz u1qz v1qz Rqz Fqz Nqz hkqz))
  (k_with "setItem ref int" => (k_here; k_dflt (refine kda_set (knd := PySem.intKind _ _) (by first | ((k_asm); done) | fail "no") (by first | ((k_asm); done) | fail "no") (by first | ((k_updF); done) | fail "no") (by first | ((assumption); done) | fail "no") (intKind_is _ _ _ _) (by first | ((exact sizeLine_big (by omega)); done) | fail "no") ?_); intro hqz oqz Fqz Nqz hdqz; (try dsimp only at Nqz)))
  (k_with "call builtin:len" => (k_here; (with_reducible show wpAny _ _ (call (Value.builtin "len") [Value.ref _]) _ _ _); k_dflt (refine kda_len (knd := PySem.intKind _ _) (by first | ((k_asm); done) | fail "no") (by first | ((k_mem); done) | fail "no") (by first | ((assumption); done) | fail "no") (by first | ((assumption); done) | fail "no") (by first | ((omega); done) | fail "no") ?_; k_whole)))
  (k_with "compareOp NotIn int ref" => (k_here; k_dflt (refine kdg_notin (knd := PySem.intKind _ _) (by first | ((k_asm); done) | fail "no") (by first | ((k_mem); done) | fail "no") (by first | ((assumption); done) | fail "no") (by first | ((assumption); done) | fail "no") (intKind_is _ _ _ _) _ rfl ?_)))
  (k_with "CompSrcT" => (k_here; k_dflt (first
  | (refine LCt.CompSrcT.range (by rfl) (by first | ((k_asm); done) | fail "no") (by first | ((k_asm); done) | fail "no") (by first | ((assumption); done) | fail "no") (by first | ((exact small_one (by omega) (by omega) (by omega) (by omega)); done) | fail "no") (rs_nat _) (by first | ((exact sizeLine_big (by omega)); done) | fail "no") ?_; intro gqz)
  | (refine LCt.CompSrcT.ledger (by rfl) (by first | ((k_asm); done) | fail "no") (by first | ((k_asm); done) | fail "no") (by first | ((k_mem); done) | fail "no") (by first | ((exact sizeLine_big (by omega)); done) | fail "no") ?_; intro gqz))))
  (k_with "pyIter ref" => (k_here; (with_reducible show wpAny _ _ (pyIter (Value.ref _)) (fun it s₂ => LoopAtV _ _ _ _ _ _ _ _ _ it s₂) _ _); refine Halt.out ?_))
  (k_with "setItem ref str" => (k_here; k_dflt (refine kda_set (knd := PySem.strKind _ _) (by first | ((k_asm); done) | fail "no") (by first | ((k_asm); done) | fail "no") (by first | ((k_updF); done) | fail "no") (by first | ((assumption); done) | fail "no") (strKind_is _ _ _ _) (by first | ((exact sizeLine_big (by omega)); done) | fail "no") ?_); intro hqz oqz Fqz Nqz hdqz; (try dsimp only at Nqz)))
  (k_with "compareOp NotIn str ref" => (k_here; k_dflt (refine kdg_notin (knd := PySem.strKind _ _) (by first | ((k_asm); done) | fail "no") (by first | ((k_mem); done) | fail "no") (by first | ((assumption); done) | fail "no") (by first | ((assumption); done) | fail "no") (strKind_is _ _ _ _) _ rfl ?_)))
  (k_with "compareOp In str ref" => (k_here; k_dflt (refine kda_in (knd := PySem.strKind _ _) (by first | ((k_asm); done) | fail "no") (by first | ((k_mem); done) | fail "no") (by first | ((assumption); done) | fail "no") (by first | ((assumption); done) | fail "no") (strKind_is _ _ _ _) _ rfl ?_)))
  trivial
section
variable {w : World} {loose : List Str} {mean : ExcName → Option Value} {mg mb : Str → Option Value} {dp un : Nat} {gd : Option (List Code)} {cn : Str} {cs : Scope} {a : Addr} {ccd : Value} {cl : List (Str × Addr)} {outer : List Env} {A₀ : Around} {base h₀ : Heap} {L : Addr} {m : Str → Option Value} {news : List (Addr × Obj)} {s : Shared} {Q E : Value → Shared → Prop}
inductive NI : Value → Nat → Prop
  | int (k : Nat) (t : Tok) : NI (Value.int (-1 - (k : Int)) t) k

theorem valueAt_stored {K : Type} [DecidableEq K] (kvs : List (K × Value)) (k k' : K) (v : Value) : valueAt (stored kvs k v) k' = if k = k' then some v else valueAt kvs k' := by
  unfold stored valueAt
  split
  · rename_i h
    induction kvs with
    | nil => simp at h
    | cons p r ih =>
      simp only [List.map_cons, List.find?_cons]
      by_cases hp : p.1 = k
      · simp only [hp, if_true]
        by_cases hk : k = k'
        · simp [hk]
        · simp only [hk, decide_false, if_false]
          by_cases hr : (r.any fun kv => decide (kv.1 = k)) = true
          · have := ih hr
            simpa [hk] using this
          · have e : r.map (fun kv => if kv.1 = k then (kv.1, v) else kv) = r := by
              apply map_eq_self
              intro x hx
              have : ¬ x.1 = k := fun e => hr (List.any_eq_true.mpr ⟨x, hx, by simp [e]⟩)
              simp [this]
            rw [e]
      · have hr : (r.any fun kv => decide (kv.1 = k)) = true := by simpa [hp] using h
        simp only [if_neg hp]
        by_cases hk : p.1 = k'
        · have : ¬ k = k' := fun e => hp (hk.trans e.symm)
          simp [hk, this]
        · simp only [hk, decide_false]
          exact ih hr
  · rename_i h
    rw [List.find?_append]
    cases hf : kvs.find? (fun kv => decide (kv.1 = k')) with
    | none => by_cases hk : k = k' <;> simp [hk]
    | some x =>
      have hx := List.find?_some hf
      have hm := List.mem_of_find?_eq_some hf
      have : ¬ k = k' := fun e => h (List.any_eq_true.mpr ⟨x, hm, by simpa [e] using hx⟩)
      simp [this]

/-- the places that are left: those of ks are taken out -/
def leftB (ks : List Nat) (n : Nat) : List (Option Nat) := ((List.range n).filter fun i => !ks.contains i).map some

theorem leftB_succ (ks : List Nat) (i : Nat) : leftB ks (i + 1) = leftB ks i ++ (if ks.contains i then [] else [some i]) := by
  unfold leftB
  rw [List.range_succ, List.filter_append, List.map_append]
  congr 1
  by_cases h : ks.contains i = true
  · rw [if_pos h]; simpa using h
  · rw [if_neg h]; simpa using h

theorem whole_neg {il : Addr} {is : List Value} {ks : List Nat} {n' sz : Nat} {t : Tok}
    (B : Below A₀ base outer h₀) (F : Fr h₀ L s.heap m) (X : (hd.heap_39 w.params).In h₀) (N : News h₀ L s.heap news) (T : Top hd.view_39 loose mean mg mb h₀) (hk : cs.kind = .function)
    (hdp : dp + 10 < recursionLimit)
    (hil : (il, listOf is.toArray n') ∈ news) (hfi : Paired NI is ks) (hlen : ks.length ≤ 1000) (hne : ks ≠ []) (hsz : sz ≤ 1000)
    (ret : ∀ f h' tk' nf ps, Fr h₀ L h' m → News h₀ L h' ((f, listOf ps.toArray nf) :: news) → Paired OI ps (leftB ks sz) → (∀ p ∈ news, p.1 ≠ f) → Q (.ref f) { s with heap := h', toks := tk' }) :
    wpAny (model PySem.Challenge.rw_pq1395_01.row.prog w) (ktrTop dp un gd cn cs L a ccd cl outer) (call (.ref 110) [.ref il, .int (sz : Int) t]) Q E s := by
  refine wpAny_call ?_
  obtain ⟨k0, n0, ig0, ic0, mo0⟩ := cs
  dsimp only at hk
  subst hk
  k_dflt k_enter
  k_steps
  rename News _ _ _ _ => N1
  rename Fr _ _ _ _ => F1
  refine Halt.mk ?_
  with_unfolding_all refine lp_list (σ := Obj × List (Int × Value)) (fun c => [(_, c.1)]) (fun _ => []) [] (fun i c => c.1.IsDictOf (PySem.intKind PySem.Challenge.rw_pq1395_01.row.prog w) c.2 ∧ (∀ j : Nat, (valueAt c.2 (j : Int)).isSome = (ks.take i).contains j) ∧ c.2.length ≤ i) _ (_, []) rfl rfl (List.mem_cons_of_mem _ (List.mem_cons_of_mem _ hil)) F1 N1 (fun _ => rfl) (off_of (by first | k_all | fail "off")) (fun _ hp => nomatch hp) ⟨by assumption, fun j => rfl, Nat.le_refl _⟩ ?_ ?_
  · clear F1 N1
    intro i pv c nx u h9 tk9 hi hsub hoff hP F2 N2
    obtain ⟨hd, hv, hl⟩ := hP
    obtain ⟨o, ho, hO⟩ := pget hfi hi
    have hoff' := off_one hoff
    have hm0 := hsub _ List.mem_cons_self
    have hm1 := hsub _ (List.mem_cons_of_mem _ List.mem_cons_self)
    have hi' : i < is.length := (List.getElem?_eq_some_iff.mp hi).1
    have hcl : c.2.length ≤ 1000 := by rw [Paired.length hfi] at hi'; omega
    simp only [List.cons_append, List.nil_append] at N2
    k_unmd
    k_fold
    cases hO with
    | int _ t =>
      k_steps
      have e9 : (-(-1 - (o : Int)) - 1) = (o : Int) := by omega
      refine LpEnd.intro (_, _) (by assumption) (by assumption) (fun _ hp => nomatch hp) (by kst_same) ⟨by assumption, fun j => ?_, ?_⟩
      · show (valueAt (stored c.2 (-(-1 - (o : Int)) - 1) (Value.bool true)) (j : Int)).isSome = _
        rw [e9, valueAt_stored, List.take_add_one, ho]
        by_cases hj : (o : Int) = (j : Int)
        · have : o = j := by omega
          simp [this]
        · have hj' : ¬ j = o := by omega
          rw [if_neg hj, hv j]
          simp [hj']
      · exact Nat.le_trans (stored_length_le _ _ _) (Nat.add_le_add_right hl 1)
  · clear F1 N1
    intro c u h9 tk9 hP F2 N2
    obtain ⟨hd, hv, hl⟩ := hP
    simp only [List.cons_append, List.nil_append] at N2
    dsimp only
    have hcl : c.2.length ≤ 1000 := by rw [Paired.length hfi] at hl; omega
    have hcn : 0 < c.2.length := by
      obtain ⟨k0, r0, rfl⟩ := List.exists_cons_of_ne_nil hne
      have h0 := hv k0
      rw [Paired.length hfi, List.take_length] at h0
      cases hc : c.2 with
      | nil => rw [hc] at h0; simp [valueAt] at h0
      | cons => simp
    rw [Paired.length hfi, List.take_length] at hv
    k_steps
    · exfalso; omega
    with_unfolding_all refine crT_of (n := sz) (fun i ys nx => nx = _ ∧ Paired OI ys (leftB ks i)) ?turn ?fin sz 0 [] _ (Nat.zero_add _) ⟨rfl, .nil⟩
    case turn =>
      intro i ys nx v I oI C oC D m₂ h9 tk9 E9 hi hJ hv9 hC hx F9 N9 off ne
      obtain ⟨rfl, hY⟩ := hJ
      obtain ⟨t9, rfl⟩ := hv9
      k_unmd
      k_fold
      k_steps
      · rename Option.isSome _ = true => hb
        have e : ((0 : Int) + (i : Int)) = (i : Int) := by omega
        rw [e, hv i] at hb
        refine LCg.CompEnd.intro (by assumption) (by assumption) _ (fun p hp => hp) off trivial ⟨rfl, ?_⟩
        rw [leftB_succ, if_pos hb, List.append_nil]; exact hY
      · rename Option.isSome _ = false => hb
        have e : ((0 : Int) + (i : Int)) = (i : Int) := by omega
        rw [e, hv i] at hb
        refine LCg.CompEnd.intro (by assumption) (by assumption) _ (fun p hp => hp) off trivial ⟨rfl, ?_⟩
        rw [leftB_succ, if_neg (by rw [hb]; decide), e]; exact Paired.snoc hY (.int _ _)
    case fin =>
      intro ys nx hJ
      obtain ⟨rfl, hY⟩ := hJ
      k_steps
      rename _ ≠ _ ∧ _ ≠ _ ∧ _ ≠ _ ∧ LCg.Off1 _ _ => ho1
      obtain ⟨_, _, _, ho1⟩ := ho1
      exact ret _ _ _ _ _ (by assumption) (cb_drop (by assumption) (by intro p hp; rcases List.mem_cons.mp hp with rfl | hp <;> k_mem)) hY (off1_all ho1)
end
theorem reg9 : True := by
  k_with_none
  (k_with "call builtin:len" => (k_here; (with_reducible show wpAny _ _ (call (Value.builtin "len") [Value.ref _]) _ _ _); k_dflt (refine len_own (by first | ((k_asm); done) | fail "no") (by first | ((k_mem); done) | fail "no") (by first | ((omega); done) | fail "no") ?_; k_whole)))
  (k_with "subscriptTail" => (k_here; (with_reducible show wpAny _ _ (subscriptTail _ _ (Value.ref _) (Value.int _ _)) _ _ _); (with_unfolding_all refine item_own (by first | ((k_asm); done) | fail "no") (by first | ((k_mem); done) | fail "no") (by first | ((omega); done) | fail "no") (by first | ((omega); done) | fail "no") (by first | ((omega); done) | fail "no") ?_ (by first | ((with_unfolding_all rfl); done) | fail "no"); k_whole)))
  (k_with "subscriptTail" => (k_here; (with_reducible show wpAny _ _ (subscriptTail _ _ (Value.ref _) (Value.int (Nat.cast _) _)) _ _ _); (with_unfolding_all refine item_at (by first | ((k_asm); done) | fail "no") (by first | ((k_mem); done) | fail "no") (by first | ((assumption); done) | fail "no") (by first | ((omega); done) | fail "no") ?_ (by first | ((with_unfolding_all rfl); done) | fail "no"); k_whole)))
  (k_with "call builtin:list.append" => (k_here; (with_reducible show wpAny _ _ (call (Value.builtin _) [Value.ref _, _]) _ _ _); k_dflt (refine append_own (by first | ((k_asm); done) | fail "no") (by first | ((k_asm); done) | fail "no") (by first | ((k_upd); done) | fail "no") (by first | ((exact sizeLine_big (by omega)); done) | fail "no") ?_; k_whole); intro hqz Fqz Nqz; (try k_sweep)))
  (k_with "exec For Name Name cons nil" => (k_here; (rename Fr _ _ _ _ => lFqz); (with_unfolding_all refine For_invVF lFqz (by first | ((exact rfl); done) | fail "no") (by first | ((exact rfl); done) | fail "no") ?_; k_whole)))
  (k_with "exec For Name Subscript cons nil" => (k_here; (rename Fr _ _ _ _ => lFqz); (with_unfolding_all refine For_invVF lFqz (by first | ((exact rfl); done) | fail "no") (by first | ((exact rfl); done) | fail "no") ?_; k_whole)))
  (k_with "exec For Name Call cons nil" => (k_here; (rename Fr _ _ _ _ => lFqz); (with_unfolding_all refine For_invVF lFqz (by first | ((exact rfl); done) | fail "no") (by first | ((exact rfl); done) | fail "no") ?_; k_whole)))
  (k_with "getMethod ref" => (k_here; (with_reducible show wpAny _ _ (getMethod (Value.ref _) (PySem.Str.ofString "get") _) _ _ _); k_dflt (refine kdg_method (knd := PySem.strKind _ _) (by k_asm) (by k_mem) (by k_asm) ?_)))
  (k_with "call builtin:dict.get" => (k_here; k_dflt (first
  | refine kdg_get1 (knd := PySem.strKind _ _) (by k_asm) (by k_mem) (by k_asm) (by k_asm) (strKind_is _ _ _ _) (some _) (by rfl) ?_
  | refine kdg_get1 (knd := PySem.strKind _ _) (by k_asm) (by k_mem) (by k_asm) (by k_asm) (strKind_is _ _ _ _) none (by rfl) ?_); (try dsimp only [Option.getD])))
  (k_with "call type:list" => (k_here; (with_reducible show wpAny _ _ (call (Value.type _) [Value.ref _]) _ _ _); k_dflt (refine copy_own (by first | ((k_asm); done) | fail "no") (by first | ((k_asm); done) | fail "no") (by first | ((k_mem); done) | fail "no") (by first | ((exact sizeLine_big (by omega)); done) | fail "no") ?_; k_whole); intro Dqz cqz hqz Fqz Nqz l1z; (try k_lt l1z); (try k_sweep)))
  (k_with "call type:range" => (k_here; (with_reducible show wpAny _ _ (call (Value.type _) [Value.int _ _]) _ _ _); (rename Fr _ _ _ _ => Fqz); (rename News _ _ _ _ => Nqz); (with_unfolding_all refine range1_rows Fqz Nqz ?_); intro hqz tkqz t1qz u1qz v1qz Rqz Fqz Nqz hkqz))
  (k_with "setItem ref int" => (k_here; k_dflt (refine kda_set (knd := PySem.intKind _ _) (by first | ((k_asm); done) | fail "no") (by first | ((k_asm); done) | fail "no") (by first | ((k_updF); done) | fail "no") (by first | ((assumption); done) | fail "no") (intKind_is _ _ _ _) (by first | ((exact sizeLine_big (by omega)); done) | fail "no") ?_); intro hqz oqz Fqz Nqz hdqz; (try dsimp only at Nqz)))
  (k_with "call builtin:len" => (k_here; (with_reducible show wpAny _ _ (call (Value.builtin "len") [Value.ref _]) _ _ _); k_dflt (refine kda_len (knd := PySem.intKind _ _) (by first | ((k_asm); done) | fail "no") (by first | ((k_mem); done) | fail "no") (by first | ((assumption); done) | fail "no") (by first | ((assumption); done) | fail "no") (by first | ((omega); done) | fail "no") ?_; k_whole)))
  (k_with "compareOp NotIn int ref" => (k_here; k_dflt (refine kdg_notin (knd := PySem.intKind _ _) (by first | ((k_asm); done) | fail "no") (by first | ((k_mem); done) | fail "no") (by first | ((assumption); done) | fail "no") (by first | ((assumption); done) | fail "no") (intKind_is _ _ _ _) _ rfl ?_)))
  (k_with "CompSrcT" => (k_here; k_dflt (first
  | (refine LCt.CompSrcT.range (by rfl) (by first | ((k_asm); done) | fail "no") (by first | ((k_asm); done) | fail "no") (by first | ((assumption); done) | fail "no") (by first | ((exact small_one (by omega) (by omega) (by omega) (by omega)); done) | fail "no") (rs_nat _) (by first | ((exact sizeLine_big (by omega)); done) | fail "no") ?_; intro gqz)
  | (refine LCt.CompSrcT.ledger (by rfl) (by first | ((k_asm); done) | fail "no") (by first | ((k_asm); done) | fail "no") (by first | ((k_mem); done) | fail "no") (by first | ((exact sizeLine_big (by omega)); done) | fail "no") ?_; intro gqz))))
  (k_with "pyIter ref" => (k_here; (with_reducible show wpAny _ _ (pyIter (Value.ref _)) (fun it s₂ => LoopAtV _ _ _ _ _ _ _ _ _ it s₂) _ _); refine Halt.out ?_))
  (k_with "setItem ref str" => (k_here; k_dflt (refine kda_set (knd := PySem.strKind _ _) (by first | ((k_asm); done) | fail "no") (by first | ((k_asm); done) | fail "no") (by first | ((k_updF); done) | fail "no") (by first | ((assumption); done) | fail "no") (strKind_is _ _ _ _) (by first | ((exact sizeLine_big (by omega)); done) | fail "no") ?_); intro hqz oqz Fqz Nqz hdqz; (try dsimp only at Nqz)))
  (k_with "compareOp NotIn str ref" => (k_here; k_dflt (refine kdg_notin (knd := PySem.strKind _ _) (by first | ((k_asm); done) | fail "no") (by first | ((k_mem); done) | fail "no") (by first | ((assumption); done) | fail "no") (by first | ((assumption); done) | fail "no") (strKind_is _ _ _ _) _ rfl ?_)))
  (k_with "compareOp In str ref" => (k_here; k_dflt (refine kda_in (knd := PySem.strKind _ _) (by first | ((k_asm); done) | fail "no") (by first | ((k_mem); done) | fail "no") (by first | ((assumption); done) | fail "no") (by first | ((assumption); done) | fail "no") (strKind_is _ _ _ _) _ rfl ?_)))
  trivial
section
variable {w : World} {loose : List Str} {mean : ExcName → Option Value} {mg mb : Str → Option Value} {dp un : Nat} {gd : Option (List Code)} {cn : Str} {cs : Scope} {a : Addr} {ccd : Value} {cl : List (Str × Addr)} {outer : List Env} {A₀ : Around} {base h₀ : Heap} {L : Addr} {m : Str → Option Value} {news : List (Addr × Obj)} {s : Shared} {Q E : Value → Shared → Prop}
def fidx (xs : List Str) (x : Str) : Option Nat := xs.findIdx? fun y => decide (y = x)
def TabIs (xs : List Str) (kvs : List (Str × Value)) : Prop :=
  ∀ x, (∃ j t, fidx xs x = some j ∧ valueAt kvs x = some (Value.int ((j : Nat) : Int) t)) ∨ (fidx xs x = none ∧ valueAt kvs x = none)

theorem fidx_snoc (xs : List Str) (y x : Str) : fidx (xs ++ [y]) x = (fidx xs x).or (if y = x then some xs.length else none) := by
  unfold fidx
  rw [List.findIdx?_append]
  congr 1
  by_cases h : y = x <;> simp [h]
theorem fidx_lt {xs : List Str} {x : Str} {j : Nat} (h : fidx xs x = some j) : j < xs.length := by
  unfold fidx at h
  exact (List.findIdx?_eq_some_iff_getElem.mp h).1
theorem take_snoc {xs : List Str} {i : Nat} {y : Str} (hy : xs[i]? = some y) : xs.take (i + 1) = xs.take i ++ [y] := by rw [List.take_add_one, hy]; rfl
theorem tab_old {xs : List Str} {i : Nat} {y : Str} {kvs : List (Str × Value)} (h : TabIs (xs.take i) kvs) (hy : xs[i]? = some y) (hs : (valueAt kvs y).isSome = true) : TabIs (xs.take (i + 1)) kvs := by
  intro x
  rw [take_snoc hy, fidx_snoc]
  rcases h x with ⟨j, t, h1, h2⟩ | ⟨h1, h2⟩
  · exact .inl ⟨j, t, by rw [h1]; rfl, h2⟩
  · refine .inr ⟨?_, h2⟩
    have : ¬ y = x := fun e => by rw [e, h2] at hs; cases hs
    rw [h1, if_neg this]; rfl
theorem tab_new {xs : List Str} {i : Nat} {y : Str} {kvs : List (Str × Value)} {t : Tok} (h : TabIs (xs.take i) kvs) (hy : xs[i]? = some y) (hs : (valueAt kvs y).isSome = false) : TabIs (xs.take (i + 1)) (stored kvs y (Value.int (i : Int) t)) := by
  intro x
  have hi : i < xs.length := (List.getElem?_eq_some_iff.mp hy).1
  have hl : (xs.take i).length = i := by rw [List.length_take]; omega
  rw [take_snoc hy, fidx_snoc, valueAt_stored, hl]
  by_cases e : y = x
  · subst e
    rcases h y with ⟨j, t', h1, h2⟩ | ⟨h1, h2⟩
    · rw [h2] at hs; cases hs
    · exact .inl ⟨i, t, by rw [h1]; simp, by simp⟩
  · rcases h x with ⟨j, t', h1, h2⟩ | ⟨h1, h2⟩
    · exact .inl ⟨j, t', by rw [h1]; rfl, by rw [if_neg e]; exact h2⟩
    · exact .inr ⟨by rw [h1]; simp [e], by rw [if_neg e]; exact h2⟩

theorem first_places_spec {nl : Addr} {hs : List Value} {xs : List Str} {n' : Nat}
    (B : Below A₀ base outer h₀) (F : Fr h₀ L s.heap m) (X : (hd.heap_39 w.params).In h₀) (N : News h₀ L s.heap news) (T : Top hd.view_39 loose mean mg mb h₀) (hk : cs.kind = .function)
    (hdp : dp + 5 < recursionLimit)
    (hnl : (nl, listOf hs.toArray n') ∈ news) (hhs : Paired SR hs xs) (hlen : xs.length ≤ 1000) (hne : ∀ x ∈ xs, x ≠ Str.ofString "")
    (ret : ∀ f o kvs h' tk', Fr h₀ L h' m → News h₀ L h' ((f, o) :: news) → o.IsDictOf (PySem.strKind PySem.Challenge.rw_pq1395_01.row.prog w) kvs → TabIs xs kvs → (f == sysModules) = false → (∀ p ∈ news, p.1 ≠ f) → Q (.ref f) { s with heap := h', toks := tk' }) :
    wpAny (model PySem.Challenge.rw_pq1395_01.row.prog w) (ktrTop dp un gd cn cs L a ccd cl outer) (call (.ref 117) [.ref nl]) Q E s := by
  have hlen2 := Paired.length hhs
  refine wpAny_call ?_
  k_dflt cell_enter
  k_steps
  rename News _ _ _ _ => N1
  rename Fr _ _ _ _ => F1
  rename IsRange _ _ _ _ _ _ _ _ => R1
  refine Halt.mk ?_
  with_unfolding_all refine lp_range (σ := Obj × List (Str × Value)) (n := hs.length) (fun c => [(_, c.1)]) (fun _ => []) [Str.ofString "name"] (fun i c => c.1.IsDictOf (PySem.strKind PySem.Challenge.rw_pq1395_01.row.prog w) c.2 ∧ TabIs (xs.take i) c.2 ∧ c.2.length ≤ i) _ (_, []) rfl R1 (small_one (by omega) (by omega) (by omega) (by omega)) (rs_nat _) rfl F1 N1 (fun _ => rfl) (off_of (by first | k_all | fail "off")) (fun _ hp => nomatch hp) ⟨by assumption, fun x => .inr ⟨rfl, rfl⟩, Nat.le_refl _⟩ ?_ ?_
  · clear F1 N1
    intro i ti c nx u h9 tk9 hi hsub hoff hP F2 N2
    obtain ⟨hd, hv, hl⟩ := hP
    have hoff' := off_one hoff
    have hnl' := hsub _ hnl
    have hcl : c.2.length ≤ 1000 := by omega
    obtain ⟨y, hy, hR⟩ := pget hhs (List.getElem?_eq_getElem hi)
    have hx := List.getElem?_eq_getElem hi
    generalize hs[i] = v9 at hR hx
    cases hR with | str _ ty =>
    simp only [List.cons_append, List.nil_append] at N2
    have e9 : (0 : Int) + (i : Int) = (i : Int) := by omega
    rw [e9] at F2
    k_unmd
    k_fold
    k_steps
    · rename Option.isSome _ = true => hb
      exact LpEnd.intro (_, _) (by assumption) (by assumption) (fun _ hp => nomatch hp) (by kst_same) ⟨hd, tab_old hv hy hb, Nat.le_succ_of_le hl⟩
    · rename Option.isSome _ = false => hb
      exact LpEnd.intro (_, _) (by assumption) (by assumption) (fun _ hp => nomatch hp) (by kst_same) ⟨by assumption, tab_new hv hy hb, Nat.le_trans (stored_length_le _ _ _) (Nat.add_le_add_right hl 1)⟩
    · rename (_ != _) = false => hb
      exact absurd (by simpa using hb) (hne y (List.mem_of_getElem? hy))
  · clear F1 N1
    intro c u h9 tk9 hP F2 N2
    obtain ⟨hd, hv, hl⟩ := hP
    simp only [List.cons_append, List.nil_append] at N2
    dsimp only
    k_steps
    rw [hlen2, List.take_length] at hv
    exact ret _ _ _ _ _ (by assumption) (by assumption) hd hv (by assumption) (ne_of_lts (by assumption) (by omega))


theorem reg10 : True := by
  (k_with "call ref" => (k_here; (with_reducible show wpAny _ _ (call (Value.ref 117) _) _ _ _); k_dflt (refine first_places_spec (by first | ((k_asm); done) | fail "no") (by first | ((k_asm); done) | fail "no") (by first | ((k_asm); done) | fail "no") (by first | ((k_asm); done) | fail "no") (by first | ((k_asm); done) | fail "no") (by first | ((first | assumption | exact rfl); done) | fail "no") (by first | ((k_room); done) | fail "no") (by first | ((k_mem); done) | fail "no") (by first | ((assumption); done) | fail "no") (by first | ((assumption); done) | fail "no") (by first | ((assumption); done) | fail "no") ?_); intro f9z o9z kvs9z h9z tk9z F9z N9z hd9z ht9z hlo9z hne9z; (try dsimp only); (try k_fold)))
  (k_with "subscriptTail" => (k_here; (with_reducible show wpAny _ _ (subscriptTail _ _ (Value.ref _) (Value.str _ _)) _ _ _); k_dflt (refine kda_item (knd := PySem.strKind _ _) (by k_asm) (by k_mem) (by k_asm) (strKind_is _ _ _ _) (by assumption) ?_)))
  trivial
theorem name_places_spec {nl yl : Addr} {hs vy : List Value} {xs ys : List Str} {n n' : Nat}
    (B : Below A₀ base outer h₀) (F : Fr h₀ L s.heap m) (X : (hd.heap_39 w.params).In h₀) (N : News h₀ L s.heap news) (T : Top hd.view_39 loose mean mg mb h₀) (hk : cs.kind = .function)
    (hdp : dp + 10 < recursionLimit)
    (hnl : (nl, listOf hs.toArray n') ∈ news) (hhs : Paired SR hs xs) (hlen : xs.length ≤ 1000) (hne : ∀ x ∈ xs, x ≠ Str.ofString "")
    (hyl : (yl, listOf vy.toArray n) ∈ news) (hys : Paired SR vy ys) (hlen' : ys.length ≤ 1000)
    (ret : ∀ f h' tk' nf ps, Fr h₀ L h' m → News h₀ L h' ((f, listOf ps.toArray nf) :: news) → Paired OI ps (ys.map (fidx xs)) → (∀ p ∈ news, p.1 ≠ f) → Q (.ref f) { s with heap := h', toks := tk' }) :
    wpAny (model PySem.Challenge.rw_pq1395_01.row.prog w) (ktrTop dp un gd cn cs L a ccd cl outer) (call (.ref 124) [.ref yl, .ref nl]) Q E s := by
  have hlen2 := Paired.length hys
  refine wpAny_call ?_
  k_dflt cell_enter
  k_steps
  rename _ ∧ AllLt _ _ => hl1
  obtain ⟨_, hl1⟩ := hl1
  have hl2 := ktn_ltOf hl1
  rename News _ _ _ _ => N1
  rename Fr _ _ _ _ => F1
  rename TabIs _ _ => hT
  rename Obj.IsDictOf _ _ _ => hD
  refine Halt.mk ?_
  with_unfolding_all refine lp_list (σ := List Value × Nat) (fun c => [(_, listOf c.1.toArray c.2)]) (fun _ => []) [] (fun i c => Paired OI c.1 ((ys.take i).map (fidx xs))) _ ([], 0) rfl rfl (List.mem_cons_of_mem _ hyl) F1 N1 (fun _ => rfl) (off_of (by first | k_all | fail "off")) (fun _ hp => nomatch hp) .nil ?_ ?_
  · clear F1 N1
    intro i pv c nx u h9 tk9 hi hsub hoff hP F2 N2
    obtain ⟨y, hy, hR⟩ := pget hys hi
    have hoff' := off_one hoff
    have hm0 := hsub _ List.mem_cons_self
    have hcl : c.1.length ≤ 1000 := by rw [Paired.length hP]; simp; omega
    simp only [List.cons_append, List.nil_append] at N2
    k_unmd
    k_fold
    cases hR with | str _ ty =>
    rcases hT y with ⟨j, tj, h1, h2⟩ | ⟨h1, h2⟩
    · k_steps
      · exact LpEnd.intro (_, _) (by assumption) (by assumption) (fun _ hp => nomatch hp) (by kst_same) (by rw [take_map_succ _ hy, h1]; exact Paired.snoc hP (.int _ _))
      · rename Option.isSome _ = false => hb
        rw [h2] at hb; cases hb
    · k_steps
      · rename Option.isSome _ = true => hb
        rw [h2] at hb; cases hb
      · exact LpEnd.intro (_, _) (by assumption) (by assumption) (fun _ hp => nomatch hp) (by kst_same) (by rw [take_map_succ _ hy, h1]; exact Paired.snoc hP .none)
  · clear F1 N1
    intro c u h9 tk9 hP F2 N2
    simp only [List.cons_append, List.nil_append] at N2
    dsimp only
    k_steps
    rw [List.take_of_length_le (by omega)] at hP
    exact ret _ _ _ _ _ (by assumption) (cb_drop (by assumption) (by intro p hp; rcases List.mem_cons.mp hp with rfl | hp <;> k_mem)) hP (ne_of_lt_all hl2)
end
theorem reg11 : True := by
  k_with_none
  (k_with "call builtin:len" => (k_here; (with_reducible show wpAny _ _ (call (Value.builtin "len") [Value.ref _]) _ _ _); k_dflt (refine len_own (by first | ((k_asm); done) | fail "no") (by first | ((k_mem); done) | fail "no") (by first | ((omega); done) | fail "no") ?_; k_whole)))
  (k_with "subscriptTail" => (k_here; (with_reducible show wpAny _ _ (subscriptTail _ _ (Value.ref _) (Value.int _ _)) _ _ _); (with_unfolding_all refine item_own (by first | ((k_asm); done) | fail "no") (by first | ((k_mem); done) | fail "no") (by first | ((omega); done) | fail "no") (by first | ((omega); done) | fail "no") (by first | ((omega); done) | fail "no") ?_ (by first | ((with_unfolding_all rfl); done) | fail "no"); k_whole)))
  (k_with "subscriptTail" => (k_here; (with_reducible show wpAny _ _ (subscriptTail _ _ (Value.ref _) (Value.int (Nat.cast _) _)) _ _ _); (with_unfolding_all refine item_at (by first | ((k_asm); done) | fail "no") (by first | ((k_mem); done) | fail "no") (by first | ((assumption); done) | fail "no") (by first | ((omega); done) | fail "no") ?_ (by first | ((with_unfolding_all rfl); done) | fail "no"); k_whole)))
  (k_with "call builtin:list.append" => (k_here; (with_reducible show wpAny _ _ (call (Value.builtin _) [Value.ref _, _]) _ _ _); k_dflt (refine append_own (by first | ((k_asm); done) | fail "no") (by first | ((k_asm); done) | fail "no") (by first | ((k_upd); done) | fail "no") (by first | ((exact sizeLine_big (by omega)); done) | fail "no") ?_; k_whole); intro hqz Fqz Nqz; (try k_sweep)))
  (k_with "exec For Name Name cons nil" => (k_here; (rename Fr _ _ _ _ => lFqz); (with_unfolding_all refine For_invVF lFqz (by first | ((exact rfl); done) | fail "no") (by first | ((exact rfl); done) | fail "no") ?_; k_whole)))
  (k_with "exec For Name Subscript cons nil" => (k_here; (rename Fr _ _ _ _ => lFqz); (with_unfolding_all refine For_invVF lFqz (by first | ((exact rfl); done) | fail "no") (by first | ((exact rfl); done) | fail "no") ?_; k_whole)))
  (k_with "exec For Name Call cons nil" => (k_here; (rename Fr _ _ _ _ => lFqz); (with_unfolding_all refine For_invVF lFqz (by first | ((exact rfl); done) | fail "no") (by first | ((exact rfl); done) | fail "no") ?_; k_whole)))
  (k_with "getMethod ref" => (k_here; (with_reducible show wpAny _ _ (getMethod (Value.ref _) (PySem.Str.ofString "get") _) _ _ _); k_dflt (refine kdg_method (knd := PySem.strKind _ _) (by k_asm) (by k_mem) (by k_asm) ?_)))
  (k_with "call builtin:dict.get" => (k_here; k_dflt (first
  | refine kdg_get1 (knd := PySem.strKind _ _) (by k_asm) (by k_mem) (by k_asm) (by k_asm) (strKind_is _ _ _ _) (some _) (by rfl) ?_
  | refine kdg_get1 (knd := PySem.strKind _ _) (by k_asm) (by k_mem) (by k_asm) (by k_asm) (strKind_is _ _ _ _) none (by rfl) ?_); (try dsimp only [Option.getD])))
  (k_with "call type:list" => (k_here; (with_reducible show wpAny _ _ (call (Value.type _) [Value.ref _]) _ _ _); k_dflt (refine copy_own (by first | ((k_asm); done) | fail "no") (by first | ((k_asm); done) | fail "no") (by first | ((k_mem); done) | fail "no") (by first | ((exact sizeLine_big (by omega)); done) | fail "no") ?_; k_whole); intro Dqz cqz hqz Fqz Nqz l1z; (try k_lt l1z); (try k_sweep)))
  (k_with "call type:range" => (k_here; (with_reducible show wpAny _ _ (call (Value.type _) [Value.int _ _]) _ _ _); (rename Fr _ _ _ _ => Fqz); (rename News _ _ _ _ => Nqz); (with_unfolding_all refine range1_rows Fqz Nqz ?_); intro hqz tkqz t1qz u1qz v1qz Rqz Fqz Nqz hkqz))
  (k_with "setItem ref int" => (k_here; k_dflt (refine kda_set (knd := PySem.intKind _ _) (by first | ((k_asm); done) | fail "no") (by first | ((k_asm); done) | fail "no") (by first | ((k_updF); done) | fail "no") (by first | ((assumption); done) | fail "no") (intKind_is _ _ _ _) (by first | ((exact sizeLine_big (by omega)); done) | fail "no") ?_); intro hqz oqz Fqz Nqz hdqz; (try dsimp only at Nqz)))
  (k_with "call builtin:len" => (k_here; (with_reducible show wpAny _ _ (call (Value.builtin "len") [Value.ref _]) _ _ _); k_dflt (refine kda_len (knd := PySem.intKind _ _) (by first | ((k_asm); done) | fail "no") (by first | ((k_mem); done) | fail "no") (by first | ((assumption); done) | fail "no") (by first | ((assumption); done) | fail "no") (by first | ((omega); done) | fail "no") ?_; k_whole)))
  (k_with "compareOp NotIn int ref" => (k_here; k_dflt (refine kdg_notin (knd := PySem.intKind _ _) (by first | ((k_asm); done) | fail "no") (by first | ((k_mem); done) | fail "no") (by first | ((assumption); done) | fail "no") (by first | ((assumption); done) | fail "no") (intKind_is _ _ _ _) _ rfl ?_)))
  (k_with "CompSrcT" => (k_here; k_dflt (first
  | (refine LCt.CompSrcT.range (by rfl) (by first | ((k_asm); done) | fail "no") (by first | ((k_asm); done) | fail "no") (by first | ((assumption); done) | fail "no") (by first | ((exact small_one (by omega) (by omega) (by omega) (by omega)); done) | fail "no") (rs_nat _) (by first | ((exact sizeLine_big (by omega)); done) | fail "no") ?_; intro gqz)
  | (refine LCt.CompSrcT.ledger (by rfl) (by first | ((k_asm); done) | fail "no") (by first | ((k_asm); done) | fail "no") (by first | ((k_mem); done) | fail "no") (by first | ((exact sizeLine_big (by omega)); done) | fail "no") ?_; intro gqz))))
  (k_with "pyIter ref" => (k_here; (with_reducible show wpAny _ _ (pyIter (Value.ref _)) (fun it s₂ => LoopAtV _ _ _ _ _ _ _ _ _ it s₂) _ _); refine Halt.out ?_))
  (k_with "setItem ref str" => (k_here; k_dflt (refine kda_set (knd := PySem.strKind _ _) (by first | ((k_asm); done) | fail "no") (by first | ((k_asm); done) | fail "no") (by first | ((k_updF); done) | fail "no") (by first | ((assumption); done) | fail "no") (strKind_is _ _ _ _) (by first | ((exact sizeLine_big (by omega)); done) | fail "no") ?_); intro hqz oqz Fqz Nqz hdqz; (try dsimp only at Nqz)))
  (k_with "compareOp NotIn str ref" => (k_here; k_dflt (refine kdg_notin (knd := PySem.strKind _ _) (by first | ((k_asm); done) | fail "no") (by first | ((k_mem); done) | fail "no") (by first | ((assumption); done) | fail "no") (by first | ((assumption); done) | fail "no") (strKind_is _ _ _ _) _ rfl ?_)))
  (k_with "compareOp In str ref" => (k_here; k_dflt (refine kda_in (knd := PySem.strKind _ _) (by first | ((k_asm); done) | fail "no") (by first | ((k_mem); done) | fail "no") (by first | ((assumption); done) | fail "no") (by first | ((assumption); done) | fail "no") (strKind_is _ _ _ _) _ rfl ?_)))
  trivial
section
variable {w : World} {loose : List Str} {mean : ExcName → Option Value} {mg mb : Str → Option Value} {dp un : Nat} {gd : Option (List Code)} {cn : Str} {cs : Scope} {a : Addr} {ccd : Value} {cl : List (Str × Addr)} {outer : List Env} {A₀ : Around} {base h₀ : Heap} {L : Addr} {m : Str → Option Value} {news : List (Addr × Obj)} {s : Shared} {Q E : Value → Shared → Prop}
/-- an index of a kind and its items, over n places and the names xs: the places it means -/
inductive IxIs (xs : List Str) (n : Nat) : Str → List Value → List (Option Nat) → Prop
  | whole {is : List Value} {figs : List (Option Nat)} : Paired OI is figs → figs.length ≤ 500 → IxIs xs n (Str.ofString "integer") is (wpA figs)
  | neg {is : List Value} {ks : List Nat} : Paired NI is ks → ks.length ≤ 500 → ks ≠ [] → IxIs xs n (Str.ofString "integer") is (leftB ks n)
  | logical {is : List Value} {ts : List (Option Nat)} : Paired OI is ts → ts.length ≤ 500 → IxIs xs n (Str.ofString "logical") is (logA ts n)


theorem reg12 : True := by
  (k_with "call ref" => (k_here; (with_reducible show wpAny _ _ (call (Value.ref 110) _) _ _ _); k_dflt (refine whole_nonneg (by first | ((k_asm); done) | fail "no") (by first | ((k_asm); done) | fail "no") (by first | ((k_asm); done) | fail "no") (by first | ((k_asm); done) | fail "no") (by first | ((k_asm); done) | fail "no") (by first | ((first | assumption | exact rfl); done) | fail "no") (by first | ((k_room); done) | fail "no") (by first | ((k_mem); done) | fail "no") (by first | ((assumption); done) | fail "no") (by first | ((omega); done) | fail "no") ?_); intro f9z h9z tk9z nf9z ps9z F9z N9z hp9z hne9z; (try dsimp only); (try k_fold)))
  (k_with "call ref" => (k_here; (with_reducible show wpAny _ _ (call (Value.ref 110) _) _ _ _); k_dflt (refine whole_neg (by first | ((k_asm); done) | fail "no") (by first | ((k_asm); done) | fail "no") (by first | ((k_asm); done) | fail "no") (by first | ((k_asm); done) | fail "no") (by first | ((k_asm); done) | fail "no") (by first | ((first | assumption | exact rfl); done) | fail "no") (by first | ((k_room); done) | fail "no") (by first | ((k_mem); done) | fail "no") (by first | ((assumption); done) | fail "no") (by first | ((omega); done) | fail "no") (by first | ((assumption); done) | fail "no") (by first | ((omega); done) | fail "no") ?_); intro f9z h9z tk9z nf9z ps9z F9z N9z hp9z hne9z; (try dsimp only); (try k_fold)))
  (k_with "call ref" => (k_here; (with_reducible show wpAny _ _ (call (Value.ref 105) _) _ _ _); k_dflt (refine logical_spec (by first | ((k_asm); done) | fail "no") (by first | ((k_asm); done) | fail "no") (by first | ((k_asm); done) | fail "no") (by first | ((k_asm); done) | fail "no") (by first | ((k_asm); done) | fail "no") (by first | ((first | assumption | exact rfl); done) | fail "no") (by first | ((k_room); done) | fail "no") (by first | ((k_mem); done) | fail "no") (by first | ((assumption); done) | fail "no") (by first | ((omega); done) | fail "no") (by first | ((omega); done) | fail "no") ?_); intro f9z h9z tk9z nf9z ps9z F9z N9z hp9z hne9z; (try dsimp only); (try k_fold)))
  (k_with "call ref" => (k_here; (with_reducible show wpAny _ _ (call (Value.ref 124) _) _ _ _); k_dflt (refine name_places_spec (by first | ((k_asm); done) | fail "no") (by first | ((k_asm); done) | fail "no") (by first | ((k_asm); done) | fail "no") (by first | ((k_asm); done) | fail "no") (by first | ((k_asm); done) | fail "no") (by first | ((first | assumption | exact rfl); done) | fail "no") (by first | ((k_room); done) | fail "no") (by first | ((k_mem); done) | fail "no") (by first | ((assumption); done) | fail "no") (by first | ((omega); done) | fail "no") (by first | ((assumption); done) | fail "no") (by first | ((k_mem); done) | fail "no") (by first | ((assumption); done) | fail "no") (by first | ((omega); done) | fail "no") ?_); intro f9z h9z tk9z nf9z ps9z F9z N9z hp9z hne9z; (try dsimp only); (try k_fold)))
  trivial
theorem positions_spec {x d il : Addr} {is : List Value} {n n' : Nat} {os : List (Option Nat)} {kd : Str} {t tn : Tok} {att nv : Value} {k : Nat → Tok} {xs : List Str}
    (B : Below A₀ base outer h₀) (F : Fr h₀ L s.heap m) (X : (hd.heap_39 w.params).In h₀) (N : News h₀ L s.heap news) (T : Top hd.view_39 loose mean mg mb h₀) (hk : cs.kind = .function)
    (hdp : dp + 15 < recursionLimit)
    (hx : (x, instObj 184 d) ∈ news) (hxd : (d, vecD w.params (.str kd t) (.ref il) att k) ∈ news) (hil : (il, listOf is.toArray n') ∈ news) (hI : IxIs xs n kd is os) (hn : n ≤ 500)
    (ret : ∀ tp f h' tk' nf ps, Fr h₀ L h' m → News h₀ L h' ((tp, ({ cls := .type "tuple", data := .seq #[Value.ref f, Value.none] } : Obj)) :: (f, listOf ps.toArray nf) :: news) → Paired OI ps os → (∀ p ∈ news, p.1 ≠ f) → (∀ p ∈ news, p.1 < tp) → @LT.lt Nat _ f tp → Q (.ref tp) { s with heap := h', toks := tk' }) :
    wpAny (model PySem.Challenge.rw_pq1395_01.row.prog w) (ktrTop dp un gd cn cs L a ccd cl outer) (call (.ref 138) [.ref x, .int (n : Int) tn, nv, .bool false]) Q E s := by
  refine wpAny_call ?_
  k_dflt cell_enter
  cases hI with
  | whole hfi hl5 =>
    k_steps
    rename _ ∧ AllLt _ _ => hl1
    exact ret _ _ _ _ _ _ (by assumption) (by assumption) (by assumption) (by assumption) (ktn_ltOf hl1.2) hl1.1
  | neg hfi hl5 hne =>
    k_steps
    rename _ ∧ AllLt _ _ => hl1
    exact ret _ _ _ _ _ _ (by assumption) (by assumption) (by assumption) (by assumption) (ktn_ltOf hl1.2) hl1.1
  | logical hfi hl5 =>
    k_steps
    rename _ ∧ AllLt _ _ => hl1
    exact ret _ _ _ _ _ _ (by assumption) (by assumption) (by assumption) (by assumption) (ktn_ltOf hl1.2) hl1.1

theorem positions_names {x d yl nl : Addr} {hs vy : List Value} {ys : List Str} {n : Int} {n₁ n₂ : Nat} {t tn : Tok} {att : Value} {k : Nat → Tok} {xs : List Str}
    (B : Below A₀ base outer h₀) (F : Fr h₀ L s.heap m) (X : (hd.heap_39 w.params).In h₀) (N : News h₀ L s.heap news) (T : Top hd.view_39 loose mean mg mb h₀) (hk : cs.kind = .function)
    (hdp : dp + 15 < recursionLimit)
    (hx : (x, instObj 184 d) ∈ news) (hxd : (d, vecD w.params (.str (Str.ofString "character") t) (.ref yl) att k) ∈ news) (hyl : (yl, listOf vy.toArray n₁) ∈ news) (hys : Paired SR vy ys) (hl1 : ys.length ≤ 1000)
    (hnl : (nl, listOf hs.toArray n₂) ∈ news) (hhs : Paired SR hs xs) (hlen : xs.length ≤ 1000) (hne : ∀ x ∈ xs, x ≠ Str.ofString "")
    (ret : ∀ tp f h' tk' nf ps, Fr h₀ L h' m → News h₀ L h' ((tp, ({ cls := .type "tuple", data := .seq #[Value.ref f, Value.none] } : Obj)) :: (f, listOf ps.toArray nf) :: news) → Paired OI ps (ys.map (fidx xs)) → (∀ p ∈ news, p.1 ≠ f) → (∀ p ∈ news, p.1 < tp) → @LT.lt Nat _ f tp → Q (.ref tp) { s with heap := h', toks := tk' }) :
    wpAny (model PySem.Challenge.rw_pq1395_01.row.prog w) (ktrTop dp un gd cn cs L a ccd cl outer) (call (.ref 138) [.ref x, .int n tn, .ref nl, .bool false]) Q E s := by
  refine wpAny_call ?_
  k_dflt cell_enter
  k_steps
  rename _ ∧ AllLt _ _ => hl1
  exact ret _ _ _ _ _ _ (by assumption) (by assumption) (by assumption) (by assumption) (ktn_ltOf hl1.2) hl1.1
end
theorem reg13 : True := by
  k_with_none
  (k_with "call builtin:len" => (k_here; (with_reducible show wpAny _ _ (call (Value.builtin "len") [Value.ref _]) _ _ _); k_dflt (refine len_own (by first | ((k_asm); done) | fail "no") (by first | ((k_mem); done) | fail "no") (by first | ((omega); done) | fail "no") ?_; k_whole)))
  (k_with "subscriptTail" => (k_here; (with_reducible show wpAny _ _ (subscriptTail _ _ (Value.ref _) (Value.int _ _)) _ _ _); (with_unfolding_all refine item_own (by first | ((k_asm); done) | fail "no") (by first | ((k_mem); done) | fail "no") (by first | ((omega); done) | fail "no") (by first | ((omega); done) | fail "no") (by first | ((omega); done) | fail "no") ?_ (by first | ((with_unfolding_all rfl); done) | fail "no"); k_whole)))
  (k_with "subscriptTail" => (k_here; (with_reducible show wpAny _ _ (subscriptTail _ _ (Value.ref _) (Value.int (Nat.cast _) _)) _ _ _); (with_unfolding_all refine item_at (by first | ((k_asm); done) | fail "no") (by first | ((k_mem); done) | fail "no") (by first | ((assumption); done) | fail "no") (by first | ((omega); done) | fail "no") ?_ (by first | ((with_unfolding_all rfl); done) | fail "no"); k_whole)))
  (k_with "call builtin:list.append" => (k_here; (with_reducible show wpAny _ _ (call (Value.builtin _) [Value.ref _, _]) _ _ _); k_dflt (refine append_own (by first | ((k_asm); done) | fail "no") (by first | ((k_asm); done) | fail "no") (by first | ((k_upd); done) | fail "no") (by first | ((exact sizeLine_big (by omega)); done) | fail "no") ?_; k_whole); intro hqz Fqz Nqz; (try k_sweep)))
  (k_with "exec For Name Name cons nil" => (k_here; (rename Fr _ _ _ _ => lFqz); (with_unfolding_all refine For_invVF lFqz (by first | ((exact rfl); done) | fail "no") (by first | ((exact rfl); done) | fail "no") ?_; k_whole)))
  (k_with "exec For Name Subscript cons nil" => (k_here; (rename Fr _ _ _ _ => lFqz); (with_unfolding_all refine For_invVF lFqz (by first | ((exact rfl); done) | fail "no") (by first | ((exact rfl); done) | fail "no") ?_; k_whole)))
  (k_with "exec For Name Call cons nil" => (k_here; (rename Fr _ _ _ _ => lFqz); (with_unfolding_all refine For_invVF lFqz (by first | ((exact rfl); done) | fail "no") (by first | ((exact rfl); done) | fail "no") ?_; k_whole)))
  (k_with "getMethod ref" => (k_here; (with_reducible show wpAny _ _ (getMethod (Value.ref _) (PySem.Str.ofString "get") _) _ _ _); k_dflt (refine kdg_method (knd := PySem.strKind _ _) (by k_asm) (by k_mem) (by k_asm) ?_)))
  (k_with "call builtin:dict.get" => (k_here; k_dflt (first
  | refine kdg_get1 (knd := PySem.strKind _ _) (by k_asm) (by k_mem) (by k_asm) (by k_asm) (strKind_is _ _ _ _) (some _) (by rfl) ?_
  | refine kdg_get1 (knd := PySem.strKind _ _) (by k_asm) (by k_mem) (by k_asm) (by k_asm) (strKind_is _ _ _ _) none (by rfl) ?_); (try dsimp only [Option.getD])))
  (k_with "call type:list" => (k_here; (with_reducible show wpAny _ _ (call (Value.type _) [Value.ref _]) _ _ _); k_dflt (refine copy_own (by first | ((k_asm); done) | fail "no") (by first | ((k_asm); done) | fail "no") (by first | ((k_mem); done) | fail "no") (by first | ((exact sizeLine_big (by omega)); done) | fail "no") ?_; k_whole); intro Dqz cqz hqz Fqz Nqz l1z; (try k_lt l1z); (try k_sweep)))
  (k_with "call type:range" => (k_here; (with_reducible show wpAny _ _ (call (Value.type _) [Value.int _ _]) _ _ _); (rename Fr _ _ _ _ => Fqz); (rename News _ _ _ _ => Nqz); (with_unfolding_all refine range1_rows Fqz Nqz ?_); intro hqz tkqz t1qz u1qz v1qz Rqz Fqz Nqz hkqz))
  (k_with "setItem ref int" => (k_here; k_dflt (refine kda_set (knd := PySem.intKind _ _) (by first | ((k_asm); done) | fail "no") (by first | ((k_asm); done) | fail "no") (by first | ((k_updF); done) | fail "no") (by first | ((assumption); done) | fail "no") (intKind_is _ _ _ _) (by first | ((exact sizeLine_big (by omega)); done) | fail "no") ?_); intro hqz oqz Fqz Nqz hdqz; (try dsimp only at Nqz)))
  (k_with "call builtin:len" => (k_here; (with_reducible show wpAny _ _ (call (Value.builtin "len") [Value.ref _]) _ _ _); k_dflt (refine kda_len (knd := PySem.intKind _ _) (by first | ((k_asm); done) | fail "no") (by first | ((k_mem); done) | fail "no") (by first | ((assumption); done) | fail "no") (by first | ((assumption); done) | fail "no") (by first | ((omega); done) | fail "no") ?_; k_whole)))
  (k_with "compareOp NotIn int ref" => (k_here; k_dflt (refine kdg_notin (knd := PySem.intKind _ _) (by first | ((k_asm); done) | fail "no") (by first | ((k_mem); done) | fail "no") (by first | ((assumption); done) | fail "no") (by first | ((assumption); done) | fail "no") (intKind_is _ _ _ _) _ rfl ?_)))
  (k_with "CompSrcT" => (k_here; k_dflt (first
  | (refine LCt.CompSrcT.range (by rfl) (by first | ((k_asm); done) | fail "no") (by first | ((k_asm); done) | fail "no") (by first | ((assumption); done) | fail "no") (by first | ((exact small_one (by omega) (by omega) (by omega) (by omega)); done) | fail "no") (rs_nat _) (by first | ((exact sizeLine_big (by omega)); done) | fail "no") ?_; intro gqz)
  | (refine LCt.CompSrcT.ledger (by rfl) (by first | ((k_asm); done) | fail "no") (by first | ((k_asm); done) | fail "no") (by first | ((k_mem); done) | fail "no") (by first | ((exact sizeLine_big (by omega)); done) | fail "no") ?_; intro gqz))))
  (k_with "pyIter ref" => (k_here; (with_reducible show wpAny _ _ (pyIter (Value.ref _)) (fun it s₂ => LoopAtV _ _ _ _ _ _ _ _ _ it s₂) _ _); refine Halt.out ?_))
  (k_with "setItem ref str" => (k_here; k_dflt (refine kda_set (knd := PySem.strKind _ _) (by first | ((k_asm); done) | fail "no") (by first | ((k_asm); done) | fail "no") (by first | ((k_updF); done) | fail "no") (by first | ((assumption); done) | fail "no") (strKind_is _ _ _ _) (by first | ((exact sizeLine_big (by omega)); done) | fail "no") ?_); intro hqz oqz Fqz Nqz hdqz; (try dsimp only at Nqz)))
  (k_with "compareOp NotIn str ref" => (k_here; k_dflt (refine kdg_notin (knd := PySem.strKind _ _) (by first | ((k_asm); done) | fail "no") (by first | ((k_mem); done) | fail "no") (by first | ((assumption); done) | fail "no") (by first | ((assumption); done) | fail "no") (strKind_is _ _ _ _) _ rfl ?_)))
  (k_with "compareOp In str ref" => (k_here; k_dflt (refine kda_in (knd := PySem.strKind _ _) (by first | ((k_asm); done) | fail "no") (by first | ((k_mem); done) | fail "no") (by first | ((assumption); done) | fail "no") (by first | ((assumption); done) | fail "no") (strKind_is _ _ _ _) _ rfl ?_)))
  trivial
section
variable {w : World} {loose : List Str} {mean : ExcName → Option Value} {mg mb : Str → Option Value} {dp un : Nat} {gd : Option (List Code)} {cn : Str} {cs : Scope} {a : Addr} {ccd : Value} {cl : List (Str × Addr)} {outer : List Env} {A₀ : Around} {base h₀ : Heap} {L : Addr} {m : Str → Option Value} {news : List (Addr × Obj)} {s : Shared} {Q E : Value → Shared → Prop}
def toks5 (a b c d e : Tok) : Nat → Tok
  | 0 => a
  | 1 => b
  | 2 => c
  | 3 => d
  | _ => e

theorem vec3_spec {kd : Str} {t : Tok} {it att : Value}
    (B : Below A₀ base outer h₀) (F : Fr h₀ L s.heap m) (X : (hd.heap_39 w.params).In h₀) (N : News h₀ L s.heap news) (T : Top hd.view_39 loose mean mg mb h₀) (hk : cs.kind = .function)
    (hdp : dp + 5 < recursionLimit)
    (ret : ∀ x d k h' tk', Fr h₀ L h' m → News h₀ L h' ((x, instObj 184 d) :: (d, vecD w.params (.str kd t) it att k) :: news) → (∀ p ∈ news, p.1 < d) → @LT.lt Nat _ d x → Q (.ref x) { s with heap := h', toks := tk' }) :
    wpAny (model PySem.Challenge.rw_pq1395_01.row.prog w) (ktrTop dp un gd cn cs L a ccd cl outer) (call (.ref 184) [.str kd t, it, att]) Q E s := by
  obtain ⟨k0, n0, ig0, ic0, mo0⟩ := cs
  dsimp only at hk
  subst hk
  k_dflt (refine' call_cls ?k1 ?k2 ?k3 ?k4 ?k5 ?k6 ?_)
  case k1 => k_asm
  case k2 => k_asm
  case k3 => k_asm
  case k4 => k_is
  case k5 => k_is
  case k6 => k_is
  intro x' d' h' F' N' l1 l2
  have l2s := l2
  k_lt2 l2
  k_dflt k_enter
  k_steps
  rename News _ _ _ _ => N1
  exact ret _ _ (toks5 _ _ _ _ _) _ _ (by assumption) N1 l1 l2s
theorem vec2_spec {kd : Str} {t : Tok} {it : Value}
    (B : Below A₀ base outer h₀) (F : Fr h₀ L s.heap m) (X : (hd.heap_39 w.params).In h₀) (N : News h₀ L s.heap news) (T : Top hd.view_39 loose mean mg mb h₀) (hk : cs.kind = .function)
    (hdp : dp + 5 < recursionLimit)
    (ret : ∀ x d k h' tk', Fr h₀ L h' m → News h₀ L h' ((x, instObj 184 d) :: (d, vecD w.params (.str kd t) it .none k) :: news) → (∀ p ∈ news, p.1 < d) → @LT.lt Nat _ d x → Q (.ref x) { s with heap := h', toks := tk' }) :
    wpAny (model PySem.Challenge.rw_pq1395_01.row.prog w) (ktrTop dp un gd cn cs L a ccd cl outer) (call (.ref 184) [.str kd t, it]) Q E s := by
  obtain ⟨k0, n0, ig0, ic0, mo0⟩ := cs
  dsimp only at hk
  subst hk
  k_dflt (refine' call_cls ?k1 ?k2 ?k3 ?k4 ?k5 ?k6 ?_)
  case k1 => k_asm
  case k2 => k_asm
  case k3 => k_asm
  case k4 => k_is
  case k5 => k_is
  case k6 => k_is
  intro x' d' h' F' N' l1 l2
  have l2s := l2
  k_lt2 l2
  k_dflt k_enter
  k_steps
  rename News _ _ _ _ => N1
  exact ret _ _ (toks5 _ _ _ _ _) _ _ (by assumption) N1 l1 l2s
end
theorem reg14 : True := by
  k_with_none
  (k_with "call builtin:len" => (k_here; (with_reducible show wpAny _ _ (call (Value.builtin "len") [Value.ref _]) _ _ _); k_dflt (refine len_own (by first | ((k_asm); done) | fail "no") (by first | ((k_mem); done) | fail "no") (by first | ((omega); done) | fail "no") ?_; k_whole)))
  (k_with "subscriptTail" => (k_here; (with_reducible show wpAny _ _ (subscriptTail _ _ (Value.ref _) (Value.int _ _)) _ _ _); (with_unfolding_all refine item_own (by first | ((k_asm); done) | fail "no") (by first | ((k_mem); done) | fail "no") (by first | ((omega); done) | fail "no") (by first | ((omega); done) | fail "no") (by first | ((omega); done) | fail "no") ?_ (by first | ((with_unfolding_all rfl); done) | fail "no"); k_whole)))
  (k_with "subscriptTail" => (k_here; (with_reducible show wpAny _ _ (subscriptTail _ _ (Value.ref _) (Value.int (Nat.cast _) _)) _ _ _); (with_unfolding_all refine item_at (by first | ((k_asm); done) | fail "no") (by first | ((k_mem); done) | fail "no") (by first | ((assumption); done) | fail "no") (by first | ((omega); done) | fail "no") ?_ (by first | ((with_unfolding_all rfl); done) | fail "no"); k_whole)))
  (k_with "call builtin:list.append" => (k_here; (with_reducible show wpAny _ _ (call (Value.builtin _) [Value.ref _, _]) _ _ _); k_dflt (refine append_own (by first | ((k_asm); done) | fail "no") (by first | ((k_asm); done) | fail "no") (by first | ((k_upd); done) | fail "no") (by first | ((exact sizeLine_big (by omega)); done) | fail "no") ?_; k_whole); intro hqz Fqz Nqz; (try k_sweep)))
  (k_with "exec For Name Name cons nil" => (k_here; (rename Fr _ _ _ _ => lFqz); (with_unfolding_all refine For_invVF lFqz (by first | ((exact rfl); done) | fail "no") (by first | ((exact rfl); done) | fail "no") ?_; k_whole)))
  (k_with "exec For Name Subscript cons nil" => (k_here; (rename Fr _ _ _ _ => lFqz); (with_unfolding_all refine For_invVF lFqz (by first | ((exact rfl); done) | fail "no") (by first | ((exact rfl); done) | fail "no") ?_; k_whole)))
  (k_with "exec For Name Call cons nil" => (k_here; (rename Fr _ _ _ _ => lFqz); (with_unfolding_all refine For_invVF lFqz (by first | ((exact rfl); done) | fail "no") (by first | ((exact rfl); done) | fail "no") ?_; k_whole)))
  (k_with "getMethod ref" => (k_here; (with_reducible show wpAny _ _ (getMethod (Value.ref _) (PySem.Str.ofString "get") _) _ _ _); k_dflt (refine kdg_method (knd := PySem.strKind _ _) (by k_asm) (by k_mem) (by k_asm) ?_)))
  (k_with "call builtin:dict.get" => (k_here; k_dflt (first
  | refine kdg_get1 (knd := PySem.strKind _ _) (by k_asm) (by k_mem) (by k_asm) (by k_asm) (strKind_is _ _ _ _) (some _) (by rfl) ?_
  | refine kdg_get1 (knd := PySem.strKind _ _) (by k_asm) (by k_mem) (by k_asm) (by k_asm) (strKind_is _ _ _ _) none (by rfl) ?_); (try dsimp only [Option.getD])))
  (k_with "call type:list" => (k_here; (with_reducible show wpAny _ _ (call (Value.type _) [Value.ref _]) _ _ _); k_dflt (refine copy_own (by first | ((k_asm); done) | fail "no") (by first | ((k_asm); done) | fail "no") (by first | ((k_mem); done) | fail "no") (by first | ((exact sizeLine_big (by omega)); done) | fail "no") ?_; k_whole); intro Dqz cqz hqz Fqz Nqz l1z; (try k_lt l1z); (try k_sweep)))
  (k_with "call type:range" => (k_here; (with_reducible show wpAny _ _ (call (Value.type _) [Value.int _ _]) _ _ _); (rename Fr _ _ _ _ => Fqz); (rename News _ _ _ _ => Nqz); (with_unfolding_all refine range1_rows Fqz Nqz ?_); intro hqz tkqz t1qz u1qz v1qz Rqz Fqz Nqz hkqz))
  (k_with "setItem ref int" => (k_here; k_dflt (refine kda_set (knd := PySem.intKind _ _) (by first | ((k_asm); done) | fail "no") (by first | ((k_asm); done) | fail "no") (by first | ((k_updF); done) | fail "no") (by first | ((assumption); done) | fail "no") (intKind_is _ _ _ _) (by first | ((exact sizeLine_big (by omega)); done) | fail "no") ?_); intro hqz oqz Fqz Nqz hdqz; (try dsimp only at Nqz)))
  (k_with "call builtin:len" => (k_here; (with_reducible show wpAny _ _ (call (Value.builtin "len") [Value.ref _]) _ _ _); k_dflt (refine kda_len (knd := PySem.intKind _ _) (by first | ((k_asm); done) | fail "no") (by first | ((k_mem); done) | fail "no") (by first | ((assumption); done) | fail "no") (by first | ((assumption); done) | fail "no") (by first | ((omega); done) | fail "no") ?_; k_whole)))
  (k_with "compareOp NotIn int ref" => (k_here; k_dflt (refine kdg_notin (knd := PySem.intKind _ _) (by first | ((k_asm); done) | fail "no") (by first | ((k_mem); done) | fail "no") (by first | ((assumption); done) | fail "no") (by first | ((assumption); done) | fail "no") (intKind_is _ _ _ _) _ rfl ?_)))
  (k_with "CompSrcT" => (k_here; k_dflt (first
  | (refine LCt.CompSrcT.range (by rfl) (by first | ((k_asm); done) | fail "no") (by first | ((k_asm); done) | fail "no") (by first | ((assumption); done) | fail "no") (by first | ((exact small_one (by omega) (by omega) (by omega) (by omega)); done) | fail "no") (rs_nat _) (by first | ((exact sizeLine_big (by omega)); done) | fail "no") ?_; intro gqz)
  | (refine LCt.CompSrcT.ledger (by rfl) (by first | ((k_asm); done) | fail "no") (by first | ((k_asm); done) | fail "no") (by first | ((k_mem); done) | fail "no") (by first | ((exact sizeLine_big (by omega)); done) | fail "no") ?_; intro gqz))))
  (k_with "pyIter ref" => (k_here; (with_reducible show wpAny _ _ (pyIter (Value.ref _)) (fun it s₂ => LoopAtV _ _ _ _ _ _ _ _ _ it s₂) _ _); refine Halt.out ?_))
  (k_with "setItem ref str" => (k_here; k_dflt (refine kda_set (knd := PySem.strKind _ _) (by first | ((k_asm); done) | fail "no") (by first | ((k_asm); done) | fail "no") (by first | ((k_updF); done) | fail "no") (by first | ((assumption); done) | fail "no") (strKind_is _ _ _ _) (by first | ((exact sizeLine_big (by omega)); done) | fail "no") ?_); intro hqz oqz Fqz Nqz hdqz; (try dsimp only at Nqz)))
  (k_with "compareOp NotIn str ref" => (k_here; k_dflt (refine kdg_notin (knd := PySem.strKind _ _) (by first | ((k_asm); done) | fail "no") (by first | ((k_mem); done) | fail "no") (by first | ((assumption); done) | fail "no") (by first | ((assumption); done) | fail "no") (strKind_is _ _ _ _) _ rfl ?_)))
  (k_with "compareOp In str ref" => (k_here; k_dflt (refine kda_in (knd := PySem.strKind _ _) (by first | ((k_asm); done) | fail "no") (by first | ((k_mem); done) | fail "no") (by first | ((assumption); done) | fail "no") (by first | ((assumption); done) | fail "no") (strKind_is _ _ _ _) _ rfl ?_)))
  trivial
section
variable {w : World} {loose : List Str} {mean : ExcName → Option Value} {mg mb : Str → Option Value} {dp un : Nat} {gd : Option (List Code)} {cn : Str} {cs : Scope} {a : Addr} {ccd : Value} {cl : List (Str × Addr)} {outer : List Env} {A₀ : Around} {base h₀ : Heap} {L : Addr} {m : Str → Option Value} {news : List (Addr × Obj)} {s : Shared} {Q E : Value → Shared → Prop}
theorem reg15 : True := by
  (k_with "call ref" => (k_here; (with_reducible show wpAny _ _ (call (Value.ref 184) [_, _, _]) _ _ _); k_dflt (refine vec3_spec (by first | ((k_asm); done) | fail "no") (by first | ((k_asm); done) | fail "no") (by first | ((k_asm); done) | fail "no") (by first | ((k_asm); done) | fail "no") (by first | ((k_asm); done) | fail "no") (by first | ((first | assumption | exact rfl); done) | fail "no") (by first | ((k_room); done) | fail "no") ?_); intro x9z d9z kk9z h9z tk9z F9z N9z l1z l2z; (try k_lt l1z); (try k_lt2 l2z); (try dsimp only); (try k_sweep); (try k_fold)))
  (k_with "call ref" => (k_here; (with_reducible show wpAny _ _ (call (Value.ref 184) [_, _]) _ _ _); k_dflt (refine vec2_spec (by first | ((k_asm); done) | fail "no") (by first | ((k_asm); done) | fail "no") (by first | ((k_asm); done) | fail "no") (by first | ((k_asm); done) | fail "no") (by first | ((k_asm); done) | fail "no") (by first | ((first | assumption | exact rfl); done) | fail "no") (by first | ((k_room); done) | fail "no") ?_); intro x9z d9z kk9z h9z tk9z F9z N9z l1z l2z; (try k_lt l1z); (try k_lt2 l2z); (try dsimp only); (try k_sweep); (try k_fold)))
  (k_with "call ref" => (k_here; (with_reducible show wpAny _ _ (call (Value.ref 223) _) _ _ _); k_dflt (refine items_at_spec (by first | ((k_asm); done) | fail "no") (by first | ((k_asm); done) | fail "no") (by first | ((k_asm); done) | fail "no") (by first | ((k_asm); done) | fail "no") (by first | ((k_asm); done) | fail "no") (by first | ((first | assumption | exact rfl); done) | fail "no") (by first | ((k_room); done) | fail "no") (by first | ((k_mem); done) | fail "no") (by first | ((k_mem); done) | fail "no") (by first | ((k_mem); done) | fail "no") (by first | ((k_mem); done) | fail "no") (by first | ((assumption); done) | fail "no") (by first | ((assumption); done) | fail "no") (by first | ((omega); done) | fail "no") (by first | ((omega); done) | fail "no") ?_); intro f9z h9z tk9z nf9z F9z N9z hne9z; (try k_lt hne9z); (try dsimp only); (try k_fold)))
  (k_with "call ref" => (k_here; (with_reducible show wpAny _ _ (call (Value.ref 230) _) _ _ _); k_dflt (refine names_at_spec (by first | ((k_asm); done) | fail "no") (by first | ((k_asm); done) | fail "no") (by first | ((k_asm); done) | fail "no") (by first | ((k_asm); done) | fail "no") (by first | ((k_asm); done) | fail "no") (by first | ((first | assumption | exact rfl); done) | fail "no") (by first | ((k_room); done) | fail "no") (by first | ((k_mem); done) | fail "no") (by first | ((k_mem); done) | fail "no") (by first | ((assumption); done) | fail "no") (by first | ((assumption); done) | fail "no") (by first | ((omega); done) | fail "no") (by first | ((omega); done) | fail "no") ?_); intro f9z h9z tk9z nf9z fs9z F9z N9z hp9z hne9z; (have hl9z := Paired.length hp9z); (simp only [List.length_map] at hl9z); (try k_lt hne9z); (try dsimp only); (try k_fold)))
  (k_with "call ref" => (k_here; (with_reducible show wpAny _ _ (call (Value.ref 138) _) _ _ _); k_dflt (refine positions_spec (by first | ((k_asm); done) | fail "no") (by first | ((k_asm); done) | fail "no") (by first | ((k_asm); done) | fail "no") (by first | ((k_asm); done) | fail "no") (by first | ((k_asm); done) | fail "no") (by first | ((first | assumption | exact rfl); done) | fail "no") (by first | ((k_room); done) | fail "no") (by first | ((k_mem); done) | fail "no") (by first | ((k_mem); done) | fail "no") (by first | ((k_mem); done) | fail "no") (by first | ((assumption); done) | fail "no") (by first | ((omega); done) | fail "no") ?_); intro tp9z f9z h9z tk9z nf9z ps9z F9z N9z hp9z hnf9z hnt9z hlt9z; (try (replace hnf9z := off1_of hnf9z; simp only [LCg.Off1, and_true] at hnf9z)); (try k_lt hnt9z); (try dsimp only); (try k_fold)))
  (k_with "call ref" => (k_here; (with_reducible show wpAny _ _ (call (Value.ref 33) _) _ _ _); k_dflt (refine names_of_none (by first | ((k_asm); done) | fail "no") (by first | ((k_asm); done) | fail "no") (by first | ((k_asm); done) | fail "no") (by first | ((k_asm); done) | fail "no") (by first | ((k_asm); done) | fail "no") (by first | ((first | assumption | exact rfl); done) | fail "no") (by first | ((k_room); done) | fail "no") (by first | ((k_mem); done) | fail "no") (by first | ((k_mem); done) | fail "no") (by first | ((assumption); done) | fail "no") ?_); intro h9z tk9z F9z N9z; (try dsimp only); (try k_fold)))
  (k_with "call ref" => (k_here; (with_reducible show wpAny _ _ (call (Value.ref 33) _) _ _ _); k_dflt (refine names_of_some (by first | ((k_asm); done) | fail "no") (by first | ((k_asm); done) | fail "no") (by first | ((k_asm); done) | fail "no") (by first | ((k_asm); done) | fail "no") (by first | ((k_asm); done) | fail "no") (by first | ((first | assumption | exact rfl); done) | fail "no") (by first | ((k_room); done) | fail "no") (by first | ((k_mem); done) | fail "no") (by first | ((k_mem); done) | fail "no") (by first | ((k_mem); done) | fail "no") (by first | ((assumption); done) | fail "no") (by first | ((assumption); done) | fail "no") (by first | ((k_mem); done) | fail "no") (by first | ((k_mem); done) | fail "no") (by first | ((k_mem); done) | fail "no") (by first | ((assumption); done) | fail "no") (by first | ((omega); done) | fail "no") ?_); intro f9z h9z tk9z nf9z F9z N9z hne9z; (try k_lt hne9z); (try dsimp only); (try k_fold)))
  trivial
theorem result_kind_spec {kd : Str} {t : Tok}
    (B : Below A₀ base outer h₀) (F : Fr h₀ L s.heap m) (X : (hd.heap_39 w.params).In h₀) (N : News h₀ L s.heap news) (T : Top hd.view_39 loose mean mg mb h₀) (hk : cs.kind = .function)
    (hdp : dp + 5 < recursionLimit) (hkd : kd = Str.ofString "character" ∨ kd = Str.ofString "integer")
    (ret : ∀ h' tk', Fr h₀ L h' m → News h₀ L h' news → Q (.str kd t) { s with heap := h', toks := tk' }) :
    wpAny (model PySem.Challenge.rw_pq1395_01.row.prog w) (ktrTop dp un gd cn cs L a ccd cl outer) (call (.ref 216) [.str kd t]) Q E s := by
  refine wpAny_call ?_
  k_dflt cell_enter
  rcases hkd with rfl | rfl <;> k_steps <;> exact ret _ _ (by assumption) (cb_drop (by assumption) (by intro p hp; k_mem))


theorem reg16 : True := by
  (k_with "call ref" => (k_here; (with_reducible show wpAny _ _ (call (Value.ref 216) _) _ _ _); k_dflt (refine result_kind_spec (by first | ((k_asm); done) | fail "no") (by first | ((k_asm); done) | fail "no") (by first | ((k_asm); done) | fail "no") (by first | ((k_asm); done) | fail "no") (by first | ((k_asm); done) | fail "no") (by first | ((first | assumption | exact rfl); done) | fail "no") (by first | ((k_room); done) | fail "no") (by first | ((assumption); done) | fail "no") ?_); intro h9z tk9z F9z N9z; (try dsimp only); (try k_fold)))
  trivial
theorem subset_bare {v d l x xd il : Addr} {vs is : List Value} {n n' : Nat} {os : List (Option Nat)} {kd ki : Str} {t ti : Tok} {att : Value} {k k' : Nat → Tok} {xs : List Str}
    (B : Below A₀ base outer h₀) (F : Fr h₀ L s.heap m) (X : (hd.heap_39 w.params).In h₀) (N : News h₀ L s.heap news) (T : Top hd.view_39 loose mean mg mb h₀) (hk : cs.kind = .function)
    (hdp : dp + 20 < recursionLimit)
    (hv : (v, instObj 184 d) ∈ news) (hvd : (d, vecD w.params (.str kd t) (.ref l) .none k) ∈ news) (hl : (l, listOf vs.toArray n) ∈ news) (hkd : kd = Str.ofString "character" ∨ kd = Str.ofString "integer") (hvl : vs.length ≤ 500)
    (hx : (x, instObj 184 xd) ∈ news) (hxd : (xd, vecD w.params (.str ki ti) (.ref il) att k') ∈ news) (hil : (il, listOf is.toArray n') ∈ news) (hI : IxIs xs vs.length ki is os) (hol : os.length ≤ 1000)
    (ret : ∀ r rd f t' k'' h' tk' nf, Fr h₀ L h' m → News h₀ L h' ((r, instObj 184 rd) :: (rd, vecD w.params (.str kd t') (.ref f) .none k'') :: (f, listOf (os.map (itemAt vs)).toArray nf) :: news) → Q (.ref r) { s with heap := h', toks := tk' }) :
    wpAny (model PySem.Challenge.rw_pq1395_01.row.prog w) (ktrTop dp un gd cn cs L a ccd cl outer) (call (.ref 237) [.ref v, .ref x]) Q E s := by
  refine wpAny_call ?_
  k_dflt cell_enter
  k_steps
  rename News _ _ _ _ => N1
  exact ret _ _ _ _ (toks5 _ _ _ _ _) _ _ _ (by assumption) (news_cons N1 (by k_mem) (news_cons N1 (by k_mem) (news_cons N1 (by k_mem) (cb_drop N1 (by intro p hp; k_mem)))))

/-- an index by its kind, or by texts -/
def IxAny (xs : List Str) (n : Nat) (kd : Str) (is : List Value) (os : List (Option Nat)) : Prop :=
  IxIs xs n kd is os ∨ (kd = Str.ofString "character" ∧ ∃ ys, Paired SR is ys ∧ ys.length ≤ 500 ∧ os = ys.map (fidx xs))
theorem positions_any {x d il nl : Addr} {is hs : List Value} {n n₁ n₂ : Nat} {os : List (Option Nat)} {kd : Str} {t tn : Tok} {att : Value} {k : Nat → Tok} {xs : List Str}
    (B : Below A₀ base outer h₀) (F : Fr h₀ L s.heap m) (X : (hd.heap_39 w.params).In h₀) (N : News h₀ L s.heap news) (T : Top hd.view_39 loose mean mg mb h₀) (hk : cs.kind = .function)
    (hdp : dp + 15 < recursionLimit)
    (hx : (x, instObj 184 d) ∈ news) (hxd : (d, vecD w.params (.str kd t) (.ref il) att k) ∈ news) (hil : (il, listOf is.toArray n₁) ∈ news) (hI : IxAny xs n kd is os) (hn : n ≤ 500)
    (hnl : (nl, listOf hs.toArray n₂) ∈ news) (hhs : Paired SR hs xs) (hlen : xs.length ≤ 1000) (hne : ∀ x ∈ xs, x ≠ Str.ofString "")
    (ret : ∀ tp f h' tk' nf ps, Fr h₀ L h' m → News h₀ L h' ((tp, ({ cls := .type "tuple", data := .seq #[Value.ref f, Value.none] } : Obj)) :: (f, listOf ps.toArray nf) :: news) → Paired OI ps os → (∀ p ∈ news, p.1 ≠ f) → (∀ p ∈ news, p.1 < tp) → @LT.lt Nat _ f tp → Q (.ref tp) { s with heap := h', toks := tk' }) :
    wpAny (model PySem.Challenge.rw_pq1395_01.row.prog w) (ktrTop dp un gd cn cs L a ccd cl outer) (call (.ref 138) [.ref x, .int (n : Int) tn, .ref nl, .bool false]) Q E s := by
  rcases hI with hI | ⟨rfl, ys, hys, hly, rfl⟩
  · exact positions_spec B F X N T hk hdp hx hxd hil hI hn ret
  · exact positions_names B F X N T hk hdp hx hxd hil hys (by omega) hnl hhs hlen hne ret

theorem reg17 : True := by
  (k_with "call ref" => (k_here; (with_reducible show wpAny _ _ (call (Value.ref 138) _) _ _ _); k_dflt (refine positions_any (by first | ((k_asm); done) | fail "no") (by first | ((k_asm); done) | fail "no") (by first | ((k_asm); done) | fail "no") (by first | ((k_asm); done) | fail "no") (by first | ((k_asm); done) | fail "no") (by first | ((first | assumption | exact rfl); done) | fail "no") (by first | ((k_room); done) | fail "no") (by first | ((k_mem); done) | fail "no") (by first | ((k_mem); done) | fail "no") (by first | ((k_mem); done) | fail "no") (by first | ((assumption); done) | fail "no") (by first | ((omega); done) | fail "no") (by first | ((k_mem); done) | fail "no") (by first | ((assumption); done) | fail "no") (by first | ((omega); done) | fail "no") (by first | ((assumption); done) | fail "no") ?_); intro tp9z f9z h9z tk9z nf9z ps9z F9z N9z hp9z hnf9z hnt9z hlt9z; (try (replace hnf9z := off1_of hnf9z; simp only [LCg.Off1, and_true] at hnf9z)); (try k_lt hnt9z); (try dsimp only); (try k_fold)))
  trivial
theorem subset_named {v d l x xd il ad nv nd nl : Addr} {vs is hs : List Value} {n n' n₂ : Nat} {os : List (Option Nat)} {kd ki kn : Str} {t ti tn : Tok} {att na : Value} {k k' k₂ : Nat → Tok} {xs : List Str} {oad : Obj}
    (B : Below A₀ base outer h₀) (F : Fr h₀ L s.heap m) (X : (hd.heap_39 w.params).In h₀) (N : News h₀ L s.heap news) (T : Top hd.view_39 loose mean mg mb h₀) (hk : cs.kind = .function)
    (hdp : dp + 20 < recursionLimit)
    (hv : (v, instObj 184 d) ∈ news) (hvd : (d, vecD w.params (.str kd t) (.ref l) (.ref ad) k) ∈ news) (hl : (l, listOf vs.toArray n) ∈ news) (hkd : kd = Str.ofString "character" ∨ kd = Str.ofString "integer") (hvl : vs.length ≤ 500)
    (had : (ad, oad) ∈ news) (hdo : oad.IsDictOf (PySem.strKind PySem.Challenge.rw_pq1395_01.row.prog w) [(Str.ofString "names", Value.ref nv)]) (hlo : (ad == sysModules) = false) (hnv : (nv, instObj 184 nd) ∈ news) (hnd : (nd, vecD w.params (.str kn tn) (.ref nl) na k₂) ∈ news) (hnl : (nl, listOf hs.toArray n₂) ∈ news)
    (hhs : Paired SR hs xs) (hlx : xs.length ≤ 500)
    (hx : (x, instObj 184 xd) ∈ news) (hxd : (xd, vecD w.params (.str ki ti) (.ref il) att k') ∈ news) (hil : (il, listOf is.toArray n') ∈ news) (hI : IxAny xs vs.length ki is os) (hol : os.length ≤ 1000) (hne : ∀ x ∈ xs, x ≠ Str.ofString "")
    (ret : ∀ r rd f ad' oad' nv' nd' nl' t' tn' k'' k₃ h' tk' nf nf' fs, Fr h₀ L h' m → News h₀ L h' ((r, instObj 184 rd) :: (rd, vecD w.params (.str kd t') (.ref f) (.ref ad') k'') :: (f, listOf (os.map (itemAt vs)).toArray nf) :: (ad', oad') :: (nv', instObj 184 nd') :: (nd', vecD w.params (.str (Str.ofString "character") tn') (.ref nl') .none k₃) :: (nl', listOf fs.toArray nf') :: news) →
      oad'.IsDictOf (PySem.strKind PySem.Challenge.rw_pq1395_01.row.prog w) [(Str.ofString "names", Value.ref nv')] → (ad' == sysModules) = false → Paired SR fs (os.map (nameAt xs)) → Q (.ref r) { s with heap := h', toks := tk' }) :
    wpAny (model PySem.Challenge.rw_pq1395_01.row.prog w) (ktrTop dp un gd cn cs L a ccd cl outer) (call (.ref 237) [.ref v, .ref x]) Q E s := by
  have hlen2 := Paired.length hhs
  refine wpAny_call ?_
  k_dflt cell_enter
  k_steps
  rename News _ _ _ _ => N1
  exact ret _ _ _ _ _ _ _ _ _ _ (toks5 _ _ _ _ _) (toks5 _ _ _ _ _) _ _ _ _ _ (by assumption) (news_cons N1 (by k_mem) (news_cons N1 (by k_mem) (news_cons N1 (by k_mem) (news_cons N1 (by k_mem) (news_cons N1 (by k_mem) (news_cons N1 (by k_mem) (news_cons N1 (by k_mem) (cb_drop N1 (by intro p hp; k_mem))))))))) (by assumption) (by assumption) (by assumption)
end
theorem reg18 : True := by
  k_with_none
  (k_with "call builtin:len" => (k_here; (with_reducible show wpAny _ _ (call (Value.builtin "len") [Value.ref _]) _ _ _); k_dflt (refine len_own (by first | ((k_asm); done) | fail "no") (by first | ((k_mem); done) | fail "no") (by first | ((omega); done) | fail "no") ?_; k_whole)))
  (k_with "subscriptTail" => (k_here; (with_reducible show wpAny _ _ (subscriptTail _ _ (Value.ref _) (Value.int _ _)) _ _ _); (with_unfolding_all refine item_own (by first | ((k_asm); done) | fail "no") (by first | ((k_mem); done) | fail "no") (by first | ((omega); done) | fail "no") (by first | ((omega); done) | fail "no") (by first | ((omega); done) | fail "no") ?_ (by first | ((with_unfolding_all rfl); done) | fail "no"); k_whole)))
  (k_with "subscriptTail" => (k_here; (with_reducible show wpAny _ _ (subscriptTail _ _ (Value.ref _) (Value.int (Nat.cast _) _)) _ _ _); (with_unfolding_all refine item_at (by first | ((k_asm); done) | fail "no") (by first | ((k_mem); done) | fail "no") (by first | ((assumption); done) | fail "no") (by first | ((omega); done) | fail "no") ?_ (by first | ((with_unfolding_all rfl); done) | fail "no"); k_whole)))
  (k_with "call builtin:list.append" => (k_here; (with_reducible show wpAny _ _ (call (Value.builtin _) [Value.ref _, _]) _ _ _); k_dflt (refine append_own (by first | ((k_asm); done) | fail "no") (by first | ((k_asm); done) | fail "no") (by first | ((k_upd); done) | fail "no") (by first | ((exact sizeLine_big (by omega)); done) | fail "no") ?_; k_whole); intro hqz Fqz Nqz; (try k_sweep)))
  (k_with "exec For Name Name cons nil" => (k_here; (rename Fr _ _ _ _ => lFqz); (with_unfolding_all refine For_invVF lFqz (by first | ((exact rfl); done) | fail "no") (by first | ((exact rfl); done) | fail "no") ?_; k_whole)))
  (k_with "exec For Name Subscript cons nil" => (k_here; (rename Fr _ _ _ _ => lFqz); (with_unfolding_all refine For_invVF lFqz (by first | ((exact rfl); done) | fail "no") (by first | ((exact rfl); done) | fail "no") ?_; k_whole)))
  (k_with "exec For Name Call cons nil" => (k_here; (rename Fr _ _ _ _ => lFqz); (with_unfolding_all refine For_invVF lFqz (by first | ((exact rfl); done) | fail "no") (by first | ((exact rfl); done) | fail "no") ?_; k_whole)))
  (k_with "getMethod ref" => (k_here; (with_reducible show wpAny _ _ (getMethod (Value.ref _) (PySem.Str.ofString "get") _) _ _ _); k_dflt (refine kdg_method (knd := PySem.strKind _ _) (by k_asm) (by k_mem) (by k_asm) ?_)))
  (k_with "call builtin:dict.get" => (k_here; k_dflt (first
  | refine kdg_get1 (knd := PySem.strKind _ _) (by k_asm) (by k_mem) (by k_asm) (by k_asm) (strKind_is _ _ _ _) (some _) (by rfl) ?_
  | refine kdg_get1 (knd := PySem.strKind _ _) (by k_asm) (by k_mem) (by k_asm) (by k_asm) (strKind_is _ _ _ _) none (by rfl) ?_); (try dsimp only [Option.getD])))
  (k_with "call type:list" => (k_here; (with_reducible show wpAny _ _ (call (Value.type _) [Value.ref _]) _ _ _); k_dflt (refine copy_own (by first | ((k_asm); done) | fail "no") (by first | ((k_asm); done) | fail "no") (by first | ((k_mem); done) | fail "no") (by first | ((exact sizeLine_big (by omega)); done) | fail "no") ?_; k_whole); intro Dqz cqz hqz Fqz Nqz l1z; (try k_lt l1z); (try k_sweep)))
  (k_with "call type:range" => (k_here; (with_reducible show wpAny _ _ (call (Value.type _) [Value.int _ _]) _ _ _); (rename Fr _ _ _ _ => Fqz); (rename News _ _ _ _ => Nqz); (with_unfolding_all refine range1_rows Fqz Nqz ?_); intro hqz tkqz t1qz u1qz v1qz Rqz Fqz Nqz hkqz))
  (k_with "setItem ref int" => (k_here; k_dflt (refine kda_set (knd := PySem.intKind _ _) (by first | ((k_asm); done) | fail "no") (by first | ((k_asm); done) | fail "no") (by first | ((k_updF); done) | fail "no") (by first | ((assumption); done) | fail "no") (intKind_is _ _ _ _) (by first | ((exact sizeLine_big (by omega)); done) | fail "no") ?_); intro hqz oqz Fqz Nqz hdqz; (try dsimp only at Nqz)))
  (k_with "call builtin:len" => (k_here; (with_reducible show wpAny _ _ (call (Value.builtin "len") [Value.ref _]) _ _ _); k_dflt (refine kda_len (knd := PySem.intKind _ _) (by first | ((k_asm); done) | fail "no") (by first | ((k_mem); done) | fail "no") (by first | ((assumption); done) | fail "no") (by first | ((assumption); done) | fail "no") (by first | ((omega); done) | fail "no") ?_; k_whole)))
  (k_with "compareOp NotIn int ref" => (k_here; k_dflt (refine kdg_notin (knd := PySem.intKind _ _) (by first | ((k_asm); done) | fail "no") (by first | ((k_mem); done) | fail "no") (by first | ((assumption); done) | fail "no") (by first | ((assumption); done) | fail "no") (intKind_is _ _ _ _) _ rfl ?_)))
  (k_with "CompSrcT" => (k_here; k_dflt (first
  | (refine LCt.CompSrcT.range (by rfl) (by first | ((k_asm); done) | fail "no") (by first | ((k_asm); done) | fail "no") (by first | ((assumption); done) | fail "no") (by first | ((exact small_one (by omega) (by omega) (by omega) (by omega)); done) | fail "no") (rs_nat _) (by first | ((exact sizeLine_big (by omega)); done) | fail "no") ?_; intro gqz)
  | (refine LCt.CompSrcT.ledger (by rfl) (by first | ((k_asm); done) | fail "no") (by first | ((k_asm); done) | fail "no") (by first | ((k_mem); done) | fail "no") (by first | ((exact sizeLine_big (by omega)); done) | fail "no") ?_; intro gqz))))
  (k_with "pyIter ref" => (k_here; (with_reducible show wpAny _ _ (pyIter (Value.ref _)) (fun it s₂ => LoopAtV _ _ _ _ _ _ _ _ _ it s₂) _ _); refine Halt.out ?_))
  (k_with "setItem ref str" => (k_here; k_dflt (refine kda_set (knd := PySem.strKind _ _) (by first | ((k_asm); done) | fail "no") (by first | ((k_asm); done) | fail "no") (by first | ((k_updF); done) | fail "no") (by first | ((assumption); done) | fail "no") (strKind_is _ _ _ _) (by first | ((exact sizeLine_big (by omega)); done) | fail "no") ?_); intro hqz oqz Fqz Nqz hdqz; (try dsimp only at Nqz)))
  (k_with "compareOp NotIn str ref" => (k_here; k_dflt (refine kdg_notin (knd := PySem.strKind _ _) (by first | ((k_asm); done) | fail "no") (by first | ((k_mem); done) | fail "no") (by first | ((assumption); done) | fail "no") (by first | ((assumption); done) | fail "no") (strKind_is _ _ _ _) _ rfl ?_)))
  (k_with "compareOp In str ref" => (k_here; k_dflt (refine kda_in (knd := PySem.strKind _ _) (by first | ((k_asm); done) | fail "no") (by first | ((k_mem); done) | fail "no") (by first | ((assumption); done) | fail "no") (by first | ((assumption); done) | fail "no") (strKind_is _ _ _ _) _ rfl ?_)))
  trivial
section
variable {w : World} {loose : List Str} {mean : ExcName → Option Value} {mg mb : Str → Option Value} {dp un : Nat} {gd : Option (List Code)} {cn : Str} {cs : Scope} {a : Addr} {ccd : Value} {cl : List (Str × Addr)} {outer : List Env} {A₀ : Around} {base h₀ : Heap} {L : Addr} {m : Str → Option Value} {news : List (Addr × Obj)} {s : Shared} {Q E : Value → Shared → Prop}
theorem reg19 : True := by
  (k_with "call builtin:list.reverse" => (k_here; (with_reducible show wpAny _ _ (call (Value.builtin _) [Value.ref _]) _ _ _); k_dflt (refine kl_reverse (by first | ((k_asm); done) | fail "no") (by first | ((k_asm); done) | fail "no") (by first | ((exact rfl); done) | fail "no") (by first | ((k_upd); done) | fail "no") (by first | ((exact sizeLine_big (Nat.le_trans (Nat.le_of_eq (IntsAre.length (vs := Array.toList (List.toArray _)) (by assumption))) (by omega))); done) | fail "no") ?_); intro hqz Fqz Nqz; (try k_sweep)))
  trivial
theorem cards_spec {sc : Addr} {vs : List Value} {ns : List Int}
    (B : Below A₀ base outer h₀) (F : Fr h₀ L s.heap m) (X : (hd.heap_39 w.params).In h₀) (N : News h₀ L s.heap news) (T : Top hd.view_39 loose mean mg mb h₀) (hk : cs.kind = .function)
    (hdp : dp + 5 < recursionLimit) (hs : base.IsList sc vs.toArray) (hI : IntsAre vs ns) (hlen : ns.length ≤ 63)
    (ret : ∀ c h' tk' vs' ns' n', Fr h₀ L h' m → News h₀ L h' ((c, listOf vs'.toArray n') :: news) → IntsAre vs' ns' → ns'.length ≤ 140 → (∀ p ∈ news, p.1 < c) → Q (.ref c) { s with heap := h', toks := tk' }) :
    wpAny (model PySem.Challenge.rw_pq1395_01.row.prog w) (ktrTop dp un gd cn cs L a ccd cl outer) (call (.ref 244) [.ref sc]) Q E s := by
  refine wpAny_call ?_
  k_dflt cell_enter
  k_steps
  rename IntsAre _ (List.take 50 ns) => hI5
  have hq5 : (List.take 50 ns).length ≤ 50 := by rw [List.length_take]; omega
  have hq6 := hI5.length
  rename News _ _ _ _ => N1
  rename Fr _ _ _ _ => F1
  rename ∀ p ∈ news, p.1 < _ => hl3
  rename _ ∧ AllLt _ _ => hl1
  obtain ⟨hl1a, hl1b⟩ := hl1
  have hl2 := ktn_ltOf hl1b
  have N2 := news_swap N1
  refine Halt.mk ?_
  with_unfolding_all refine lp_list (σ := List Value × List Int × Nat) (fun c => [(_, listOf c.1.toArray c.2.2)]) (fun _ => []) [Str.ofString "heap_up", Str.ofString "lap"] (fun i c => IntsAre c.1 c.2.1 ∧ c.2.1.length ≤ 12 * i) _ ([], [], 0) rfl rfl List.mem_cons_self F1 N2 (fun _ => rfl) (off_of (fun p hp => by
    rcases List.mem_cons.mp hp with rfl | hp
    · exact fun e => Nat.lt_irrefl _ (e ▸ hl1a)
    · exact ne_of_lt_all hl3 p hp)) (fun _ hp => nomatch hp) ⟨.nil, Nat.le_refl _⟩ ?_ ?_
  · clear F1 N1 N2
    intro i pv c nx u h9 tk9 hi hsub hoff hP F2 N2
    obtain ⟨hP1, hP2⟩ := hP
    obtain ⟨z, tz, rfl, hz⟩ := hI5.at i pv hi
    have hi50 : i < 50 := by have := (List.getElem?_eq_some_iff.mp hz).1; omega
    have hoff' := off_one hoff
    have hm0 := hsub _ List.mem_cons_self
    simp only [List.cons_append, List.nil_append] at N2
    k_unmd
    k_fold
    k_steps
    all_goals
      rename News _ _ _ _ => N3
      rename Fr _ _ _ _ => F3
      rename IsRange _ _ _ _ _ _ _ _ => R3
      refine Halt.mk ?_
      with_unfolding_all refine' lp_range (σ := List Value × List Int × Nat × Int × Tok) (n := 12) (fun c => [(_, listOf c.1.toArray c.2.2.1)]) (fun c => [(Str.ofString "heap_up", Value.int c.2.2.2.1 c.2.2.2.2)]) [] (fun j c => IntsAre c.1 c.2.1 ∧ c.2.1.length ≤ 12 * i + j ∧ 0 ≤ c.2.2.2.1) _ (c.1, c.2.1, c.2.2, _, _) rfl R3 (by decide) (by rfl) rfl F3 N3 (fun _ => rfl) hoff ?hk ?hp ?turn ?done
      case hk => intro p hp; rw [List.mem_singleton.mp hp]; rfl
      case hp => exact ⟨hP1, hP2, by dsimp only; omega⟩
      case turn =>
        clear F2 N2 F3 N3
        intro j tj c2 nx2 u2 h8 tk8 hj hsub2 hoff2 hP F4 N4
        obtain ⟨hQ1, hQ2, hQ3⟩ := hP
        have hoff2' := off_one hoff2
        have hm2 := hsub2 _ hm0
        have hcl : c2.1.length ≤ 1000 := by rw [hQ1.length]; omega
        simp only [List.cons_append, List.nil_append] at N4
        k_unmd
        k_fold
        k_steps
        · dsimp only
          k_steps
          unfold LpPost
          dsimp only
          k_steps
          exact LpEnd.intro (_, c2.2.1 ++ [_], _) (by assumption) (cb_drop (by assumption) (by
            intro p hp
            rcases List.mem_cons.mp hp with rfl | hp
            · exact List.mem_cons_self
            · exact List.mem_cons_of_mem _ (hsub2 _ hp))) (fun _ hp => nomatch hp) (by kst_same) ⟨hQ1.append (.cons _ _ .nil), by dsimp only; rw [List.length_append]; simp only [List.length_cons, List.length_nil]; omega⟩
        · exact LpEnd.intro (_, c2.2.1 ++ [_], _, _, _) (by assumption) (by assumption) (fun p hp => by rw [List.mem_singleton.mp hp]; rfl) (by kst_same) ⟨hQ1.append (.cons _ _ .nil), by dsimp only; rw [List.length_append]; simp only [List.length_cons, List.length_nil]; omega, by dsimp only; exact Int.fdiv_nonneg hQ3 (by decide)⟩
      case done =>
        clear F2 N2 F3 N3
        intro c2 u2 h8 tk8 hP F4 N4
        obtain ⟨hQ1, hQ2, hQ3⟩ := hP
        simp only [List.cons_append, List.nil_append] at N4
        dsimp only
        k_steps
        exact LpEnd.intro (_, c2.2.1, _) (by assumption) (by assumption) (fun _ hp => nomatch hp) (by kst_same) ⟨hQ1, by dsimp only; omega⟩
  · clear F1 N1 N2
    intro c u h9 tk9 hP F2 N2
    obtain ⟨hP1, hP2⟩ := hP
    have hcl : c.1.length ≤ 600 := by rw [hP1.length]; omega
    have hcl2 : c.2.1.length ≤ 600 := by omega
    simp only [List.cons_append, List.nil_append] at N2
    dsimp only
    k_steps
    refine ret _ _ _ _ _ _ (by assumption) (cb_drop (by assumption) (by intro p hp; rcases List.mem_cons.mp hp with rfl | hp <;> k_mem)) (IntsAre.reverse (by assumption)) ?_ ?_
    · rw [List.length_reverse, List.length_take]; omega
    · rename _ ∧ _ ∧ AllLt _ _ => hl4
      exact ktn_ltOf hl4.2.2
end
theorem reg20 : True := by
  k_with_none
  (k_with "call builtin:len" => (k_here; (with_reducible show wpAny _ _ (call (Value.builtin "len") [Value.ref _]) _ _ _); k_dflt (refine len_own (by first | ((k_asm); done) | fail "no") (by first | ((k_mem); done) | fail "no") (by first | ((omega); done) | fail "no") ?_; k_whole)))
  (k_with "subscriptTail" => (k_here; (with_reducible show wpAny _ _ (subscriptTail _ _ (Value.ref _) (Value.int _ _)) _ _ _); (with_unfolding_all refine item_own (by first | ((k_asm); done) | fail "no") (by first | ((k_mem); done) | fail "no") (by first | ((omega); done) | fail "no") (by first | ((omega); done) | fail "no") (by first | ((omega); done) | fail "no") ?_ (by first | ((with_unfolding_all rfl); done) | fail "no"); k_whole)))
  (k_with "subscriptTail" => (k_here; (with_reducible show wpAny _ _ (subscriptTail _ _ (Value.ref _) (Value.int (Nat.cast _) _)) _ _ _); (with_unfolding_all refine item_at (by first | ((k_asm); done) | fail "no") (by first | ((k_mem); done) | fail "no") (by first | ((assumption); done) | fail "no") (by first | ((omega); done) | fail "no") ?_ (by first | ((with_unfolding_all rfl); done) | fail "no"); k_whole)))
  (k_with "call builtin:list.append" => (k_here; (with_reducible show wpAny _ _ (call (Value.builtin _) [Value.ref _, _]) _ _ _); k_dflt (refine append_own (by first | ((k_asm); done) | fail "no") (by first | ((k_asm); done) | fail "no") (by first | ((k_upd); done) | fail "no") (by first | ((exact sizeLine_big (by omega)); done) | fail "no") ?_; k_whole); intro hqz Fqz Nqz; (try k_sweep)))
  (k_with "exec For Name Name cons nil" => (k_here; (rename Fr _ _ _ _ => lFqz); (with_unfolding_all refine For_invVF lFqz (by first | ((exact rfl); done) | fail "no") (by first | ((exact rfl); done) | fail "no") ?_; k_whole)))
  (k_with "exec For Name Subscript cons nil" => (k_here; (rename Fr _ _ _ _ => lFqz); (with_unfolding_all refine For_invVF lFqz (by first | ((exact rfl); done) | fail "no") (by first | ((exact rfl); done) | fail "no") ?_; k_whole)))
  (k_with "exec For Name Call cons nil" => (k_here; (rename Fr _ _ _ _ => lFqz); (with_unfolding_all refine For_invVF lFqz (by first | ((exact rfl); done) | fail "no") (by first | ((exact rfl); done) | fail "no") ?_; k_whole)))
  (k_with "getMethod ref" => (k_here; (with_reducible show wpAny _ _ (getMethod (Value.ref _) (PySem.Str.ofString "get") _) _ _ _); k_dflt (refine kdg_method (knd := PySem.strKind _ _) (by k_asm) (by k_mem) (by k_asm) ?_)))
  (k_with "call builtin:dict.get" => (k_here; k_dflt (first
  | refine kdg_get1 (knd := PySem.strKind _ _) (by k_asm) (by k_mem) (by k_asm) (by k_asm) (strKind_is _ _ _ _) (some _) (by rfl) ?_
  | refine kdg_get1 (knd := PySem.strKind _ _) (by k_asm) (by k_mem) (by k_asm) (by k_asm) (strKind_is _ _ _ _) none (by rfl) ?_); (try dsimp only [Option.getD])))
  (k_with "call type:list" => (k_here; (with_reducible show wpAny _ _ (call (Value.type _) [Value.ref _]) _ _ _); k_dflt (refine copy_own (by first | ((k_asm); done) | fail "no") (by first | ((k_asm); done) | fail "no") (by first | ((k_mem); done) | fail "no") (by first | ((exact sizeLine_big (by omega)); done) | fail "no") ?_; k_whole); intro Dqz cqz hqz Fqz Nqz l1z; (try k_lt l1z); (try k_sweep)))
  (k_with "call type:range" => (k_here; (with_reducible show wpAny _ _ (call (Value.type _) [Value.int _ _]) _ _ _); (rename Fr _ _ _ _ => Fqz); (rename News _ _ _ _ => Nqz); (with_unfolding_all refine range1_rows Fqz Nqz ?_); intro hqz tkqz t1qz u1qz v1qz Rqz Fqz Nqz hkqz))
  (k_with "setItem ref int" => (k_here; k_dflt (refine kda_set (knd := PySem.intKind _ _) (by first | ((k_asm); done) | fail "no") (by first | ((k_asm); done) | fail "no") (by first | ((k_updF); done) | fail "no") (by first | ((assumption); done) | fail "no") (intKind_is _ _ _ _) (by first | ((exact sizeLine_big (by omega)); done) | fail "no") ?_); intro hqz oqz Fqz Nqz hdqz; (try dsimp only at Nqz)))
  (k_with "call builtin:len" => (k_here; (with_reducible show wpAny _ _ (call (Value.builtin "len") [Value.ref _]) _ _ _); k_dflt (refine kda_len (knd := PySem.intKind _ _) (by first | ((k_asm); done) | fail "no") (by first | ((k_mem); done) | fail "no") (by first | ((assumption); done) | fail "no") (by first | ((assumption); done) | fail "no") (by first | ((omega); done) | fail "no") ?_; k_whole)))
  (k_with "compareOp NotIn int ref" => (k_here; k_dflt (refine kdg_notin (knd := PySem.intKind _ _) (by first | ((k_asm); done) | fail "no") (by first | ((k_mem); done) | fail "no") (by first | ((assumption); done) | fail "no") (by first | ((assumption); done) | fail "no") (intKind_is _ _ _ _) _ rfl ?_)))
  (k_with "CompSrcT" => (k_here; k_dflt (first
  | (refine LCt.CompSrcT.range (by rfl) (by first | ((k_asm); done) | fail "no") (by first | ((k_asm); done) | fail "no") (by first | ((assumption); done) | fail "no") (by first | ((exact small_one (by omega) (by omega) (by omega) (by omega)); done) | fail "no") (rs_nat _) (by first | ((exact sizeLine_big (by omega)); done) | fail "no") ?_; intro gqz)
  | (refine LCt.CompSrcT.ledger (by rfl) (by first | ((k_asm); done) | fail "no") (by first | ((k_asm); done) | fail "no") (by first | ((k_mem); done) | fail "no") (by first | ((exact sizeLine_big (by omega)); done) | fail "no") ?_; intro gqz))))
  (k_with "pyIter ref" => (k_here; (with_reducible show wpAny _ _ (pyIter (Value.ref _)) (fun it s₂ => LoopAtV _ _ _ _ _ _ _ _ _ it s₂) _ _); refine Halt.out ?_))
  (k_with "setItem ref str" => (k_here; k_dflt (refine kda_set (knd := PySem.strKind _ _) (by first | ((k_asm); done) | fail "no") (by first | ((k_asm); done) | fail "no") (by first | ((k_updF); done) | fail "no") (by first | ((assumption); done) | fail "no") (strKind_is _ _ _ _) (by first | ((exact sizeLine_big (by omega)); done) | fail "no") ?_); intro hqz oqz Fqz Nqz hdqz; (try dsimp only at Nqz)))
  (k_with "compareOp NotIn str ref" => (k_here; k_dflt (refine kdg_notin (knd := PySem.strKind _ _) (by first | ((k_asm); done) | fail "no") (by first | ((k_mem); done) | fail "no") (by first | ((assumption); done) | fail "no") (by first | ((assumption); done) | fail "no") (strKind_is _ _ _ _) _ rfl ?_)))
  (k_with "compareOp In str ref" => (k_here; k_dflt (refine kda_in (knd := PySem.strKind _ _) (by first | ((k_asm); done) | fail "no") (by first | ((k_mem); done) | fail "no") (by first | ((assumption); done) | fail "no") (by first | ((assumption); done) | fail "no") (strKind_is _ _ _ _) _ rfl ?_)))
  trivial
section
variable {w : World} {loose : List Str} {mean : ExcName → Option Value} {mg mb : Str → Option Value} {dp un : Nat} {gd : Option (List Code)} {cn : Str} {cs : Scope} {a : Addr} {ccd : Value} {cl : List (Str × Addr)} {outer : List Env} {A₀ : Around} {base h₀ : Heap} {L : Addr} {m : Str → Option Value} {news : List (Addr × Obj)} {s : Shared} {Q E : Value → Shared → Prop}
theorem reg21 : True := by
  (k_with "call ref" => (k_here; (with_reducible show wpAny _ _ (call (Value.ref 184) [_, _, _]) _ _ _); k_dflt (refine vec3_spec (by first | ((k_asm); done) | fail "no") (by first | ((k_asm); done) | fail "no") (by first | ((k_asm); done) | fail "no") (by first | ((k_asm); done) | fail "no") (by first | ((k_asm); done) | fail "no") (by first | ((first | assumption | exact rfl); done) | fail "no") (by first | ((k_room); done) | fail "no") ?_); intro x9z d9z kk9z h9z tk9z F9z N9z l1z l2z; (try k_lt l1z); (try k_lt2 l2z); (try dsimp only); (try k_sweep); (try k_fold)))
  (k_with "call ref" => (k_here; (with_reducible show wpAny _ _ (call (Value.ref 184) [_, _]) _ _ _); k_dflt (refine vec2_spec (by first | ((k_asm); done) | fail "no") (by first | ((k_asm); done) | fail "no") (by first | ((k_asm); done) | fail "no") (by first | ((k_asm); done) | fail "no") (by first | ((k_asm); done) | fail "no") (by first | ((first | assumption | exact rfl); done) | fail "no") (by first | ((k_room); done) | fail "no") ?_); intro x9z d9z kk9z h9z tk9z F9z N9z l1z l2z; (try k_lt l1z); (try k_lt2 l2z); (try dsimp only); (try k_sweep); (try k_fold)))
  trivial
def clip (n : Nat) : Option Nat → Option Nat
  | some k => if k < n then some k else none
  | none => none

theorem rs_one (r : Nat) : Builtin.Range.rangeSize 0 (1 + (r : Int)) 1 = ((r + 1 : Nat) : Int) := by rw [rangeSize_nat]; omega

theorem card_at {c : Addr} {vs : List Value} {ns : List Int} {n : Nat} {many : Int} {t : Tok} {g : Obj → List (Addr × Obj)}
    (B : Below A₀ base outer h₀) (F : Fr h₀ L s.heap m) (X : (hd.heap_39 w.params).In h₀) (N : News h₀ L s.heap news) (T : Top hd.view_39 loose mean mg mb h₀) (hk : cs.kind = .function)
    (hdp : dp + 5 < recursionLimit) (U : UpdF c (listOf vs.toArray n) news g) (hI : IntsAre vs ns) (hlen : ns.length ≤ 140) (h0 : 0 < many) (h1 : many < 1000)
    (ret : ∀ (r : Nat) t' h' tk' vs' ns' n', Fr h₀ L h' m → News h₀ L h' (g (listOf vs'.toArray n')) → IntsAre vs' ns' → ns'.length ≤ 140 → (r : Int) < many → Q (.int (r : Int) t') { s with heap := h', toks := tk' }) :
    wpAny (model PySem.Challenge.rw_pq1395_01.row.prog w) (ktrTop dp un gd cn cs L a ccd cl outer) (call (.ref 251) [.ref c, .int many t]) Q E s := by
  obtain ⟨pre, post, rfl, hg, hp1, hp2⟩ := U.split
  refine card_spec (news := pre ++ post) (vs := vs) (ns := ns) (n := n) B F X (fun p hp => N p ?_) T hk hdp hI (fun p hp => ?_) hlen h0 h1 ?_
  · rcases List.mem_cons.mp hp with rfl | hp
    · exact List.mem_append.mpr (.inr List.mem_cons_self)
    · rcases List.mem_append.mp hp with hp | hp
      · exact List.mem_append.mpr (.inl hp)
      · exact List.mem_append.mpr (.inr (List.mem_cons_of_mem _ hp))
  · rcases List.mem_append.mp hp with hp | hp
    · exact hp1 p hp
    · exact hp2 p hp
  · intro r t' h' tk' vs' ns' n' F' N' hI' hl' hr0 hr1
    obtain ⟨q, rfl⟩ : ∃ q : Nat, r = (q : Int) := ⟨r.toNat, by omega⟩
    refine ret q t' h' tk' vs' ns' n' F' ?_ hI' hl' hr1
    rw [hg]
    intro p hp
    rcases List.mem_append.mp hp with hp | hp
    · exact N' p (List.mem_cons_of_mem _ (List.mem_append.mpr (.inl hp)))
    · rcases List.mem_cons.mp hp with rfl | hp
      · exact N' _ List.mem_cons_self
      · exact N' p (List.mem_cons_of_mem _ (List.mem_append.mpr (.inr hp)))

theorem reg22 : True := by
  (k_with "call ref" => (k_here; (with_reducible show wpAny _ _ (call (Value.ref 251) _) _ _ _); k_dflt (refine card_at (by first | ((k_asm); done) | fail "no") (by first | ((k_asm); done) | fail "no") (by first | ((k_asm); done) | fail "no") (by first | ((k_asm); done) | fail "no") (by first | ((k_asm); done) | fail "no") (by first | ((first | assumption | exact rfl); done) | fail "no") (by first | ((k_room); done) | fail "no") (by first | ((k_updF); done) | fail "no") (by first | ((assumption); done) | fail "no") (by first | ((assumption); done) | fail "no") (by first | ((omega); done) | fail "no") (by first | ((omega); done) | fail "no") ?_); intro r9z t9z h9z tk9z vs9z ns9z n9z F9z N9z hI9z hl9z hr9z; (try dsimp only at N9z); (try dsimp only); (try k_fold)))
  (k_with "CompSrc" => (k_here; k_dflt (first
  | (refine LCg.CompSrc.range (by rfl) (by first | ((k_asm); done) | fail "no") (by first | ((k_asm); done) | fail "no") (by first | ((assumption); done) | fail "no") (by first | ((exact small_one (by omega) (by omega) (by omega) (by omega)); done) | fail "no") (by first | ((first | with_reducible exact rs_nat _ | with_reducible exact rs_one _); done) | fail "no") (by first | ((exact sizeLine_big (by omega)); done) | fail "no") ?_; intro gqz; refine Halt.out ?_)
  | (refine LCg.CompSrc.ledger (by rfl) (by first | ((k_asm); done) | fail "no") (by first | ((k_asm); done) | fail "no") (by first | ((k_mem); done) | fail "no") (by first | ((exact sizeLine_big (by simp only [List.size_toArray]; omega)); done) | fail "no") ?_; intro gqz; refine Halt.out ?_))))
  (k_with "CompSrcT" => (k_here; k_dflt (first
  | (refine LCt.CompSrcT.range (by rfl) (by first | ((k_asm); done) | fail "no") (by first | ((k_asm); done) | fail "no") (by first | ((assumption); done) | fail "no") (by first | ((exact small_one (by omega) (by omega) (by omega) (by omega)); done) | fail "no") (by first | ((first | with_reducible exact rs_nat _ | with_reducible exact rs_one _); done) | fail "no") (by first | ((exact sizeLine_big (by omega)); done) | fail "no") ?_; intro gqz; refine Halt.out ?_)
  | (refine LCt.CompSrcT.ledger (by rfl) (by first | ((k_asm); done) | fail "no") (by first | ((k_asm); done) | fail "no") (by first | ((k_mem); done) | fail "no") (by first | ((exact sizeLine_big (by simp only [List.size_toArray]; omega)); done) | fail "no") ?_; intro gqz; refine Halt.out ?_))))
  (k_with "exec Assign cons ListComp" => (k_here; lct_look; lcg_calm; k_dflt (refine LCt.Assign_ListComp_T (F₀ := by k_asm) (by rfl) (by with_unfolding_all rfl) (by with_unfolding_all rfl) (by decide) (by rfl) (by decide) (by rfl) (by rfl) (by rfl) ?_)))
  (k_with "eval ListComp" => (k_here; lct_look; lcg_calm; k_dflt (refine LCt.ListComp_T (F₀ := by k_asm) (by with_unfolding_all rfl) (by decide) (by rfl) (by decide) (by rfl) ?_)))
  (k_with "compareOp NotIn int ref" => (k_here; k_dflt (refine notin_own (by first | ((k_asm); done) | fail "no") (by first | ((k_mem); done) | fail "no") (by first | ((assumption); done) | fail "no") ?_)))
  (k_with "compareOp NotEq ref ref" => (k_here; (with_reducible show wpAny _ _ (compareOp CmpOp.NotEq (Value.ref _) (Value.ref _)) _ _ _); k_dflt (refine kqd_ne (by first | ((k_asm); done) | fail "no") (by first | ((k_mem); done) | fail "no") (by first | ((exact rfl); done) | fail "no") (by first | ((exact rfl); done) | fail "no") (by first | ((exact datAll_oi (n := []) (by assumption)); done) | fail "no") (by first | ((exact fun _ h => nomatch h); done) | fail "no") (by first | ((k_mem); done) | fail "no") (by first | ((exact rfl); done) | fail "no") (by first | ((exact rfl); done) | fail "no") (by first | ((exact DatAll.nil (news := [])); done) | fail "no") (by first | ((exact fun _ h => nomatch h); done) | fail "no") (by first | ((exact ok_datO _); done) | fail "no") (by first | ((exact fun _ h => nomatch h); done) | fail "no") (by first | ((exact units_of (by assumption)); done) | fail "no") ?_)))
  trivial
theorem units_of {env : Env} (h : un + 500 < cLine) : ((ktrTop dp un gd cn cs L a ccd cl outer).deeper env).units + 64 < cLine := by
  rw [units_deeper]; dsimp only [ktrTop]; omega
theorem take_snoc' {α : Type} {xs : List α} {i : Nat} {y : α} (hy : xs[i]? = some y) : xs.take (i + 1) = xs.take i ++ [y] := by rw [List.take_add_one, hy]; rfl
theorem clip_in {n k : Nat} (h : k < n) : clip n (some k) = some k := if_pos h
theorem clip_out {n k : Nat} (h : ¬ k < n) : clip n (some k) = none := if_neg h
theorem leftB_clip (ks : List Nat) (n : Nat) : (leftB ks n).map (clip n) = leftB ks n := by
  have : ∀ o ∈ leftB ks n, clip n o = o := by
    intro o ho
    unfold leftB at ho
    obtain ⟨k, hk, rfl⟩ := List.mem_map.mp ho
    exact clip_in (List.mem_range.mp (List.mem_filter.mp hk).1)
  conv => rhs; rw [← List.map_id (leftB ks n)]
  exact List.map_congr_left this
theorem leftB_le (ks : List Nat) (n : Nat) : (leftB ks n).length ≤ n := by
  unfold leftB
  rw [List.length_map]
  exact Nat.le_trans (List.length_filter_le _ _) (by rw [List.length_range]; exact Nat.le_refl _)
theorem logA_le (ts : List (Option Nat)) (n : Nat) : (logA ts n).length ≤ max n ts.length := by
  unfold logA
  split
  · simp
  · exact lpA_le _ _
theorem news_tail {h₀ h : Heap} {L : Addr} {a : Addr × Obj} {r : List (Addr × Obj)} (N : News h₀ L h (a :: r)) : News h₀ L h r := fun p hp => N p (List.mem_cons_of_mem _ hp)
theorem news_lift3 {h₀ h : Heap} {L : Addr} {a b1 b2 b3 c : Addr × Obj} {r : List (Addr × Obj)} (N : News h₀ L h (a :: b1 :: b2 :: b3 :: c :: r)) : News h₀ L h (a :: c :: b1 :: b2 :: b3 :: r) := fun p hp => N p (by
  simp only [List.mem_cons] at hp ⊢
  rcases hp with h | h | h | h | h | h
  · exact .inl h
  · exact .inr (.inr (.inr (.inr (.inl h))))
  · exact .inr (.inl h)
  · exact .inr (.inr (.inl h))
  · exact .inr (.inr (.inr (.inl h)))
  · exact .inr (.inr (.inr (.inr (.inr h)))))
theorem off2_of {nx : List (Addr × Obj)} {a b : Addr} (h : ∀ p ∈ nx, p.1 ≠ a) (h' : ∀ p ∈ nx, p.1 ≠ b) : ∀ p ∈ nx, p.1 ∉ [a, b] := fun p hp e => by
  rcases List.mem_cons.mp e with e | e
  · exact h p hp e
  · exact h' p hp (List.mem_singleton.mp e)
theorem off2_l {nx : List (Addr × Obj)} {a b : Addr} (h : ∀ p ∈ nx, p.1 ∉ [a, b]) : ∀ p ∈ nx, p.1 ≠ a := fun p hp e => h p hp (e ▸ List.mem_cons_self)
theorem off2_r {nx : List (Addr × Obj)} {a b : Addr} (h : ∀ p ∈ nx, p.1 ∉ [a, b]) : ∀ p ∈ nx, p.1 ≠ b := fun p hp e => h p hp (e ▸ List.mem_cons_of_mem _ List.mem_cons_self)

set_option maxHeartbeats 8000000 in
theorem index_spec {c : Addr} {vs : List Value} {ns : List Int} {n sz : Nat} {t : Tok} {xs : List Str}
    (B : Below A₀ base outer h₀) (F : Fr h₀ L s.heap m) (X : (hd.heap_39 w.params).In h₀) (N : News h₀ L s.heap ((c, listOf vs.toArray n) :: news)) (T : Top hd.view_39 loose mean mg mb h₀) (hk : cs.kind = .function)
    (hdp : dp + 15 < recursionLimit) (hun : un + 500 < cLine) (hI : IntsAre vs ns) (hc : ∀ p ∈ news, p.1 ≠ c) (hlen : ns.length ≤ 140) (hsz : sz ≤ 6)
    (ret : ∀ tp x xd il sp ki ti k is os sps nf nf' h' tk', Fr h₀ L h' m → News h₀ L h' ((tp, ({ cls := .type "tuple", data := .seq #[Value.ref x, Value.ref sp] } : Obj)) :: (x, instObj 184 xd) :: (xd, vecD w.params (.str ki ti) (.ref il) .none k) :: (il, listOf is.toArray nf) :: (sp, listOf sps.toArray nf') :: news) →
      IxIs xs sz ki is os → Paired OI sps (os.map (clip sz)) → os.length ≤ 500 → Q (.ref tp) { s with heap := h', toks := tk' }) :
    wpAny (model PySem.Challenge.rw_pq1395_01.row.prog w) (ktrTop dp un gd cn cs L a ccd cl outer) (call (.ref 256) [.ref c, .int (sz : Int) t]) Q E s := by
  refine wpAny_call ?_
  obtain ⟨k0, n0, ig0, ic0, mo0⟩ := cs
  dsimp only at hk
  subst hk
  k_dflt k_enter
  rename _ ∧ AllLt _ _ => hl1
  obtain ⟨hl1a, hl1b⟩ := hl1
  have hl1c := ktn_ltOf hl1b
  k_steps
  · rename News _ _ _ _ => N1
    rename Fr _ _ _ _ => F1
    rename IsRange _ _ _ _ _ _ _ _ => R1
    have N2 := news_lift3 N1
    refine Halt.mk ?_
    with_unfolding_all refine lp_range (σ := List Value × List (Option Nat) × Nat × List Value × List Int × Nat) (fun c9 => [(_, listOf c9.1.toArray c9.2.2.1), (c, listOf c9.2.2.2.1.toArray c9.2.2.2.2.2)]) (fun _ => []) [Str.ofString "draw"] (fun i c9 => Paired OI c9.1 c9.2.1 ∧ c9.2.1.length ≤ i ∧ IntsAre c9.2.2.2.1 c9.2.2.2.2.1 ∧ c9.2.2.2.2.1.length ≤ 140) _ ([], [], 0, _, _, _) rfl R1 (small_one (by omega) (by omega) (by omega) (by omega)) (rs_nat _) rfl F1 N2 (fun _ => rfl) (off2_of (by first | k_all | fail "off") (by first | k_all | fail "off")) (fun _ hp => nomatch hp) ⟨.nil, Nat.le_refl _, by assumption, by assumption⟩ ?_ ?_
    · clear F1 N1 N2
      intro i ti c9 nx u h9 tk9 hi hsub hoff hP F2 N2
      obtain ⟨hP1, hP2, hP3, hP4⟩ := hP
      have hoff1 := off2_l hoff
      have hoff2 := off2_r hoff
      have hm1 := hsub _ List.mem_cons_self
      have hm2 := hsub _ (List.mem_cons_of_mem _ List.mem_cons_self)
      have hm3 := hsub _ (List.mem_cons_of_mem _ (List.mem_cons_of_mem _ List.mem_cons_self))
      have hcl : c9.1.length ≤ 1000 := by rw [Paired.length hP1]; omega
      simp only [List.cons_append, List.nil_append] at N2
      k_unmd
      k_fold
      k_steps
      · exact LpEnd.intro (_, c9.2.1 ++ [none], _, _, _, _) (by assumption) (by assumption) (fun _ hp => nomatch hp) (by kst_same) ⟨Paired.snoc hP1 .none, by dsimp only; rw [List.length_append]; exact Nat.add_le_add_right hP2 1, by assumption, by assumption⟩
      · exact LpEnd.intro (_, c9.2.1 ++ [some _], _, _, _, _) (by assumption) (by assumption) (fun _ hp => nomatch hp) (by kst_same) ⟨Paired.snoc hP1 (.int _ _), by dsimp only; rw [List.length_append]; exact Nat.add_le_add_right hP2 1, by assumption, by assumption⟩
    · clear F1 N1 N2
      intro c9 u h9 tk9 hP F2 N2
      obtain ⟨hP1, hP2, hP3, hP4⟩ := hP
      have hcl : c9.1.length ≤ 1000 := by rw [Paired.length hP1]; omega
      simp only [List.cons_append, List.nil_append] at N2
      dsimp only
      k_steps
      refine Halt.mk ?_
      with_unfolding_all refine crT_of (n := c9.1.length) (fun i ys nx => nx = _ ∧ Paired OI ys ((wpA (c9.2.1.take i)).map (clip sz))) ?turn ?fin c9.1.length 0 [] _ (Nat.zero_add _) ⟨rfl, .nil⟩
      case turn =>
        intro i ys nx v I oI C oC D m₂ h9 tk9 E9 hi hJ hv9 hC hx F9 N9 off ne
        obtain ⟨rfl, hY⟩ := hJ
        have hv9' : c9.1[i]? = some v := by simpa using hv9
        obtain ⟨o, ho, hO⟩ := pget hP1 hv9'
        k_unmd
        k_fold
        cases hO with
        | none =>
          k_steps
          refine LCg.CompEnd.intro (by assumption) (by assumption) _ (fun p hp => hp) off (.inr ⟨_, by k_mem, rfl, _, rfl⟩) ⟨rfl, ?_⟩
          rw [wpA_succ ho, List.map_append]; exact Paired.snoc hY .none
        | int k tk =>
          k_steps
          · refine LCg.CompEnd.intro (by assumption) (by assumption) _ (fun p hp => hp) off (.inr ⟨_, by k_mem, rfl, _, rfl⟩) ⟨rfl, ?_⟩
            obtain ⟨j, rfl⟩ : ∃ j, k = j + 1 := ⟨k - 1, by omega⟩
            rw [wpA_succ ho, List.map_append]
            show Paired OI _ (_ ++ [clip sz (some j)])
            rw [clip_out (by omega)]; exact Paired.snoc hY .none
          · refine LCg.CompEnd.intro (by assumption) (by assumption) _ (fun p hp => hp) off (.inr ⟨_, by k_mem, rfl, _, rfl⟩) ⟨rfl, ?_⟩
            obtain ⟨j, rfl⟩ : ∃ j, k = j + 1 := ⟨k - 1, by omega⟩
            rw [wpA_succ ho, List.map_append]
            show Paired OI _ (_ ++ [clip sz (some j)])
            have e8 : ((j + 1 : Nat) : Int) - 1 = (j : Int) := by omega
            rw [clip_in (by omega), e8]; exact Paired.snoc hY (.int _ _)
          · refine LCg.CompEnd.intro (by assumption) (by assumption) _ (fun p hp => hp) off (.inr ⟨_, by k_mem, rfl, _, rfl⟩) ⟨rfl, ?_⟩
            obtain rfl : k = 0 := by omega
            rw [wpA_succ ho, List.map_append]
            show Paired OI _ (_ ++ [])
            rw [List.append_nil]; exact hY
      case fin =>
        intro ys nx hJ
        obtain ⟨rfl, hY⟩ := hJ
        rw [Paired.length hP1, List.take_length] at hY
        k_steps
        rename News _ _ _ _ => N3
        exact ret _ _ _ _ _ _ _ (toks5 _ _ _ _ _) _ _ _ _ _ _ _ (by assumption) (news_cons N3 (by k_mem) (news_cons N3 (by k_mem) (news_cons N3 (by k_mem) (news_cons N3 (by k_mem) (news_cons N3 (by k_mem) (cb_drop N3 (by intro p hp; k_mem))))))) (.whole hP1 (by omega)) hY (Nat.le_trans (wpA_len _) (by omega))
  · refine Halt.mk ?_
    with_unfolding_all refine cr_cards [(_, _), (_, _), (_, _)] news (fun i ys => ∃ ks : List Nat, IntsAre ys (ks.map fun k : Nat => (k : Int)) ∧ ks.length = i) (by assumption) (by assumption) ⟨[], .nil, rfl⟩ ?turn ?fin
    case turn =>
      intro i ys v I oI C oC D m₂ h9 tk9 E9 vs9 ns9 k9 hi hP hv hI9 hl9 hC hx F9 N9 off ne offc offx
      obtain ⟨ks, hks, hkl⟩ := hP
      simp only [List.cons_append, List.nil_append] at N9
      k_unmd
      k_fold
      k_steps
      refine LCg.CompEnd.intro (by assumption) (by assumption) _ (fun p hp => hp) (offx _ _) trivial ⟨⟨_, _, _, rfl, by assumption, by assumption⟩, ks ++ [_], intsAre_snoc hks _ _, by rw [List.length_append, hkl]; rfl⟩
    case fin =>
      intro ys vs9 ns9 k9 hP hI9 hl9
      obtain ⟨ks, hks, hkl⟩ := hP
      have hyl : ys.length ≤ 3 := by rw [hks.length, List.length_map]; omega
      simp only [List.cons_append, List.nil_append]
      k_steps
      refine Halt.mk ?_
      with_unfolding_all refine cr_of (n := ys.length) (fun i zs nx => nx = _ ∧ Paired NI zs (ks.take i)) ?turn ?fin ys.length 0 [] _ (Nat.zero_add _) ⟨rfl, .nil⟩
      case turn =>
        intro i zs nx v I oI C oC D m₂ h9 tk9 E9 hi hJ hv9 hC hx F9 N9 off ne
        obtain ⟨rfl, hY⟩ := hJ
        have hv9' : ys[i]? = some v := by simpa using hv9
        obtain ⟨z, tz, rfl, hz⟩ := hks.at i v hv9'
        obtain ⟨k, hk, rfl⟩ : ∃ k, ks[i]? = some k ∧ ((k : Nat) : Int) = z := by simpa using hz
        k_unmd
        k_fold
        k_steps
        refine LCg.CompEnd.intro (by assumption) (by assumption) _ (fun p hp => hp) off (.inr ⟨_, by k_mem, rfl, _, rfl⟩) ⟨rfl, ?_⟩
        rw [take_snoc' hk]; exact Paired.snoc hY (.int _ _)
      case fin =>
        intro zs nx hJ
        obtain ⟨rfl, hY⟩ := hJ
        have hyk : ys.length = ks.length := by rw [hks.length, List.length_map]
        rw [hyk, List.take_length] at hY
        k_steps
        refine Halt.mk ?_
        with_unfolding_all refine crT_of (n := sz) (fun i us nx => nx = _ ∧ Paired OI us (leftB ks i)) ?turn ?fin sz 0 [] _ (Nat.zero_add _) ⟨rfl, .nil⟩
        case turn =>
          intro i us nx v I oI C oC D m₂ h9 tk9 E9 hi hJ hv9 hC hx F9 N9 off ne
          obtain ⟨rfl, hU⟩ := hJ
          obtain ⟨t9, rfl⟩ := hv9
          k_unmd
          k_fold
          k_steps
          · rename List.any _ _ = true => hb
            have e : ((0 : Int) + (i : Int)) = (i : Int) := by omega
            rw [e, any_cast] at hb
            refine LCg.CompEnd.intro (by assumption) (by assumption) _ (fun p hp => hp) off trivial ⟨rfl, ?_⟩
            rw [leftB_succ, if_pos hb, List.append_nil]; exact hU
          · rename List.any _ _ = false => hb
            have e : ((0 : Int) + (i : Int)) = (i : Int) := by omega
            rw [e, any_cast] at hb
            refine LCg.CompEnd.intro (by assumption) (by assumption) _ (fun p hp => hp) off trivial ⟨rfl, ?_⟩
            rw [leftB_succ, if_neg (by rw [hb]; decide), e]; exact Paired.snoc hU (.int _ _)
        case fin =>
          intro us nx hJ
          obtain ⟨rfl, hU⟩ := hJ
          k_steps
          rename News _ _ _ _ => N3
          exact ret _ _ _ _ _ _ _ (toks5 _ _ _ _ _) _ _ _ _ _ _ _ (by assumption) (news_cons N3 (by k_mem) (news_cons N3 (by k_mem) (news_cons N3 (by k_mem) (news_cons N3 (by k_mem) (news_cons N3 (by k_mem) (cb_drop N3 (by intro p hp; k_mem))))))) (.neg hY (by omega) (fun e => by rw [e] at hkl; simp at hkl)) (by rw [leftB_clip]; exact hU) (Nat.le_trans (leftB_le _ _) (by omega))
  · refine Halt.mk ?_
    with_unfolding_all refine cr_cards [(_, _), (_, _), (_, _)] news (fun i ys => ∃ ts : List (Option Nat), Paired OI ys ts ∧ ts.length = i) (by assumption) (by assumption) ⟨[], .nil, rfl⟩ ?turn ?fin
    case turn =>
      intro i ys v I oI C oC D m₂ h9 tk9 E9 vs9 ns9 k9 hi hP hv hI9 hl9 hC hx F9 N9 off ne offc offx
      obtain ⟨ts, hts, htl⟩ := hP
      simp only [List.cons_append, List.nil_append] at N9
      k_unmd
      k_fold
      k_steps
      rename ((_ : Nat) : Int) < 3 => hr3
      obtain ⟨o3, ho3⟩ := dict3 hr3 _ _
      refine LCg.CompEnd.intro (by assumption) (by assumption) _ (fun p hp => List.mem_cons_of_mem _ hp) (offx _ _) trivial ⟨⟨_, _, _, rfl, by assumption, by assumption⟩, ts ++ [o3], Paired.snoc hts ho3, by rw [List.length_append, htl]; rfl⟩
    case fin =>
      intro ys vs9 ns9 k9 hP hI9 hl9
      obtain ⟨ts, hts, htl⟩ := hP
      have hyl : ys.length ≤ 20 := by rw [Paired.length hts]; omega
      have hyt := Paired.length hts
      simp only [List.cons_append, List.nil_append]
      k_steps
      · rename decide (List.map datO ts = []) = true => hq
        have hq' : ts = [] := List.map_eq_nil_iff.mp (of_decide_eq_true hq)
        subst hq'
        rename News _ _ _ _ => N3
        exact ret _ _ _ _ _ _ _ (toks5 _ _ _ _ _) _ _ [] _ _ _ _ (by assumption) (news_cons N3 (by k_mem) (news_cons N3 (by k_mem) (news_cons N3 (by k_mem) (news_cons N3 (by k_mem) (news_cons N3 (by k_mem) (cb_drop N3 (by intro p hp; k_mem))))))) (.logical hts (by simp)) .nil (by simp [logA])
      · rename decide (List.map datO ts = []) = false => hq
        have hq' : ¬ ts.length = 0 := fun e => of_decide_eq_false hq (by rw [List.eq_nil_of_length_eq_zero e]; rfl)
        rename News _ _ _ _ => N1
        rename Fr _ _ _ _ => F1
        rename IsRange _ _ _ _ _ _ _ _ => R1
        refine Halt.mk ?_
        with_unfolding_all refine lp_range (σ := List Value × Nat) (n := max sz ys.length) (fun c9 => [(_, listOf c9.1.toArray c9.2)]) (fun _ => []) [Str.ofString "truth_now"] (fun i c9 => Paired OI c9.1 ((lpA ts i).map (clip sz))) _ ([], 0) rfl R1 (small_one (by omega) (by omega) (by omega) (by omega)) (rs_max _ _) rfl F1 (news_tail N1) (fun _ => rfl) (off_of (by first | k_all | fail "off")) (fun _ hp => nomatch hp) .nil ?_ ?_
        · clear F1 N1
          intro i ti c9 nx u h9 tk9 hi hsub hoff hP F2 N2
          have hoff' := off_one hoff
          have hm0 := hsub _ (List.mem_cons_self)
          have hm1 := hsub _ (List.mem_cons_of_mem _ (List.mem_cons_self))
          have hm2 := hsub _ (List.mem_cons_of_mem _ (List.mem_cons_of_mem _ (List.mem_cons_self)))
          have hm3 := hsub _ (List.mem_cons_of_mem _ (List.mem_cons_of_mem _ (List.mem_cons_of_mem _ (List.mem_cons_self))))
          have hcl : c9.1.length ≤ 1000 := by rw [Paired.length hP, List.length_map]; exact Nat.le_trans (lpA_le _ _) (by omega)
          simp only [List.cons_append, List.nil_append] at N2
          k_unmd
          k_fold
          k_steps
          have hpos : 0 < ys.length := by omega
          have e9 : Int.fmod (0 + (i : Int)) (ys.length : Int) = ((i % ys.length : Nat) : Int) := by rw [Int.fmod_eq_emod_of_nonneg _ (by omega), Int.zero_add]; rfl
          simp only [e9]
          have hj : i % ys.length < ys.length := Nat.mod_lt _ hpos
          obtain ⟨o, ho, hO⟩ := pget hts (List.getElem?_eq_getElem hj)
          with_unfolding_all refine item_at N2 (List.mem_cons_of_mem _ hm0) (List.getElem?_eq_getElem hj) (by omega) ?_
          generalize ys[i % ys.length] = v9 at hO
          rw [hyt] at ho
          have e8 : (0 : Int) + (i : Int) = (i : Int) := by omega
          cases hO with
          | none =>
            k_steps
            refine LpEnd.intro (_, _) (by assumption) (by assumption) (fun _ hp => nomatch hp) (by kst_same) ?_
            rw [lpA_succ, lp1_none ho, List.map_append]; exact Paired.snoc hP .none
          | int kk tk =>
            k_steps
            · refine LpEnd.intro (_, _) (by assumption) (by assumption) (fun _ hp => nomatch hp) (by kst_same) ?_
              obtain ⟨j, rfl⟩ : ∃ j, kk = j + 1 := ⟨kk - 1, by omega⟩
              rw [lpA_succ, lp1_succ ho, List.map_append]
              show Paired OI _ (_ ++ [clip sz (some i)])
              rw [clip_out (by omega)]; exact Paired.snoc hP .none
            · refine LpEnd.intro (_, _) (by assumption) (by assumption) (fun _ hp => nomatch hp) (by kst_same) ?_
              obtain ⟨j, rfl⟩ : ∃ j, kk = j + 1 := ⟨kk - 1, by omega⟩
              rw [lpA_succ, lp1_succ ho, List.map_append]
              show Paired OI _ (_ ++ [clip sz (some i)])
              rw [clip_in (by omega), e8]; exact Paired.snoc hP (.int _ _)
            · refine LpEnd.intro (_, _) (by assumption) (by assumption) (fun _ hp => nomatch hp) (by kst_same) ?_
              obtain rfl : kk = 0 := by omega
              rw [lpA_succ, lp1_zero ho, List.map_append]
              show Paired OI c9.1 (_ ++ [])
              rw [List.append_nil]; exact hP
        · clear F1 N1
          intro c9 u h9 tk9 hP F2 N2
          simp only [List.cons_append, List.nil_append] at N2
          dsimp only
          k_steps
          rename News _ _ _ _ => N3
          exact ret _ _ _ _ _ _ _ (toks5 _ _ _ _ _) _ _ _ _ _ _ _ (by assumption) (news_cons N3 (by k_mem) (news_cons N3 (by k_mem) (news_cons N3 (by k_mem) (news_cons N3 (by k_mem) (news_cons N3 (by k_mem) (cb_drop N3 (by intro p hp; k_mem))))))) (.logical hts (by omega)) (by unfold logA; rw [if_neg hq', ← hyt]; exact hP) (Nat.le_trans (logA_le _ _) (by omega))
end
theorem reg23 : True := by
  k_with_none
  (k_with "call builtin:len" => (k_here; (with_reducible show wpAny _ _ (call (Value.builtin "len") [Value.ref _]) _ _ _); k_dflt (refine len_own (by first | ((k_asm); done) | fail "no") (by first | ((k_mem); done) | fail "no") (by first | ((omega); done) | fail "no") ?_; k_whole)))
  (k_with "subscriptTail" => (k_here; (with_reducible show wpAny _ _ (subscriptTail _ _ (Value.ref _) (Value.int _ _)) _ _ _); (with_unfolding_all refine item_own (by first | ((k_asm); done) | fail "no") (by first | ((k_mem); done) | fail "no") (by first | ((omega); done) | fail "no") (by first | ((omega); done) | fail "no") (by first | ((omega); done) | fail "no") ?_ (by first | ((with_unfolding_all rfl); done) | fail "no"); k_whole)))
  (k_with "subscriptTail" => (k_here; (with_reducible show wpAny _ _ (subscriptTail _ _ (Value.ref _) (Value.int (Nat.cast _) _)) _ _ _); (with_unfolding_all refine item_at (by first | ((k_asm); done) | fail "no") (by first | ((k_mem); done) | fail "no") (by first | ((assumption); done) | fail "no") (by first | ((omega); done) | fail "no") ?_ (by first | ((with_unfolding_all rfl); done) | fail "no"); k_whole)))
  (k_with "call builtin:list.append" => (k_here; (with_reducible show wpAny _ _ (call (Value.builtin _) [Value.ref _, _]) _ _ _); k_dflt (refine append_own (by first | ((k_asm); done) | fail "no") (by first | ((k_asm); done) | fail "no") (by first | ((k_upd); done) | fail "no") (by first | ((exact sizeLine_big (by omega)); done) | fail "no") ?_; k_whole); intro hqz Fqz Nqz; (try k_sweep)))
  (k_with "exec For Name Name cons nil" => (k_here; (rename Fr _ _ _ _ => lFqz); (with_unfolding_all refine For_invVF lFqz (by first | ((exact rfl); done) | fail "no") (by first | ((exact rfl); done) | fail "no") ?_; k_whole)))
  (k_with "exec For Name Subscript cons nil" => (k_here; (rename Fr _ _ _ _ => lFqz); (with_unfolding_all refine For_invVF lFqz (by first | ((exact rfl); done) | fail "no") (by first | ((exact rfl); done) | fail "no") ?_; k_whole)))
  (k_with "exec For Name Call cons nil" => (k_here; (rename Fr _ _ _ _ => lFqz); (with_unfolding_all refine For_invVF lFqz (by first | ((exact rfl); done) | fail "no") (by first | ((exact rfl); done) | fail "no") ?_; k_whole)))
  (k_with "getMethod ref" => (k_here; (with_reducible show wpAny _ _ (getMethod (Value.ref _) (PySem.Str.ofString "get") _) _ _ _); k_dflt (refine kdg_method (knd := PySem.strKind _ _) (by k_asm) (by k_mem) (by k_asm) ?_)))
  (k_with "call builtin:dict.get" => (k_here; k_dflt (first
  | refine kdg_get1 (knd := PySem.strKind _ _) (by k_asm) (by k_mem) (by k_asm) (by k_asm) (strKind_is _ _ _ _) (some _) (by rfl) ?_
  | refine kdg_get1 (knd := PySem.strKind _ _) (by k_asm) (by k_mem) (by k_asm) (by k_asm) (strKind_is _ _ _ _) none (by rfl) ?_); (try dsimp only [Option.getD])))
  (k_with "call type:list" => (k_here; (with_reducible show wpAny _ _ (call (Value.type _) [Value.ref _]) _ _ _); k_dflt (refine copy_own (by first | ((k_asm); done) | fail "no") (by first | ((k_asm); done) | fail "no") (by first | ((k_mem); done) | fail "no") (by first | ((exact sizeLine_big (by omega)); done) | fail "no") ?_; k_whole); intro Dqz cqz hqz Fqz Nqz l1z; (try k_lt l1z); (try k_sweep)))
  (k_with "call type:range" => (k_here; (with_reducible show wpAny _ _ (call (Value.type _) [Value.int _ _]) _ _ _); (rename Fr _ _ _ _ => Fqz); (rename News _ _ _ _ => Nqz); (with_unfolding_all refine range1_rows Fqz Nqz ?_); intro hqz tkqz t1qz u1qz v1qz Rqz Fqz Nqz hkqz))
  (k_with "setItem ref int" => (k_here; k_dflt (refine kda_set (knd := PySem.intKind _ _) (by first | ((k_asm); done) | fail "no") (by first | ((k_asm); done) | fail "no") (by first | ((k_updF); done) | fail "no") (by first | ((assumption); done) | fail "no") (intKind_is _ _ _ _) (by first | ((exact sizeLine_big (by omega)); done) | fail "no") ?_); intro hqz oqz Fqz Nqz hdqz; (try dsimp only at Nqz)))
  (k_with "call builtin:len" => (k_here; (with_reducible show wpAny _ _ (call (Value.builtin "len") [Value.ref _]) _ _ _); k_dflt (refine kda_len (knd := PySem.intKind _ _) (by first | ((k_asm); done) | fail "no") (by first | ((k_mem); done) | fail "no") (by first | ((assumption); done) | fail "no") (by first | ((assumption); done) | fail "no") (by first | ((omega); done) | fail "no") ?_; k_whole)))
  (k_with "compareOp NotIn int ref" => (k_here; k_dflt (refine kdg_notin (knd := PySem.intKind _ _) (by first | ((k_asm); done) | fail "no") (by first | ((k_mem); done) | fail "no") (by first | ((assumption); done) | fail "no") (by first | ((assumption); done) | fail "no") (intKind_is _ _ _ _) _ rfl ?_)))
  (k_with "CompSrcT" => (k_here; k_dflt (first
  | (refine LCt.CompSrcT.range (by rfl) (by first | ((k_asm); done) | fail "no") (by first | ((k_asm); done) | fail "no") (by first | ((assumption); done) | fail "no") (by first | ((exact small_one (by omega) (by omega) (by omega) (by omega)); done) | fail "no") (rs_nat _) (by first | ((exact sizeLine_big (by omega)); done) | fail "no") ?_; intro gqz)
  | (refine LCt.CompSrcT.ledger (by rfl) (by first | ((k_asm); done) | fail "no") (by first | ((k_asm); done) | fail "no") (by first | ((k_mem); done) | fail "no") (by first | ((exact sizeLine_big (by omega)); done) | fail "no") ?_; intro gqz))))
  (k_with "pyIter ref" => (k_here; (with_reducible show wpAny _ _ (pyIter (Value.ref _)) (fun it s₂ => LoopAtV _ _ _ _ _ _ _ _ _ it s₂) _ _); refine Halt.out ?_))
  (k_with "setItem ref str" => (k_here; k_dflt (refine kda_set (knd := PySem.strKind _ _) (by first | ((k_asm); done) | fail "no") (by first | ((k_asm); done) | fail "no") (by first | ((k_updF); done) | fail "no") (by first | ((assumption); done) | fail "no") (strKind_is _ _ _ _) (by first | ((exact sizeLine_big (by omega)); done) | fail "no") ?_); intro hqz oqz Fqz Nqz hdqz; (try dsimp only at Nqz)))
  (k_with "compareOp NotIn str ref" => (k_here; k_dflt (refine kdg_notin (knd := PySem.strKind _ _) (by first | ((k_asm); done) | fail "no") (by first | ((k_mem); done) | fail "no") (by first | ((assumption); done) | fail "no") (by first | ((assumption); done) | fail "no") (strKind_is _ _ _ _) _ rfl ?_)))
  (k_with "compareOp In str ref" => (k_here; k_dflt (refine kda_in (knd := PySem.strKind _ _) (by first | ((k_asm); done) | fail "no") (by first | ((k_mem); done) | fail "no") (by first | ((assumption); done) | fail "no") (by first | ((assumption); done) | fail "no") (strKind_is _ _ _ _) _ rfl ?_)))
  trivial
section
variable {w : World} {loose : List Str} {mean : ExcName → Option Value} {mg mb : Str → Option Value} {dp un : Nat} {gd : Option (List Code)} {cn : Str} {cs : Scope} {a : Addr} {ccd : Value} {cl : List (Str × Addr)} {outer : List Env} {A₀ : Around} {base h₀ : Heap} {L : Addr} {m : Str → Option Value} {news : List (Addr × Obj)} {s : Shared} {Q E : Value → Shared → Prop}
end
section
variable {prog : Program} {w : World} {A : Around} {E : Value → Shared → Prop} {s : Shared} {h₀ : Heap} {L a b : Addr} {news : List (Addr × Obj)} {Q : Value → Shared → Prop} {d : Dat}
theorem eqv_self (ok : kqdOk 8 d = true) : PyData.eqv (kqdP d) (kqdP d) = true := (kqd_eqv 8 d d 8 ok ok).mpr rfl
theorem ne_same (N : News h₀ L s.heap news) (Da : DatIn news (.ref a) d) (Db : DatIn news (.ref b) d) (ok : kqdOk 8 d = true) (hu : A.units + 64 < cLine) (h : Q (.bool false) s) :
    wpAny (model prog w) A (compareOp .NotEq (.ref a) (.ref b)) Q E s := by
  obtain ⟨as, ra⟩ := kqd_in N 8 Da ok
  obtain ⟨bs, rb⟩ := kqd_in N 8 Db ok
  have la := kqd_lay 8 d ok
  have sh : SeqAt.shaped (kqdP d) = true := by unfold SeqAt.shaped; rw [la.1, Bool.true_and]; exact decide_eq_true (Nat.le_trans la.2 (by decide))
  exact ne_dataH ra rb sh sh hu (by rw [eqv_self ok]; exact h)
theorem eq_same (N : News h₀ L s.heap news) (Da : DatIn news (.ref a) d) (Db : DatIn news (.ref b) d) (ok : kqdOk 8 d = true) (hu : A.units + 64 < cLine) (h : Q (.bool true) s) :
    wpAny (model prog w) A (compareOp .Eq (.ref a) (.ref b)) Q E s := by
  obtain ⟨as, ra⟩ := kqd_in N 8 Da ok
  obtain ⟨bs, rb⟩ := kqd_in N 8 Db ok
  have la := kqd_lay 8 d ok
  have sh : SeqAt.shaped (kqdP d) = true := by unfold SeqAt.shaped; rw [la.1, Bool.true_and]; exact decide_eq_true (Nat.le_trans la.2 (by decide))
  exact eq_dataH ra rb sh sh hu (by rw [eqv_self ok]; exact h)
/-- plain values: None, ints, short texts -/
def GoodV (v : Value) : Prop := ∃ d, DatIn [] v d ∧ ∀ n, kqdOk n d = true
theorem GoodV.none : GoodV .none := ⟨.none, .none, fun n => by cases n <;> rfl⟩
theorem GoodV.int (k : Int) (t : Tok) : GoodV (.int k t) := ⟨.int k, .int k t, fun n => by cases n <;> rfl⟩
theorem GoodV.str (x : Str) (t : Tok) (h : PyData.strOk x = true) : GoodV (.str x t) := ⟨.str x, .str x t, fun n => by cases n <;> exact h⟩
theorem good_list : ∀ {us : List Value}, (∀ v ∈ us, GoodV v) → ∃ ds, DatAll [] us ds ∧ ∀ n, ∀ d ∈ ds, kqdOk n d = true
  | [], _ => ⟨[], .nil, fun _ _ h => nomatch h⟩
  | v :: r, h => by
    obtain ⟨d, hd, ok⟩ := h v List.mem_cons_self
    obtain ⟨ds, hds, oks⟩ := good_list fun x hx => h x (List.mem_cons_of_mem _ hx)
    refine ⟨d :: ds, .cons hd hds, fun n x hx => ?_⟩
    rcases List.mem_cons.mp hx with rfl | hx
    · exact ok n
    · exact oks n x hx
theorem good_at {vs : List Value} (h : ∀ v ∈ vs, GoodV v) (o : Option Nat) : GoodV (itemAt vs o) := by
  cases o with
  | none => exact .none
  | some k =>
    show GoodV (vs.getD k Value.none)
    rw [List.getD_eq_getElem?_getD]
    cases e : vs[k]? with
    | none => exact .none
    | some v => exact h v (List.mem_of_getElem? e)
theorem good_map {vs : List Value} (h : ∀ v ∈ vs, GoodV v) (os : List (Option Nat)) : ∀ v ∈ os.map (itemAt vs), GoodV v := fun v hv => by
  obtain ⟨o, _, rfl⟩ := List.mem_map.mp hv
  exact good_at h o
theorem list_dat {l : Addr} {us : List Value} {n : Nat} {ds : List Dat} (hm : (l, listOf us.toArray n) ∈ news) (D : DatAll [] us ds) : DatIn news (.ref l) (.list ds) := .list hm (D.mono (fun _ h => absurd h List.not_mem_nil))
theorem list_ok {ds : List Dat} (h : ∀ n, ∀ d ∈ ds, kqdOk n d = true) (n : Nat) : kqdOk (n + 1) (.list ds) = true := by
  simp only [kqdOk, List.all_eq_true]
  exact fun d hd => h n d hd
theorem dat_sr {vs : List Value} {xs : List Str} (h : Paired SR vs xs) : DatAll [] vs (xs.map Dat.str) := by
  induction h with
  | nil => exact .nil
  | cons hd tl ih =>
    refine .cons ?_ ih
    cases hd with
    | str _ t => exact .str _ t
theorem ok_sr {xs : List Str} (h : ∀ x ∈ xs, PyData.strOk x = true) : ∀ n, ∀ d ∈ xs.map Dat.str, kqdOk n d = true := fun n d hd => by
  obtain ⟨x, hx, rfl⟩ := List.mem_map.mp hd
  cases n <;> exact h x hx
/-- the names of the parts -/
def hname : Nat → Str
  | 0 => Str.ofString "h0"
  | 1 => Str.ofString "h1"
  | 2 => Str.ofString "h2"
  | 3 => Str.ofString "h3"
  | 4 => Str.ofString "h4"
  | _ => Str.ofString "h5"
def hnames (n : Nat) : List Str := (List.range n).map hname
theorem ok_name {n : Nat} (hn : n ≤ 6) (o : Option Nat) : PyData.strOk (nameAt (hnames n) o) = true := by
  have all : ∀ x ∈ [Str.ofString "h0", Str.ofString "h1", Str.ofString "h2", Str.ofString "h3", Str.ofString "h4", Str.ofString "h5", Str.ofString "<NA>"], PyData.strOk x = true := by decide +kernel
  cases o with
  | none => exact all _ (by simp [nameAt])
  | some k =>
    show PyData.strOk ((hnames n).getD k _) = true
    rw [List.getD_eq_getElem?_getD]
    cases e : (hnames n)[k]? with
    | none => exact all _ (by simp)
    | some x =>
      have hx := List.mem_of_getElem? e
      obtain ⟨i, _, rfl⟩ := List.mem_map.mp hx
      refine all _ ?_
      match i with
      | 0 => simp [hname]
      | 1 => simp [hname]
      | 2 => simp [hname]
      | 3 => simp [hname]
      | 4 => simp [hname]
      | _ + 5 => simp [hname]
theorem hnames_len (n : Nat) : (hnames n).length = n := by unfold hnames; rw [List.length_map, List.length_range]
theorem hname_inj {i j : Nat} (hi : i < 6) (hj : j < 6) (h : hname i = hname j) : i = j := by
  have all : ∀ i < 6, ∀ j < 6, hname i = hname j → i = j := by decide +kernel
  exact all i hi j hj h
theorem hname_na {i : Nat} (hi : i < 6) : hname i ≠ Str.ofString "<NA>" := by
  have all : ∀ i < 6, hname i ≠ Str.ofString "<NA>" := by decide +kernel
  exact all i hi
theorem hname_full {i : Nat} (hi : i < 6) : hname i ≠ Str.ofString "" := by
  have all : ∀ i < 6, hname i ≠ Str.ofString "" := by decide +kernel
  exact all i hi
theorem hnames_full {n : Nat} (hn : n ≤ 6) : ∀ x ∈ hnames n, x ≠ Str.ofString "" := fun x hx => by
  obtain ⟨i, hi, rfl⟩ := List.mem_map.mp hx
  exact hname_full (by have := List.mem_range.mp hi; omega)
theorem hnames_get {n k : Nat} (h : k < n) : (hnames n)[k]? = some (hname k) := by
  unfold hnames
  rw [List.getElem?_map, List.getElem?_range h]; rfl
theorem fidx_na {n : Nat} (hn : n ≤ 6) : fidx (hnames n) (Str.ofString "<NA>") = none := by
  unfold fidx
  rw [List.findIdx?_eq_none_iff]
  intro x hx
  obtain ⟨i, hi, rfl⟩ := List.mem_map.mp hx
  exact decide_eq_false (hname_na (by have := List.mem_range.mp hi; omega))
theorem fidx_at {n k : Nat} (hn : n ≤ 6) (h : k < n) : fidx (hnames n) (hname k) = some k := by
  unfold fidx
  rw [List.findIdx?_eq_some_iff_getElem]
  refine ⟨by rw [hnames_len]; exact h, ?_, ?_⟩
  · have := hnames_get h
    rw [List.getElem?_eq_some_iff] at this
    obtain ⟨_, e⟩ := this
    rw [e]; exact decide_eq_true rfl
  · intro j hj
    have h2 := hnames_get (n := n) (k := j) (by omega)
    rw [List.getElem?_eq_some_iff] at h2
    obtain ⟨_, e⟩ := h2
    rw [e]
    simp only [decide_eq_true_eq]
    exact fun q => by have := hname_inj (by omega) (by omega) q; omega
theorem nameAt_none (xs : List Str) : nameAt xs none = Str.ofString "<NA>" := rfl
theorem nameAt_in {n k : Nat} (h : k < n) : nameAt (hnames n) (some k) = hname k := by
  show (hnames n).getD k _ = _
  rw [List.getD_eq_getElem?_getD, hnames_get h]; rfl
theorem nameAt_out {n k : Nat} (h : ¬ k < n) : nameAt (hnames n) (some k) = Str.ofString "<NA>" := by
  show (hnames n).getD k _ = _
  rw [List.getD_eq_getElem?_getD, List.getElem?_eq_none (by rw [hnames_len]; omega)]; rfl
theorem itemAt_out {vs : List Value} {k : Nat} (h : ¬ k < vs.length) : itemAt vs (some k) = Value.none := by
  show vs.getD k _ = _
  rw [List.getD_eq_getElem?_getD, List.getElem?_eq_none (by omega)]; rfl
theorem itemAt_clip {vs : List Value} {n : Nat} (h : vs.length = n) (o : Option Nat) : itemAt vs (clip n o) = itemAt vs o := by
  cases o with
  | none => rfl
  | some k =>
    by_cases hk : k < n
    · rw [clip_in hk]
    · rw [clip_out hk, itemAt_out (by omega)]; rfl
theorem nameAt_clip {n : Nat} (o : Option Nat) : nameAt (hnames n) (clip n o) = nameAt (hnames n) o := by
  cases o with
  | none => rfl
  | some k =>
    by_cases hk : k < n
    · rw [clip_in hk]
    · rw [clip_out hk, nameAt_out hk]; rfl
theorem map_itemAt_clip {vs : List Value} {n : Nat} (h : vs.length = n) (os : List (Option Nat)) : (os.map (clip n)).map (itemAt vs) = os.map (itemAt vs) := by
  rw [List.map_map]; exact List.map_congr_left fun o _ => itemAt_clip h o
theorem map_nameAt_clip {n : Nat} (os : List (Option Nat)) : (os.map (clip n)).map (nameAt (hnames n)) = os.map (nameAt (hnames n)) := by
  rw [List.map_map]; exact List.map_congr_left fun o _ => nameAt_clip o
/-- by the names the same places are found -/
theorem fidx_name {n : Nat} (hn : n ≤ 6) (o : Option Nat) : fidx (hnames n) (nameAt (hnames n) o) = clip n o := by
  cases o with
  | none => exact fidx_na hn
  | some k =>
    by_cases hk : k < n
    · rw [clip_in hk, nameAt_in hk, fidx_at hn hk]
    · rw [clip_out hk, nameAt_out hk, fidx_na hn]
theorem map_fidx {n : Nat} (hn : n ≤ 6) (os : List (Option Nat)) : (os.map (nameAt (hnames n))).map (fidx (hnames n)) = os.map (clip n) := by
  rw [List.map_map]; exact List.map_congr_left fun o _ => fidx_name hn o
/-- a picked text, or None where there is none -/
inductive HR : Value → Str → Prop
  | none : HR Value.none (Str.ofString "<NA>")
  | str (x : Str) (t : Tok) : HR (Value.str x t) x
theorem hr_at {hs : List Value} {n : Nat} (h : Paired SR hs (hnames n)) (o : Option Nat) : HR (itemAt hs o) (nameAt (hnames n) o) := by
  have hl : hs.length = n := by rw [Paired.length h, hnames_len]
  cases o with
  | none => exact .none
  | some k =>
    by_cases hk : k < n
    · obtain ⟨y, hy, hR⟩ := pget h (List.getElem?_eq_getElem (by omega : k < hs.length))
      rw [hnames_get hk] at hy
      cases hy
      rw [nameAt_in hk]
      have e : itemAt hs (some k) = hs[k] := by
        show hs.getD k _ = _
        rw [List.getD_eq_getElem?_getD, List.getElem?_eq_getElem (by omega : k < hs.length)]; rfl
      rw [e]
      generalize hs[k] = v at hR
      cases hR with | str _ t => exact .str _ t
    · rw [itemAt_out (by omega), nameAt_out hk]; exact .none
theorem hr_map {hs : List Value} {n : Nat} (h : Paired SR hs (hnames n)) : ∀ os : List (Option Nat), Paired HR (os.map (itemAt hs)) (os.map (nameAt (hnames n)))
  | [] => .nil
  | o :: r => .cons (hr_at h o) (hr_map h r)
end
section
end
theorem reg24 : True := by
  k_with_none
  (k_with "call builtin:len" => (k_here; (with_reducible show wpAny _ _ (call (Value.builtin "len") [Value.ref _]) _ _ _); k_dflt (refine len_own (by first | ((k_asm); done) | fail "no") (by first | ((k_mem); done) | fail "no") (by first | ((omega); done) | fail "no") ?_; k_whole)))
  (k_with "subscriptTail" => (k_here; (with_reducible show wpAny _ _ (subscriptTail _ _ (Value.ref _) (Value.int _ _)) _ _ _); (with_unfolding_all refine item_own (by first | ((k_asm); done) | fail "no") (by first | ((k_mem); done) | fail "no") (by first | ((omega); done) | fail "no") (by first | ((omega); done) | fail "no") (by first | ((omega); done) | fail "no") ?_ (by first | ((with_unfolding_all rfl); done) | fail "no"); k_whole)))
  (k_with "subscriptTail" => (k_here; (with_reducible show wpAny _ _ (subscriptTail _ _ (Value.ref _) (Value.int (Nat.cast _) _)) _ _ _); (with_unfolding_all refine item_at (by first | ((k_asm); done) | fail "no") (by first | ((k_mem); done) | fail "no") (by first | ((assumption); done) | fail "no") (by first | ((omega); done) | fail "no") ?_ (by first | ((with_unfolding_all rfl); done) | fail "no"); k_whole)))
  (k_with "call builtin:list.append" => (k_here; (with_reducible show wpAny _ _ (call (Value.builtin _) [Value.ref _, _]) _ _ _); k_dflt (refine append_own (by first | ((k_asm); done) | fail "no") (by first | ((k_asm); done) | fail "no") (by first | ((k_upd); done) | fail "no") (by first | ((exact sizeLine_big (by omega)); done) | fail "no") ?_; k_whole); intro hqz Fqz Nqz; (try k_sweep)))
  (k_with "exec For Name Name cons nil" => (k_here; (rename Fr _ _ _ _ => lFqz); (with_unfolding_all refine For_invVF lFqz (by first | ((exact rfl); done) | fail "no") (by first | ((exact rfl); done) | fail "no") ?_; k_whole)))
  (k_with "exec For Name Subscript cons nil" => (k_here; (rename Fr _ _ _ _ => lFqz); (with_unfolding_all refine For_invVF lFqz (by first | ((exact rfl); done) | fail "no") (by first | ((exact rfl); done) | fail "no") ?_; k_whole)))
  (k_with "exec For Name Call cons nil" => (k_here; (rename Fr _ _ _ _ => lFqz); (with_unfolding_all refine For_invVF lFqz (by first | ((exact rfl); done) | fail "no") (by first | ((exact rfl); done) | fail "no") ?_; k_whole)))
  (k_with "getMethod ref" => (k_here; (with_reducible show wpAny _ _ (getMethod (Value.ref _) (PySem.Str.ofString "get") _) _ _ _); k_dflt (refine kdg_method (knd := PySem.strKind _ _) (by k_asm) (by k_mem) (by k_asm) ?_)))
  (k_with "call builtin:dict.get" => (k_here; k_dflt (first
  | refine kdg_get1 (knd := PySem.strKind _ _) (by k_asm) (by k_mem) (by k_asm) (by k_asm) (strKind_is _ _ _ _) (some _) (by rfl) ?_
  | refine kdg_get1 (knd := PySem.strKind _ _) (by k_asm) (by k_mem) (by k_asm) (by k_asm) (strKind_is _ _ _ _) none (by rfl) ?_); (try dsimp only [Option.getD])))
  (k_with "call type:list" => (k_here; (with_reducible show wpAny _ _ (call (Value.type _) [Value.ref _]) _ _ _); k_dflt (refine copy_own (by first | ((k_asm); done) | fail "no") (by first | ((k_asm); done) | fail "no") (by first | ((k_mem); done) | fail "no") (by first | ((exact sizeLine_big (by omega)); done) | fail "no") ?_; k_whole); intro Dqz cqz hqz Fqz Nqz l1z; (try k_lt l1z); (try k_sweep)))
  (k_with "call type:range" => (k_here; (with_reducible show wpAny _ _ (call (Value.type _) [Value.int _ _]) _ _ _); (rename Fr _ _ _ _ => Fqz); (rename News _ _ _ _ => Nqz); (with_unfolding_all refine range1_rows Fqz Nqz ?_); intro hqz tkqz t1qz u1qz v1qz Rqz Fqz Nqz hkqz))
  (k_with "setItem ref int" => (k_here; k_dflt (refine kda_set (knd := PySem.intKind _ _) (by first | ((k_asm); done) | fail "no") (by first | ((k_asm); done) | fail "no") (by first | ((k_updF); done) | fail "no") (by first | ((assumption); done) | fail "no") (intKind_is _ _ _ _) (by first | ((exact sizeLine_big (by omega)); done) | fail "no") ?_); intro hqz oqz Fqz Nqz hdqz; (try dsimp only at Nqz)))
  (k_with "call builtin:len" => (k_here; (with_reducible show wpAny _ _ (call (Value.builtin "len") [Value.ref _]) _ _ _); k_dflt (refine kda_len (knd := PySem.intKind _ _) (by first | ((k_asm); done) | fail "no") (by first | ((k_mem); done) | fail "no") (by first | ((assumption); done) | fail "no") (by first | ((assumption); done) | fail "no") (by first | ((omega); done) | fail "no") ?_; k_whole)))
  (k_with "compareOp NotIn int ref" => (k_here; k_dflt (refine kdg_notin (knd := PySem.intKind _ _) (by first | ((k_asm); done) | fail "no") (by first | ((k_mem); done) | fail "no") (by first | ((assumption); done) | fail "no") (by first | ((assumption); done) | fail "no") (intKind_is _ _ _ _) _ rfl ?_)))
  (k_with "CompSrcT" => (k_here; k_dflt (first
  | (refine LCt.CompSrcT.range (by rfl) (by first | ((k_asm); done) | fail "no") (by first | ((k_asm); done) | fail "no") (by first | ((assumption); done) | fail "no") (by first | ((exact small_one (by omega) (by omega) (by omega) (by omega)); done) | fail "no") (rs_nat _) (by first | ((exact sizeLine_big (by omega)); done) | fail "no") ?_; intro gqz)
  | (refine LCt.CompSrcT.ledger (by rfl) (by first | ((k_asm); done) | fail "no") (by first | ((k_asm); done) | fail "no") (by first | ((k_mem); done) | fail "no") (by first | ((exact sizeLine_big (by omega)); done) | fail "no") ?_; intro gqz))))
  (k_with "pyIter ref" => (k_here; (with_reducible show wpAny _ _ (pyIter (Value.ref _)) (fun it s₂ => LoopAtV _ _ _ _ _ _ _ _ _ it s₂) _ _); refine Halt.out ?_))
  (k_with "setItem ref str" => (k_here; k_dflt (refine kda_set (knd := PySem.strKind _ _) (by first | ((k_asm); done) | fail "no") (by first | ((k_asm); done) | fail "no") (by first | ((k_updF); done) | fail "no") (by first | ((assumption); done) | fail "no") (strKind_is _ _ _ _) (by first | ((exact sizeLine_big (by omega)); done) | fail "no") ?_); intro hqz oqz Fqz Nqz hdqz; (try dsimp only at Nqz)))
  (k_with "compareOp NotIn str ref" => (k_here; k_dflt (refine kdg_notin (knd := PySem.strKind _ _) (by first | ((k_asm); done) | fail "no") (by first | ((k_mem); done) | fail "no") (by first | ((assumption); done) | fail "no") (by first | ((assumption); done) | fail "no") (strKind_is _ _ _ _) _ rfl ?_)))
  (k_with "compareOp In str ref" => (k_here; k_dflt (refine kda_in (knd := PySem.strKind _ _) (by first | ((k_asm); done) | fail "no") (by first | ((k_mem); done) | fail "no") (by first | ((assumption); done) | fail "no") (by first | ((assumption); done) | fail "no") (strKind_is _ _ _ _) _ rfl ?_)))
  trivial
section
variable {w : World} {loose : List Str} {mean : ExcName → Option Value} {mg mb : Str → Option Value} {dp un : Nat} {gd : Option (List Code)} {cn : Str} {cs : Scope} {a : Addr} {ccd : Value} {cl : List (Str × Addr)} {outer : List Env} {A₀ : Around} {base h₀ : Heap} {L : Addr} {m : Str → Option Value} {news : List (Addr × Obj)} {s : Shared} {Q E : Value → Shared → Prop}
theorem reg25 : True := by
  (k_with "call ref" => (k_here; (with_reducible show wpAny _ _ (call (Value.ref 251) _) _ _ _); k_dflt (refine card_at (by first | ((k_asm); done) | fail "no") (by first | ((k_asm); done) | fail "no") (by first | ((k_asm); done) | fail "no") (by first | ((k_asm); done) | fail "no") (by first | ((k_asm); done) | fail "no") (by first | ((first | assumption | exact rfl); done) | fail "no") (by first | ((k_room); done) | fail "no") (by first | ((k_updF); done) | fail "no") (by first | ((assumption); done) | fail "no") (by first | ((assumption); done) | fail "no") (by first | ((omega); done) | fail "no") (by first | ((omega); done) | fail "no") ?_); intro r9z t9z h9z tk9z vs9z ns9z n9z F9z N9z hI9z hl9z hr9z; (try dsimp only at N9z); (try dsimp only); (try k_fold)))
  (k_with "call ref" => (k_here; (with_reducible show wpAny _ _ (call (Value.ref 244) _) _ _ _); k_dflt (refine cards_spec (by first | ((k_asm); done) | fail "no") (by first | ((k_asm); done) | fail "no") (by first | ((k_asm); done) | fail "no") (by first | ((k_asm); done) | fail "no") (by first | ((k_asm); done) | fail "no") (by first | ((first | assumption | exact rfl); done) | fail "no") (by first | ((k_room); done) | fail "no") (by first | ((assumption); done) | fail "no") (by first | ((assumption); done) | fail "no") (by first | ((omega); done) | fail "no") ?_); intro c9z h9z tk9z vs9z ns9z n9z F9z N9z hI9z hl9z hr9z; (try k_lt hr9z); (try dsimp only); (try k_fold)))
  trivial
/-- two ways meet: a name holds one of two texts -/
def JoinEnd (h₀ : Heap) (L : Addr) (m : Str → Option Value) (news : List (Addr × Obj)) (x : Str) (s : Shared) (f : Flow) (s' : Shared) : Prop :=
  f = .next ∧ ∃ kd t h' tk, s' = { s with heap := h', toks := tk } ∧ (kd = Str.ofString "character" ∨ kd = Str.ofString "integer") ∧ Fr h₀ L h' (fun y => if y = x then some (.str kd t) else m y) ∧ News h₀ L h' news
theorem JoinEnd.intro {x kd : Str} {t : Tok} {h' : Heap} {tk : Nat} (hkd : kd = Str.ofString "character" ∨ kd = Str.ofString "integer") (F : Fr h₀ L h' (fun y => if y = x then some (.str kd t) else m y)) (N : News h₀ L h' news) : JoinEnd h₀ L m news x s .next { s with heap := h', toks := tk } := ⟨rfl, kd, t, h', tk, rfl, hkd, F, N⟩
theorem join_of {prog : Program} {A : Around} {env : Env} {st : Stmt} {Q : Flow → Shared → Prop} (x : Str) (F : Fr h₀ L s.heap m) (N : News h₀ L s.heap news)
    (walk : wpAny (model prog w) A (exec st env) (JoinEnd h₀ L m news x s) E s)
    (rest : ∀ kd t h' tk, (kd = Str.ofString "character" ∨ kd = Str.ofString "integer") → Fr h₀ L h' (fun y => if y = x then some (.str kd t) else m y) → News h₀ L h' news → Q .next { s with heap := h', toks := tk }) :
    wpAny (model prog w) A (exec st env) Q E s := by
  refine wpAny_mono walk (fun f s' q => ?_) fun _ _ e => e
  obtain ⟨rfl, kd, t, h', tk, rfl, hkd, F', N'⟩ := q
  exact rest kd t h' tk hkd F' N'
/-- a ledger without one object -/
inductive RemF (c : Addr) (o : Obj) : List (Addr × Obj) → List (Addr × Obj) → Prop
  | head {r : List (Addr × Obj)} : RemF c o ((c, o) :: r) r
  | tail {p : Addr × Obj} {r r' : List (Addr × Obj)} : RemF c o r r' → RemF c o (p :: r) (p :: r')
theorem RemF.mem {c : Addr} {o : Obj} {l l' : List (Addr × Obj)} (h : RemF c o l l') : ∀ p ∈ (c, o) :: l', p ∈ l := by
  induction h with
  | head => exact fun p hp => hp
  | tail h ih =>
    intro p hp
    rcases List.mem_cons.mp hp with rfl | hp
    · exact List.mem_cons_of_mem _ (ih _ List.mem_cons_self)
    · rcases List.mem_cons.mp hp with rfl | hp
      · exact List.mem_cons_self
      · exact List.mem_cons_of_mem _ (ih _ (List.mem_cons_of_mem _ hp))
local macro_rules | `(tactic| k_updF) => `(tactic| first | exact RemF.head | (refine' RemF.tail ?a; (case a => k_updF)))
theorem index_at {c : Addr} {vs : List Value} {ns : List Int} {n sz : Nat} {t : Tok} {news' : List (Addr × Obj)}
    (B : Below A₀ base outer h₀) (F : Fr h₀ L s.heap m) (X : (hd.heap_39 w.params).In h₀) (N : News h₀ L s.heap news) (T : Top hd.view_39 loose mean mg mb h₀) (hk : cs.kind = .function)
    (hdp : dp + 15 < recursionLimit) (hun : un + 500 < cLine) (hR : RemF c (listOf vs.toArray n) news news') (hI : IntsAre vs ns) (hc : ∀ p ∈ news', p.1 ≠ c) (hlen : ns.length ≤ 140) (hsz : sz ≤ 6)
    (ret : ∀ tp x xd il sp ki ti k is os sps nf nf' h' tk', Fr h₀ L h' m → News h₀ L h' ((tp, ({ cls := .type "tuple", data := .seq #[Value.ref x, Value.ref sp] } : Obj)) :: (x, instObj 184 xd) :: (xd, vecD w.params (.str ki ti) (.ref il) .none k) :: (il, listOf is.toArray nf) :: (sp, listOf sps.toArray nf') :: news') →
      IxIs (hnames sz) sz ki is os → Paired OI sps (os.map (clip sz)) → os.length ≤ 500 → Q (.ref tp) { s with heap := h', toks := tk' }) :
    wpAny (model PySem.Challenge.rw_pq1395_01.row.prog w) (ktrTop dp un gd cn cs L a ccd cl outer) (call (.ref 256) [.ref c, .int (sz : Int) t]) Q E s :=
  index_spec B F X (cb_drop N hR.mem) T hk hdp hun hI hc hlen hsz ret
theorem clip_lt {n k : Nat} {os : List (Option Nat)} {i : Nat} (h : (os.map (clip n))[i]? = some (some k)) : k < n := by
  rw [List.getElem?_map] at h
  cases e : os[i]? with
  | none => rw [e] at h; cases h
  | some o =>
    rw [e] at h
    cases o with
    | none => cases h
    | some j =>
      by_cases hj : j < n
      · have h' : some (clip n (some j)) = some (some k) := h
        rw [clip_in hj] at h'; cases h'; exact hj
      · have h' : some (clip n (some j)) = some (some k) := h
        rw [clip_out hj] at h'; cases h'
theorem sr_getD {hs : List Value} {n k : Nat} (h : Paired SR hs (hnames n)) (hk : k < n) : SR (hs.getD ((k : Int)).toNat Value.none) (nameAt (hnames n) (some k)) := by
  have hl : hs.length = n := by rw [Paired.length h, hnames_len]
  obtain ⟨y, hy, hR⟩ := pget h (List.getElem?_eq_getElem (by omega : k < hs.length))
  rw [hnames_get hk] at hy
  cases hy
  rw [nameAt_in hk, Int.toNat_natCast, List.getD_eq_getElem?_getD, List.getElem?_eq_getElem (by omega : k < hs.length)]
  exact hR
theorem hnames_again {fs : List Value} {n : Nat} {os : List (Option Nat)} (hn : n ≤ 6) (h : Paired SR fs (((os.map (nameAt (hnames n))).map (fidx (hnames n))).map (nameAt (hnames n)))) : Paired SR fs (os.map (nameAt (hnames n))) := by
  rw [map_fidx hn, map_nameAt_clip] at h; exact h
theorem items_again {vs : List Value} {n : Nat} {os : List (Option Nat)} (hv : vs.length = n) (hn : n ≤ 6) : ((os.map (nameAt (hnames n))).map (fidx (hnames n))).map (itemAt vs) = os.map (itemAt vs) := by
  rw [map_fidx hn, map_itemAt_clip hv]
theorem hnames_succ (i : Nat) : hnames (i + 1) = hnames i ++ [hname i] := by
  unfold hnames; rw [List.range_succ, List.map_append]; rfl
theorem okS {x : Str} (h : PyData.strOk x = true) (n : Nat) : kqdOk n (.str x) = true := by cases n <;> exact h
theorem okN (n : Nat) : kqdOk n .none = true := by cases n <;> rfl
theorem okL {ds : List Dat} (h : ∀ n, ∀ d ∈ ds, kqdOk n d = true) (n : Nat) : kqdOk (n + 1) (.list ds) = true := list_ok h n
theorem okT {ds : List Dat} {n : Nat} (h : ds.all (kqdOk n) = true) : kqdOk (n + 1) (.tuple ds) = true := by rw [kqdOk]; exact h
theorem okA {ds : List Dat} {n : Nat} (h : ds.all (kqdOk n) = true) : kqdOk (n + 1) (.list ds) = true := by rw [kqdOk]; exact h
theorem okC {d : Dat} {ds : List Dat} {n : Nat} (h : kqdOk n d = true) (h' : ds.all (kqdOk n) = true) : (d :: ds).all (kqdOk n) = true := by rw [List.all_cons, h, h']; rfl
theorem okKd {kd : Str} (h : kd = Str.ofString "character" ∨ kd = Str.ofString "integer") : PyData.strOk kd = true := by
  rcases h with rfl | rfl <;> decide +kernel
theorem okNm : PyData.strOk (Str.ofString "names") = true := by decide +kernel
abbrev tupO (vs : List Value) : Obj := { cls := .type "tuple", data := .seq vs.toArray }
theorem tup_dat {c : Addr} {vs : List Value} {ds : List Dat} (hm : (c, tupO vs) ∈ news) (D : DatAll news vs ds) : DatIn news (.ref c) (.tuple ds) := .tuple hm D
section cmp
variable {prog : Program} {A : Around} {a b : Addr} {us us' : List Value} {n n' : Nat} {ds : List Dat}
theorem ne_list (N : News h₀ L s.heap news) (ha : (a, listOf us.toArray n) ∈ news) (hb : (b, listOf us'.toArray n') ∈ news) (Da : DatAll [] us ds) (Db : DatAll [] us' ds) (ok : ∀ n, ∀ d ∈ ds, kqdOk n d = true) (hu : A.units + 64 < cLine) (h : Q (.bool false) s) :
    wpAny (model prog w) A (compareOp .NotEq (.ref a) (.ref b)) Q E s := ne_same N (list_dat ha Da) (list_dat hb Db) (okL ok 7) hu h
theorem ne_text {x : Str} {t t' : Tok} (N : News h₀ L s.heap news) (ha : (a, listOf [Value.str x t].toArray n) ∈ news) (hb : (b, listOf [Value.str x t'].toArray n') ∈ news) (hx : PyData.strOk x = true) (hu : A.units + 64 < cLine) (h : Q (.bool false) s) :
    wpAny (model prog w) A (compareOp .NotEq (.ref a) (.ref b)) Q E s :=
  ne_same (d := .list [.str x]) N (.list ha (.cons (.str x t) .nil)) (.list hb (.cons (.str x t') .nil)) (okA (n := 7) (okC (okS hx 7) List.all_nil)) hu h
theorem ne_pair {x : Str} {t t' : Tok} {l l' : Addr} (N : News h₀ L s.heap news) (ha : (a, tupO [.str x t, .ref l]) ∈ news) (hb : (b, tupO [.str x t', .ref l']) ∈ news) (hl : (l, listOf us.toArray n) ∈ news) (hl' : (l', listOf us'.toArray n') ∈ news) (Da : DatAll [] us ds) (Db : DatAll [] us' ds) (hx : PyData.strOk x = true) (ok : ∀ n, ∀ d ∈ ds, kqdOk n d = true) (hu : A.units + 64 < cLine) (h : Q (.bool false) s) :
    wpAny (model prog w) A (compareOp .NotEq (.ref a) (.ref b)) Q E s :=
  ne_same (d := .tuple [.str x, .list ds]) N (tup_dat ha (.cons (.str x t) (.cons (list_dat hl Da) .nil))) (tup_dat hb (.cons (.str x t') (.cons (list_dat hl' Db) .nil))) (okT (n := 7) (okC (okS hx 7) (okC (okL ok 6) List.all_nil))) hu h
theorem ne_trip {x : Str} {t t' : Tok} {l l' : Addr} (N : News h₀ L s.heap news) (ha : (a, tupO [.str x t, .ref l, .none]) ∈ news) (hb : (b, tupO [.str x t', .ref l', .none]) ∈ news) (hl : (l, listOf us.toArray n) ∈ news) (hl' : (l', listOf us'.toArray n') ∈ news) (Da : DatAll [] us ds) (Db : DatAll [] us' ds) (hx : PyData.strOk x = true) (ok : ∀ n, ∀ d ∈ ds, kqdOk n d = true) (hu : A.units + 64 < cLine) (h : Q (.bool false) s) :
    wpAny (model prog w) A (compareOp .NotEq (.ref a) (.ref b)) Q E s :=
  ne_same (d := .tuple [.str x, .list ds, .none]) N (tup_dat ha (.cons (.str x t) (.cons (list_dat hl Da) (.cons .none .nil)))) (tup_dat hb (.cons (.str x t') (.cons (list_dat hl' Db) (.cons .none .nil)))) (okT (n := 7) (okC (okS hx 7) (okC (okL ok 6) (okC (okN 7) List.all_nil)))) hu h
theorem eq_four {l1 l2 l3 m1 m2 m3 : Addr} {hs hs' : List Value} {n1 n2 n3 k1 k2 k3 : Nat} {ds₂ : List Dat} (N : News h₀ L s.heap news) (ha : (a, tupO [.ref l1, .ref l2, .ref l3, .none]) ∈ news) (hb : (b, tupO [.ref m1, .ref m2, .ref m3, .none]) ∈ news)
    (h1 : (l1, listOf us.toArray n1) ∈ news) (h2 : (l2, listOf hs.toArray n2) ∈ news) (h3 : (l3, listOf us.toArray n3) ∈ news) (g1 : (m1, listOf us.toArray k1) ∈ news) (g2 : (m2, listOf hs'.toArray k2) ∈ news) (g3 : (m3, listOf us.toArray k3) ∈ news) (D : DatAll [] us ds) (D₂ : DatAll [] hs ds₂) (D₂' : DatAll [] hs' ds₂) (ok : ∀ n, ∀ d ∈ ds, kqdOk n d = true) (ok₂ : ∀ n, ∀ d ∈ ds₂, kqdOk n d = true) (hu : A.units + 64 < cLine) (h : Q (.bool true) s) :
    wpAny (model prog w) A (compareOp .Eq (.ref a) (.ref b)) Q E s :=
  eq_same (d := .tuple [.list ds, .list ds₂, .list ds, .none]) N (tup_dat ha (.cons (list_dat h1 D) (.cons (list_dat h2 D₂) (.cons (list_dat h3 D) (.cons .none .nil))))) (tup_dat hb (.cons (list_dat g1 D) (.cons (list_dat g2 D₂') (.cons (list_dat g3 D) (.cons .none .nil))))) (okT (n := 7) (okC (okL ok 6) (okC (okL ok₂ 6) (okC (okL ok 6) (okC (okN 7) List.all_nil))))) hu h
end cmp
theorem reg26 : True := by
  (k_with "compareOp NotEq ref ref" => (k_here; (with_reducible show wpAny _ _ (compareOp CmpOp.NotEq (Value.ref _) (Value.ref _)) _ _ _); k_dflt (refine ne_text (by first | ((k_asm); done) | fail "no") (by first | (((repeat (first | exact List.mem_cons_self | refine List.mem_cons_of_mem _ ?_))); done) | fail "no") (by first | (((repeat (first | exact List.mem_cons_self | refine List.mem_cons_of_mem _ ?_))); done) | fail "no") (by first | ((exact okNm); done) | fail "no") (by first | ((first | units_room | exact Nat.le_of_ble_eq_true rfl); done) | fail "no") ?_)))
  (k_with "compareOp NotEq ref ref" => (k_here; (with_reducible show wpAny _ _ (compareOp CmpOp.NotEq (Value.ref _) (Value.ref _)) _ _ _); k_dflt (refine ne_list (by first | ((k_asm); done) | fail "no") (by first | (((repeat (first | exact List.mem_cons_self | refine List.mem_cons_of_mem _ ?_))); done) | fail "no") (by first | (((repeat (first | exact List.mem_cons_self | refine List.mem_cons_of_mem _ ?_))); done) | fail "no") (by first | ((assumption); done) | fail "no") (by first | ((assumption); done) | fail "no") (by first | ((assumption); done) | fail "no") (by first | ((first | units_room | exact Nat.le_of_ble_eq_true rfl); done) | fail "no") ?_)))
  (k_with "compareOp NotEq ref ref" => (k_here; (with_reducible show wpAny _ _ (compareOp CmpOp.NotEq (Value.ref _) (Value.ref _)) _ _ _); k_dflt (refine ne_pair (by first | ((k_asm); done) | fail "no") (by first | (((repeat (first | exact List.mem_cons_self | refine List.mem_cons_of_mem _ ?_))); done) | fail "no") (by first | (((repeat (first | exact List.mem_cons_self | refine List.mem_cons_of_mem _ ?_))); done) | fail "no") (by first | (((repeat (first | exact List.mem_cons_self | refine List.mem_cons_of_mem _ ?_))); done) | fail "no") (by first | (((repeat (first | exact List.mem_cons_self | refine List.mem_cons_of_mem _ ?_))); done) | fail "no") (by first | ((assumption); done) | fail "no") (by first | ((assumption); done) | fail "no") (by first | ((exact okKd (by assumption)); done) | fail "no") (by first | ((assumption); done) | fail "no") (by first | ((first | units_room | exact Nat.le_of_ble_eq_true rfl); done) | fail "no") ?_)))
  (k_with "compareOp NotEq ref ref" => (k_here; (with_reducible show wpAny _ _ (compareOp CmpOp.NotEq (Value.ref _) (Value.ref _)) _ _ _); k_dflt (refine ne_trip (by first | ((k_asm); done) | fail "no") (by first | (((repeat (first | exact List.mem_cons_self | refine List.mem_cons_of_mem _ ?_))); done) | fail "no") (by first | (((repeat (first | exact List.mem_cons_self | refine List.mem_cons_of_mem _ ?_))); done) | fail "no") (by first | (((repeat (first | exact List.mem_cons_self | refine List.mem_cons_of_mem _ ?_))); done) | fail "no") (by first | (((repeat (first | exact List.mem_cons_self | refine List.mem_cons_of_mem _ ?_))); done) | fail "no") (by first | ((assumption); done) | fail "no") (by first | ((assumption); done) | fail "no") (by first | ((exact okKd (by assumption)); done) | fail "no") (by first | ((assumption); done) | fail "no") (by first | ((first | units_room | exact Nat.le_of_ble_eq_true rfl); done) | fail "no") ?_)))
  (k_with "compareOp Eq ref ref" => (k_here; (with_reducible show wpAny _ _ (compareOp CmpOp.Eq (Value.ref _) (Value.ref _)) _ _ _); k_dflt (refine eq_four (by first | ((k_asm); done) | fail "no") (by first | (((repeat (first | exact List.mem_cons_self | refine List.mem_cons_of_mem _ ?_))); done) | fail "no") (by first | (((repeat (first | exact List.mem_cons_self | refine List.mem_cons_of_mem _ ?_))); done) | fail "no") (by first | (((repeat (first | exact List.mem_cons_self | refine List.mem_cons_of_mem _ ?_))); done) | fail "no") (by first | (((repeat (first | exact List.mem_cons_self | refine List.mem_cons_of_mem _ ?_))); done) | fail "no") (by first | (((repeat (first | exact List.mem_cons_self | refine List.mem_cons_of_mem _ ?_))); done) | fail "no") (by first | (((repeat (first | exact List.mem_cons_self | refine List.mem_cons_of_mem _ ?_))); done) | fail "no") (by first | (((repeat (first | exact List.mem_cons_self | refine List.mem_cons_of_mem _ ?_))); done) | fail "no") (by first | (((repeat (first | exact List.mem_cons_self | refine List.mem_cons_of_mem _ ?_))); done) | fail "no") (by first | ((assumption); done) | fail "no") (by first | ((assumption); done) | fail "no") (by first | ((assumption); done) | fail "no") (by first | ((assumption); done) | fail "no") (by first | ((assumption); done) | fail "no") (by first | ((first | units_room | exact Nat.le_of_ble_eq_true rfl); done) | fail "no") ?_)))
  (k_with "CompEnd" => (k_here; refine Halt.out ?_))
  (k_with "CompSrc" => (k_here; k_dflt (first
  | (refine LCg.CompSrc.range (by rfl) (by first | ((k_asm); done) | fail "no") (by first | ((k_asm); done) | fail "no") (by first | ((assumption); done) | fail "no") (by first | ((exact small_one (by omega) (by omega) (by omega) (by omega)); done) | fail "no") (by first | ((first | with_reducible exact rs_nat _ | with_reducible exact rs_one _); done) | fail "no") (by first | ((exact sizeLine_big (by omega)); done) | fail "no") ?_; intro gqz; refine Halt.out ?_)
  | (refine LCg.CompSrc.ledger (by rfl) (by first | ((k_asm); done) | fail "no") (by first | ((k_asm); done) | fail "no") (by first | ((k_mem); done) | fail "no") (by first | ((exact sizeLine_big (by simp only [List.size_toArray, List.length_map]; omega)); done) | fail "no") ?_; intro gqz; refine Halt.out ?_))))
  (k_with "call ref" => (k_here; (with_reducible show wpAny _ _ (call (Value.ref 256) _) _ _ _); k_dflt (refine index_at (by first | ((k_asm); done) | fail "no") (by first | ((k_asm); done) | fail "no") (by first | ((k_asm); done) | fail "no") (by first | ((k_asm); done) | fail "no") (by first | ((k_asm); done) | fail "no") (by first | ((first | assumption | exact rfl); done) | fail "no") (by first | ((k_room); done) | fail "no") (by first | ((exact Nat.le_of_ble_eq_true rfl); done) | fail "no") (by first | ((k_updF); done) | fail "no") (by first | ((assumption); done) | fail "no") (by first | ((k_all); done) | fail "no") (by first | ((assumption); done) | fail "no") (by first | ((omega); done) | fail "no") ?_); intro tp9z x9z xd9z il9z sp9z ki9z ti9z kk9z is9z os9z sps9z nf9z nf9qz h9z tk9z F9z N9z hX9z hS9z hO9z; (have hSl9z := Paired.length hS9z); (simp only [List.length_map] at hSl9z); (try dsimp only); (try k_sweep); (try k_fold)))
  (k_with "call ref" => (k_here; (with_reducible show wpAny _ _ (call (Value.ref 184) [_, _, _]) _ _ _); k_dflt (refine vec3_spec (by first | ((k_asm); done) | fail "no") (by first | ((k_asm); done) | fail "no") (by first | ((k_asm); done) | fail "no") (by first | ((k_asm); done) | fail "no") (by first | ((k_asm); done) | fail "no") (by first | ((first | assumption | exact rfl); done) | fail "no") (by first | ((k_room); done) | fail "no") ?_); intro x9z d9z kk9z h9z tk9z F9z N9z l1z l2z; (try k_lt l1z); (try k_lt2 l2z); (try dsimp only); (try k_sweep); (try k_fold)))
  (k_with "call ref" => (k_here; (with_reducible show wpAny _ _ (call (Value.ref 184) [_, _]) _ _ _); k_dflt (refine vec2_spec (by first | ((k_asm); done) | fail "no") (by first | ((k_asm); done) | fail "no") (by first | ((k_asm); done) | fail "no") (by first | ((k_asm); done) | fail "no") (by first | ((k_asm); done) | fail "no") (by first | ((first | assumption | exact rfl); done) | fail "no") (by first | ((k_room); done) | fail "no") ?_); intro x9z d9z kk9z h9z tk9z F9z N9z l1z l2z; (try k_lt l1z); (try k_lt2 l2z); (try dsimp only); (try k_sweep); (try k_fold)))
  (k_with "subscriptTail" => (k_here; (with_reducible show wpAny _ _ (subscriptTail _ _ (Value.ref _) (Value.str _ _)) _ _ _); k_dflt (refine kdt_tail (knd := PySem.strKind _ _) (by k_asm) (by ((repeat (first | exact List.mem_cons_self | refine List.mem_cons_of_mem _ ?_)); done)) (by assumption) ?_)))
  (k_with "getItem ref str" => (k_here; k_dflt (refine kdt_getItem (knd := PySem.strKind _ _) (by k_asm) (by ((repeat (first | exact List.mem_cons_self | refine List.mem_cons_of_mem _ ?_)); done)) (by assumption) (strKind_is _ _ _ _) (by rfl) ?_)))
  (k_with "call type:list" => (k_here; (with_reducible show wpAny _ _ (call (Value.type _) [Value.ref _]) _ _ _); k_dflt (refine kdl_list_keysS (by first | ((rfl); done) | fail "no") (by first | ((k_asm); done) | fail "no") (by first | ((k_asm); done) | fail "no") (by first | (((repeat (first | exact List.mem_cons_self | refine List.mem_cons_of_mem _ ?_))); done) | fail "no") (by first | ((assumption); done) | fail "no") (by first | ((assumption); done) | fail "no") (by first | ((exact Nat.le_of_ble_eq_true rfl); done) | fail "no") ?_); intro Dqz cqz hqz tkqz; (dsimp only [KdlKeysS]); intro tqz Fqz Nqz l1z; (try k_lt l1z)))
  (k_with "call ref" => (k_here; (with_reducible show wpAny _ _ (call (Value.ref 237) _) _ _ _); k_dflt (refine subset_bare (by first | ((k_asm); done) | fail "no") (by first | ((k_asm); done) | fail "no") (by first | ((k_asm); done) | fail "no") (by first | ((k_asm); done) | fail "no") (by first | ((k_asm); done) | fail "no") (by first | ((first | assumption | exact rfl); done) | fail "no") (by first | ((k_room); done) | fail "no") (by first | (((repeat (first | exact List.mem_cons_self | refine List.mem_cons_of_mem _ ?_))); done) | fail "no") (by first | (((repeat (first | exact List.mem_cons_self | refine List.mem_cons_of_mem _ ?_))); done) | fail "no") (by first | (((repeat (first | exact List.mem_cons_self | refine List.mem_cons_of_mem _ ?_))); done) | fail "no") (by first | ((first | assumption | exact .inl rfl); done) | fail "no") (by first | ((omega); done) | fail "no") (by first | (((repeat (first | exact List.mem_cons_self | refine List.mem_cons_of_mem _ ?_))); done) | fail "no") (by first | (((repeat (first | exact List.mem_cons_self | refine List.mem_cons_of_mem _ ?_))); done) | fail "no") (by first | (((repeat (first | exact List.mem_cons_self | refine List.mem_cons_of_mem _ ?_))); done) | fail "no") (by first | ((assumption); done) | fail "no") (by first | ((omega); done) | fail "no") ?_); intro r9z rd9z f9z t9z kk9z h9z tk9z nf9z F9z N9z; (try dsimp only); (try k_sweep); (try k_fold)))
  (k_with "call ref" => (k_here; (with_reducible show wpAny _ _ (call (Value.ref 237) _) _ _ _); k_dflt (refine subset_named (by first | ((k_asm); done) | fail "no") (by first | ((k_asm); done) | fail "no") (by first | ((k_asm); done) | fail "no") (by first | ((k_asm); done) | fail "no") (by first | ((k_asm); done) | fail "no") (by first | ((first | assumption | exact rfl); done) | fail "no") (by first | ((k_room); done) | fail "no") (by first | (((repeat (first | exact List.mem_cons_self | refine List.mem_cons_of_mem _ ?_))); done) | fail "no") (by first | (((repeat (first | exact List.mem_cons_self | refine List.mem_cons_of_mem _ ?_))); done) | fail "no") (by first | (((repeat (first | exact List.mem_cons_self | refine List.mem_cons_of_mem _ ?_))); done) | fail "no") (by first | ((assumption); done) | fail "no") (by first | ((omega); done) | fail "no") (by first | (((repeat (first | exact List.mem_cons_self | refine List.mem_cons_of_mem _ ?_))); done) | fail "no") (by first | ((assumption); done) | fail "no") (by first | ((assumption); done) | fail "no") (by first | (((repeat (first | exact List.mem_cons_self | refine List.mem_cons_of_mem _ ?_))); done) | fail "no") (by first | (((repeat (first | exact List.mem_cons_self | refine List.mem_cons_of_mem _ ?_))); done) | fail "no") (by first | (((repeat (first | exact List.mem_cons_self | refine List.mem_cons_of_mem _ ?_))); done) | fail "no") (by first | ((assumption); done) | fail "no") (by first | (((rw [hnames_len]; omega)); done) | fail "no") (by first | (((repeat (first | exact List.mem_cons_self | refine List.mem_cons_of_mem _ ?_))); done) | fail "no") (by first | (((repeat (first | exact List.mem_cons_self | refine List.mem_cons_of_mem _ ?_))); done) | fail "no") (by first | (((repeat (first | exact List.mem_cons_self | refine List.mem_cons_of_mem _ ?_))); done) | fail "no") (by first | ((exact .inl (by assumption)); done) | fail "no") (by first | ((omega); done) | fail "no") (by first | ((exact hnames_full (by omega)); done) | fail "no") ?_); intro r9z rd9z f9z ad9z oad9z nv9z nd9z nl9z t9z tn9z kk9z kk9qz h9z tk9z nf9z nf9qz fs9z F9z N9z hd9z hlo9z hp9z; (have hdp9z := dat_sr hp9z); (try dsimp only); (try k_sweep); (try k_fold)))
  (k_with "call ref" => (k_here; (with_reducible show wpAny _ _ (call (Value.ref 237) _) _ _ _); k_dflt (refine subset_named (by first | ((k_asm); done) | fail "no") (by first | ((k_asm); done) | fail "no") (by first | ((k_asm); done) | fail "no") (by first | ((k_asm); done) | fail "no") (by first | ((k_asm); done) | fail "no") (by first | ((first | assumption | exact rfl); done) | fail "no") (by first | ((k_room); done) | fail "no") (by first | (((repeat (first | exact List.mem_cons_self | refine List.mem_cons_of_mem _ ?_))); done) | fail "no") (by first | (((repeat (first | exact List.mem_cons_self | refine List.mem_cons_of_mem _ ?_))); done) | fail "no") (by first | (((repeat (first | exact List.mem_cons_self | refine List.mem_cons_of_mem _ ?_))); done) | fail "no") (by first | ((assumption); done) | fail "no") (by first | ((omega); done) | fail "no") (by first | (((repeat (first | exact List.mem_cons_self | refine List.mem_cons_of_mem _ ?_))); done) | fail "no") (by first | ((assumption); done) | fail "no") (by first | ((assumption); done) | fail "no") (by first | (((repeat (first | exact List.mem_cons_self | refine List.mem_cons_of_mem _ ?_))); done) | fail "no") (by first | (((repeat (first | exact List.mem_cons_self | refine List.mem_cons_of_mem _ ?_))); done) | fail "no") (by first | (((repeat (first | exact List.mem_cons_self | refine List.mem_cons_of_mem _ ?_))); done) | fail "no") (by first | ((assumption); done) | fail "no") (by first | (((rw [hnames_len]; omega)); done) | fail "no") (by first | (((repeat (first | exact List.mem_cons_self | refine List.mem_cons_of_mem _ ?_))); done) | fail "no") (by first | (((repeat (first | exact List.mem_cons_self | refine List.mem_cons_of_mem _ ?_))); done) | fail "no") (by first | (((repeat (first | exact List.mem_cons_self | refine List.mem_cons_of_mem _ ?_))); done) | fail "no") (by first | ((exact .inr ⟨rfl, _, (by assumption), (by rw [List.length_map]; omega), rfl⟩); done) | fail "no") (by first | (((rw [List.length_map, List.length_map]; omega)); done) | fail "no") (by first | ((exact hnames_full (by omega)); done) | fail "no") ?_); intro r9z rd9z f9z ad9z oad9z nv9z nd9z nl9z t9z tn9z kk9z kk9qz h9z tk9z nf9z nf9qz fs9z F9z N9z hd9z hlo9z hp9z; (have hq9z := hnames_again (by omega) hp9z); (have hdp9z := dat_sr hq9z); (rw [items_again rfl (by omega)] at N9z); (try dsimp only); (try k_sweep); (try k_fold)))
  (k_with "execs cons" => (k_here; (with_reducible show wpAny _ _ (execs (Stmt.Assign [Expr.Name (Str.ofString "sort_of") _] _ _ :: _) _) _ _ _); refine Halt.out ?_))
  trivial
theorem sr_head {i : Nat} {t : Tok} (h : i < 6) : SR (Value.str (Str.ofString "h" ++ Str.ofString (toString ((0 : Int) + (i : Int)))) t) (hname i) := by
  have all : ∀ i < 6, (Str.ofString "h" ++ Str.ofString (toString ((0 : Int) + ((i : Nat) : Int)))) = hname i := by decide +kernel
  rw [all i h]; exact .str _ _
theorem ok_letters {r : Nat} (h : (r : Int) < 9) : PyData.strOk (Txt.slice (Str.ofString "letters") none (some (r : Int))) = true := by
  have all : ∀ r < 9, PyData.strOk (Txt.slice (Str.ofString "letters") none (some ((r : Nat) : Int))) = true := by decide +kernel
  exact all r (by omega)
theorem good_snoc {vs : List Value} {v : Value} (h : ∀ x ∈ vs, GoodV x) (hv : GoodV v) : ∀ x ∈ vs ++ [v], GoodV x := fun x hx => by
  rcases List.mem_append.mp hx with hx | hx
  · exact h x hx
  · rw [List.mem_singleton.mp hx]; exact hv
set_option maxHeartbeats 8000000 in
theorem law_holds : PySem.Challenge.rw_pq1395_01.Holds := hd rfl rfl rfl (by
  w_on
  w_strict (
    k_go0
    (all_goals try k_fold)
    k_steps
    rename News _ _ _ _ => N1
    rename Fr _ _ _ _ => F1
    rename IsRange _ _ _ _ _ _ _ _ => R1
    refine Halt.mk ?_
    with_unfolding_all refine lp_range (σ := List Value × Nat × List Value × List Int × Nat) (rest := [(_, _), (_, _)]) (fun c9 => [(_, listOf c9.1.toArray c9.2.1), (_, listOf c9.2.2.1.toArray c9.2.2.2.2)]) (fun _ => []) [Str.ofString "draw"] (fun i c9 => (∀ v ∈ c9.1, GoodV v) ∧ c9.1.length = i ∧ IntsAre c9.2.2.1 c9.2.2.2.1 ∧ c9.2.2.2.1.length ≤ 140) _ ([], 0, _, _, _) rfl R1 (small_one (by omega) (by omega) (by omega) (by omega)) (rs_nat _) rfl F1 N1 (fun _ => rfl) (off2_of (by first | k_all | fail "off") (by first | k_all | fail "off")) (fun _ hp => nomatch hp) ⟨(fun _ h => absurd h List.not_mem_nil), rfl, by assumption, by assumption⟩ ?turn ?done
    case turn =>
      clear F1 N1
      intro i ti c9 nx u h9 tk9 hi hsub hoff hP F2 N2
      obtain ⟨hP1, hP2, hP3, hP4⟩ := hP
      have hoff1 := off2_l hoff
      have hoff2 := off2_r hoff
      have hm1 := hsub _ List.mem_cons_self
      have hm2 := hsub _ (List.mem_cons_of_mem _ List.mem_cons_self)
      have hcl : c9.1.length ≤ 1000 := by omega
      simp only [List.cons_append, List.nil_append] at N2
      k_unmd
      k_fold
      k_steps
      all_goals refine LpEnd.intro (_, _, _, _, _) (by assumption) (by assumption) (fun _ hp => nomatch hp) (by kst_same) ⟨?_, by dsimp only; rw [List.length_append, hP2]; rfl, by assumption, by assumption⟩
      · exact good_snoc hP1 .none
      · exact good_snoc hP1 (.str _ _ (ok_letters (by omega)))
      · exact good_snoc hP1 (.int _ _)
    case done =>
      clear F1 N1
      intro c9 u h9 tk9 hP F2 N2
      obtain ⟨hP1, hP2, hP3, hP4⟩ := hP
      have hcl : c9.1.length ≤ 1000 := by omega
      simp only [List.cons_append, List.nil_append] at N2
      dsimp only
      k_steps
      refine Halt.mk ?_
      subst hP2
      with_reducible refine wpAny_execs_cons ?_
      refine join_of (Str.ofString "sort_of") F2 N2 ?walk ?rest
      case walk =>
        k_steps
        · exact JoinEnd.intro (.inl rfl) (by assumption) (by assumption)
        · exact JoinEnd.intro (.inr rfl) (by assumption) (by assumption)
      case rest =>
        clear F2 N2
        intro kd tkd h9 tk9 hkd F2 N2
        dsimp only
        k_steps
        refine Halt.mk ?_
        with_unfolding_all refine cr_of (n := c9.1.length) (fun i ys nx => nx = _ ∧ Paired SR ys (hnames i)) ?turn ?fin c9.1.length 0 [] _ (Nat.zero_add _) ⟨rfl, .nil⟩
        case turn =>
          intro i ys nx v I oI C oC D m₂ h9 tk9 E9 hi hJ hv9 hC hx F9 N9 off ne
          obtain ⟨rfl, hY⟩ := hJ
          obtain ⟨t9, rfl⟩ := hv9
          rw [hnames_succ]
          k_unmd
          k_fold
          k_steps
          refine Halt.mk ?_
          refine LCg.CompEnd.intro (by assumption) (by assumption) _ (fun p hp => hp) off trivial ⟨rfl, ?_⟩
          exact Paired.snoc hY (sr_head (by omega))
        case fin =>
          intro hs nx hJ
          obtain ⟨rfl, hH⟩ := hJ
          have hlH : hs.length = c9.1.length := by rw [Paired.length hH, hnames_len]
          k_steps
          refine Halt.mk ?_
          rename List (Option Nat) => os
          rename IxIs _ _ _ _ _ => hX
          rename Paired OI _ _ => hS
          rename List.length os ≤ 500 => hO
          obtain ⟨dsE, hdE, hokE⟩ := good_list (good_map hP1 os)
          have hokS := ok_sr (xs := os.map (nameAt (hnames c9.1.length))) (fun x hx => by
            obtain ⟨o, _, rfl⟩ := List.mem_map.mp hx
            exact ok_name (by omega) o)
          have hXh := hX
          rw [← hlH] at hXh
          obtain ⟨dsV, hdV, hokV⟩ := good_list hP1
          have hdH := dat_sr hH
          have hokH := ok_sr (xs := hnames c9.1.length) (fun x hx => by
            obtain ⟨i, hi, rfl⟩ := List.mem_map.mp hx
            have := ok_name (n := c9.1.length) (by omega) (some i)
            rw [nameAt_in (List.mem_range.mp hi)] at this
            exact this)
          have hSl := Paired.length hS
          rw [List.length_map] at hSl
          with_unfolding_all refine cr_of (fun i ys nx => nx = _ ∧ ys = ((os.map (clip c9.1.length)).take i).map (itemAt c9.1)) ?turn ?fin _ 0 [] _ (Nat.zero_add _) ⟨rfl, rfl⟩
          case turn =>
            intro i ys nx v I oI C oC D m₂ h9 tk9 E9 hi hJ hv9 hC hx F9 N9 off ne
            obtain ⟨rfl, hY⟩ := hJ
            obtain ⟨o, ho, hO'⟩ := pget hS (by simpa using hv9)
            k_unmd
            k_fold
            cases hO' with
            | none =>
              k_steps
              refine Halt.mk ?_
              refine LCg.CompEnd.intro (by assumption) (by assumption) _ (fun p hp => hp) off (.inr ⟨_, by k_mem, rfl, _, rfl⟩) ⟨rfl, ?_⟩
              rw [take_map_succ _ ho, hY]; rfl
            | int k tk =>
              have hk := clip_lt ho
              k_steps
              refine Halt.mk ?_
              refine LCg.CompEnd.intro (by assumption) (by assumption) _ (fun p hp => hp) off (.inr ⟨_, by k_mem, rfl, _, rfl⟩) ⟨rfl, ?_⟩
              rw [take_map_succ _ ho, hY]; rfl
          case fin =>
            intro ys nx hJ
            obtain ⟨rfl, hY⟩ := hJ
            rw [List.take_of_length_le (by rw [List.length_map]; simp only [List.size_toArray]; omega), map_itemAt_clip rfl] at hY
            subst hY
            k_steps
            refine Halt.mk ?_
            with_unfolding_all refine cr_of (fun i ys nx => nx = _ ∧ Paired SR ys (((os.map (clip c9.1.length)).take i).map (nameAt (hnames c9.1.length)))) ?turn ?fin _ 0 [] _ (Nat.zero_add _) ⟨rfl, .nil⟩
            case turn =>
              intro i ys nx v I oI C oC D m₂ h9 tk9 E9 hi hJ hv9 hC hx F9 N9 off ne
              obtain ⟨rfl, hY⟩ := hJ
              obtain ⟨o, ho, hO'⟩ := pget hS (by simpa using hv9)
              k_unmd
              k_fold
              cases hO' with
              | none =>
                k_steps
                refine Halt.mk ?_
                refine LCg.CompEnd.intro (by assumption) (by assumption) _ (fun p hp => hp) off (.inr ⟨_, by k_mem, rfl, _, rfl⟩) ⟨rfl, ?_⟩
                rw [take_map_succ _ ho]; exact Paired.snoc hY (.str _ _)
              | int k tk =>
                have hk := clip_lt ho
                k_steps
                refine Halt.mk ?_
                refine LCg.CompEnd.intro (by assumption) (by assumption) _ (fun p hp => hp) off (.inr ⟨_, by k_mem, rfl, _, rfl⟩) ⟨rfl, ?_⟩
                rw [take_map_succ _ ho]; exact Paired.snoc hY (sr_getD hH hk)
            case fin =>
              intro hd nx hJ
              obtain ⟨rfl, hY⟩ := hJ
              rw [List.take_of_length_le (by rw [List.length_map]; simp only [List.size_toArray]; omega), map_nameAt_clip] at hY
              have hdY := dat_sr hY
              have hlY := Paired.length hY
              rw [List.length_map] at hlY
              k_steps
              refine Halt.mk ?_
              with_unfolding_all refine cr_of (fun i ys nx => nx = _ ∧ Paired SR ys ((os.map (nameAt (hnames c9.1.length))).take i)) ?turn ?fin _ 0 [] _ (Nat.zero_add _) ⟨rfl, .nil⟩
              case turn =>
                intro i ys nx v I oI C oC D m₂ h9 tk9 E9 hi hJ hv9 hC hx F9 N9 off ne
                obtain ⟨rfl, hY⟩ := hJ
                obtain ⟨o, ho, hO'⟩ := pget (hr_map hH os) (by simpa using hv9)
                k_unmd
                k_fold
                cases hO' with
                | none =>
                  k_steps
                  refine Halt.mk ?_
                  refine LCg.CompEnd.intro (by assumption) (by assumption) _ (fun p hp => hp) off (.inr ⟨_, by k_mem, rfl, _, rfl⟩) ⟨rfl, ?_⟩
                  rw [take_snoc' ho]; exact Paired.snoc hY (.str _ _)
                | str _ tk =>
                  k_steps
                  refine Halt.mk ?_
                  refine LCg.CompEnd.intro (by assumption) (by assumption) _ (fun p hp => hp) off (.inr ⟨_, by k_mem, rfl, _, rfl⟩) ⟨rfl, ?_⟩
                  rw [take_snoc' ho]; exact Paired.snoc hY (.str _ _)
              case fin =>
                intro ys nx hJ
                obtain ⟨rfl, hZ⟩ := hJ
                rw [List.take_of_length_le (by rw [List.length_map]; simp only [List.size_toArray, List.length_map]; omega)] at hZ
                have hdZ := dat_sr hZ
                k_steps))
end
end Mine
theorem PySem.Challenge.cw_pq1395_01_holds : PySem.Challenge.rw_pq1395_01.Holds := by
  exact Mine.law_holds
