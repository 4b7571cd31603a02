import PyProof.Rows.All
import Wide.All
import OpenK.AllK
import Wide.FinOn
import Lean
import PySem.Challenge.RW_xm0036_01
open PySem PySem.W PyProof.Rows PySem.Spec PySem.Calls PyProof.Rows.LCg PyProof.Rows.LCt
set_option Elab.async false
set_option linter.all false
set_option maxRecDepth 100000
namespace Mine

section
set_option maxRecDepth 100000 in
set_option maxHeartbeats 8000000 in
open_top hd for PySem.Challenge.rw_xm0036_01
end

section
abbrev Led := List (Addr × Obj)
section
variable {prog : Program} {w : World} {A : Around} {E : Value → Shared → Prop} {s : Shared} {env : Env} {h₀ : Heap} {x : Str} {body : List Stmt} {Q : Flow → Shared → Prop}

/-- the end of a turn of a loop: what is kept, what the ledger holds -/
def EndX (h₀ : Heap) (L : Addr) (keep : Led) (J : (Str → Option Value) → Led → Prop) (I : Addr) (it : Obj) (s₁ s₂ : Shared) : Prop :=
  ∃ h' tk m' news' nx, s₂ = { s₁ with heap := h', toks := tk } ∧ Fr h₀ L h' m' ∧ News h₀ L h' news' ∧ (I, it) ∈ news' ∧ (∀ p ∈ nx, p ∈ news') ∧ (∀ p ∈ nx, p.1 ≠ I) ∧ (∀ p ∈ keep, p ∈ nx) ∧ J m' nx
def PostX (h₀ : Heap) (L : Addr) (keep : Led) (J : (Str → Option Value) → Led → Prop) (I : Addr) (it : Obj) (s₁ : Shared) (Q : Flow → Shared → Prop) (f : Flow) (s₂ : Shared) : Prop :=
  match f with
  | .ret v => Q (.ret v) s₂
  | .brk => Q .next s₂
  | _ => EndX h₀ L keep J I it s₁ s₂
theorem EndX.intro {L I : Addr} {it : Obj} {keep news' : Led} {J : (Str → Option Value) → Led → Prop} {m' : Str → Option Value} {s₁ : Shared} {h' : Heap} {tk : Nat} (nx : Led)
    (F : Fr h₀ L h' m') (N : News h₀ L h' news') (hI : (I, it) ∈ news') (hs : ∀ p ∈ nx, p ∈ news') (ho : ∀ p ∈ nx, p.1 ≠ I) (hk : ∀ p ∈ keep, p ∈ nx) (hj : J m' nx) :
    EndX h₀ L keep J I it s₁ { s₁ with heap := h', toks := tk } := ⟨h', tk, m', news', nx, rfl, F, N, hI, hs, ho, hk, hj⟩

theorem loop_obj {I : Addr} {fp : List Addr} {n : Nat} {P : Nat → Value → Prop} {St : Nat → Heap → Prop} {keep news : Led} {m₀ : Str → Option Value} (J : Nat → (Str → Option Value) → Led → Prop)
    (ci : String) (W : Walks prog w A I fp [I] n P St) (hIf : I ∈ fp) (hfp : ∀ b ∈ fp, b = I ∨ ∃ o, (b, o) ∈ keep) (hIo : ∀ i h, St i h → ∃ o, h.get? I = some o ∧ o.cls = .type ci)
    (hLf : env.locals ∉ fp) (hI0 : h₀.get? I = none) (hst : St 0 s.heap) (F : Fr h₀ env.locals s.heap m₀) (N : News h₀ env.locals s.heap news)
    (hoff : ∀ p ∈ news, p.1 ≠ I) (hk : ∀ p ∈ keep, p ∈ news) (hj : J 0 m₀ news)
    (turn : ∀ i v m₁ nx h tk it, it.cls = .type ci → i < n → P i v → (∀ p ∈ nx, p.1 ≠ I) → (∀ p ∈ keep, p ∈ nx) → J i m₁ nx → Fr h₀ env.locals h (fun y => if y = x then some v else m₁ y) → News h₀ env.locals h ((I, it) :: nx) →
      wpAny (model prog w) A (execs body env) (PostX h₀ env.locals keep (J (i + 1)) I it { s with heap := h, toks := tk } Q) E { s with heap := h, toks := tk })
    (done : ∀ m₁ nx h tk, (∀ p ∈ keep, p ∈ nx) → J n m₁ nx → Fr h₀ env.locals h m₁ → News h₀ env.locals h nx → Q .next { s with heap := h, toks := tk }) :
    LoopAtV prog w A h₀ env x body Q E (.ref I) s := by
  refine ⟨I, fp, [I], n, P, St, m₀, news, (fun i m nx => (∀ p ∈ keep, p ∈ nx) ∧ J i m nx), rfl, W, hLf, ?_, ?_, hst, F, N, ⟨hk, hj⟩, ?_, ?_⟩
  · intro b hb; rw [List.mem_singleton.mp hb]; exact hI0
  · intro p hp hq; exact hoff p hp (List.mem_singleton.mp hq)
  · rintro i v m₁ nx s₁ own ⟨hh, tk, rfl⟩ hin hP ⟨hkn, hJ⟩ hoffn hown hget hall hst' F₁ N₁
    obtain ⟨oI, hoI, hcI⟩ := hIo _ _ hst'
    have hmem : (I, oI) ∈ own := hall I hIf hI0 oI hoI
    have N₂ : News h₀ env.locals hh ((I, oI) :: nx) := fun p hp => by
      rcases List.mem_cons.mp hp with rfl | hp
      · exact N₁ _ (List.mem_append_left _ hmem)
      · exact N₁ _ (List.mem_append_right _ hp)
    refine wpAny_mono (turn i v m₁ nx hh tk oI hcI hin hP (fun p hp hq => hoffn p hp (List.mem_singleton.mpr hq)) hkn hJ F₁ N₂) (fun f s₂ p => ?_) fun _ _ e => e
    have fin : EndX h₀ env.locals keep (J (i + 1)) I oI { s with heap := hh, toks := tk } s₂ → LoopStepU h₀ env.locals [I] own (fun m nx => (∀ p ∈ keep, p ∈ nx) ∧ J (i + 1) m nx) { s with heap := hh, toks := tk } .next s₂ := by
      rintro ⟨h', tk', m', news', nx', e, F', N', hI', hs', ho', hk', hj'⟩
      refine ⟨rfl, h', tk', m', nx', e, F', fun p hp => ?_, fun p hp hq => ho' p hp (List.mem_singleton.mp hq), hk', hj'⟩
      rcases List.mem_append.mp hp with hp | hp
      · rcases hfp p.1 (hown p hp) with e1 | ⟨o, ho⟩
        · have h2 : hh.get? p.1 = some p.2 := hget p hp
          have h3 : p = (I, oI) := by
            rw [e1, hoI] at h2
            exact Prod.ext e1 (Option.some.inj h2).symm
          rw [h3]; exact N' _ hI'
        · have h2 : hh.get? p.1 = some p.2 := hget p hp
          have h4 : hh.get? p.1 = some o := (N₁ _ (List.mem_append_right _ (hkn _ ho))).1
          have h3 : p = (p.1, o) := by
            rw [h4] at h2
            exact Prod.ext rfl (Option.some.inj h2).symm
          rw [h3]; exact N' _ (hs' _ (hk' _ ho))
      · exact N' _ (hs' p hp)
    cases f with
    | ret v => exact .ret p
    | brk => exact .brk p
    | next => exact .next (fin p)
    | cont => exact .cont (fin p)
  · rintro h' tk m' nx' F' N' _ ⟨hk', hj'⟩
    exact done m' nx' h' tk hk' hj' F' N'

theorem iter_list {l : Addr} {lo : Obj} {vs : List Value} {k : Nat} {m₀ : Str → Option Value} {news : Led} (J : Nat → (Str → Option Value) → Led → Prop)
    (hh : A.handled = none) (hl : (l, lo) ∈ news) (hc : lo.cls = .type "list") (hd : lo.data = .seq vs.toArray k) (F : Fr h₀ env.locals s.heap m₀) (N : News h₀ env.locals s.heap news) (hj : J 0 m₀ news)
    (turn : ∀ i v m₁ nx h tk I it, it.cls = .type "list_iterator" → vs[i]? = some v → (∀ p ∈ nx, p.1 ≠ I) → (l, lo) ∈ nx → J i m₁ nx → Fr h₀ env.locals h (fun y => if y = x then some v else m₁ y) → News h₀ env.locals h ((I, it) :: nx) →
      wpAny (model prog w) A (execs body env) (PostX h₀ env.locals [(l, lo)] (J (i + 1)) I it { s with heap := h, toks := tk } Q) E { s with heap := h, toks := tk })
    (done : ∀ m₁ nx h tk, (l, lo) ∈ nx → J vs.length m₁ nx → Fr h₀ env.locals h m₁ → News h₀ env.locals h nx → Q .next { s with heap := h, toks := tk }) :
    wpAny (model prog w) A (pyIter (.ref l)) (fun it s₂ => LoopAtV prog w A h₀ env x body Q E it s₂) E s := by
  have hol : s.heap.get? l = some lo := (N _ hl).1
  have hls : s.heap.IsList l vs.toArray := ⟨_, hol, hc, k, hd⟩
  have hne : l ≠ s.heap.objs.size := Nat.ne_of_lt (Heap.lt_size hol)
  refine wpAny_pyIter_list hls ?_
  have W := Walks.list (prog := prog) (w := w) hh s.heap.objs.size l hne vs.toArray
  have hlen : vs.toArray.size = vs.length := by simp
  rw [hlen] at W
  refine loop_obj (keep := [(l, lo)]) (news := news) (m₀ := m₀) J "list_iterator" W (List.mem_cons_self) (fun b hb => ?_) (fun i h st => by obtain ⟨o, e, e2, _⟩ := st.1; exact ⟨o, e, e2⟩) ?_ (next_is_new F)
    ⟨⟨_, Heap.get?_push_size _ rfl, rfl, rfl⟩, hls.at fun o e => Heap.get?_push_of_some _ e⟩ (F.push _) (fun p hp => ⟨Heap.get?_push_of_some _ (N p hp).1, (N p hp).2⟩)
    (fun p hp => Nat.ne_of_lt (Heap.lt_size (N p hp).1)) (fun p hp => by rw [List.mem_singleton.mp hp]; exact hl) hj ?_ ?_
  · rcases List.mem_cons.mp hb with e | hb
    · exact .inl e
    · exact .inr ⟨lo, by rw [List.mem_singleton.mp hb]; exact List.mem_cons_self⟩
  · intro hm
    rcases List.mem_cons.mp hm with e | hm
    · exact absurd F.ns.lt (e ▸ Nat.lt_irrefl _)
    · exact (N _ hl).2.1 (List.mem_singleton.mp hm).symm
  · intro i v m₁ nx h tk it hci hi hP hoff hk hJ F₁ N₁
    exact turn i v m₁ nx h tk _ it hci (by simpa using hP) hoff (hk _ List.mem_cons_self) hJ F₁ N₁
  · intro m₁ nx h tk hk hJ F₁ N₁
    exact done m₁ nx h tk (hk _ List.mem_cons_self) hJ F₁ N₁

theorem iter_tup {l : Addr} {lo : Obj} {vs : List Value} {k : Nat} {m₀ : Str → Option Value} {news : Led} (J : Nat → (Str → Option Value) → Led → Prop)
    (hh : A.handled = none) (hl : (l, lo) ∈ news) (hc : lo.cls = .type "tuple") (hd : lo.data = .seq vs.toArray k) (F : Fr h₀ env.locals s.heap m₀) (N : News h₀ env.locals s.heap news) (hj : J 0 m₀ news)
    (turn : ∀ i v m₁ nx h tk I it, it.cls = .type "tuple_iterator" → vs[i]? = some v → (∀ p ∈ nx, p.1 ≠ I) → (l, lo) ∈ nx → J i m₁ nx → Fr h₀ env.locals h (fun y => if y = x then some v else m₁ y) → News h₀ env.locals h ((I, it) :: nx) →
      wpAny (model prog w) A (execs body env) (PostX h₀ env.locals [(l, lo)] (J (i + 1)) I it { s with heap := h, toks := tk } Q) E { s with heap := h, toks := tk })
    (done : ∀ m₁ nx h tk, (l, lo) ∈ nx → J vs.length m₁ nx → Fr h₀ env.locals h m₁ → News h₀ env.locals h nx → Q .next { s with heap := h, toks := tk }) :
    wpAny (model prog w) A (pyIter (.ref l)) (fun it s₂ => LoopAtV prog w A h₀ env x body Q E it s₂) E s := by
  have hol : s.heap.get? l = some lo := (N _ hl).1
  have hls : s.heap.IsTuple l vs.toArray := ⟨_, hol, hc, k, hd⟩
  have hne : l ≠ s.heap.objs.size := Nat.ne_of_lt (Heap.lt_size hol)
  refine wpAny_pyIter_tuple hls ?_
  have W := Walks.tuple (prog := prog) (w := w) hh s.heap.objs.size l hne vs.toArray
  have hlen : vs.toArray.size = vs.length := by simp
  rw [hlen] at W
  refine loop_obj (keep := [(l, lo)]) (news := news) (m₀ := m₀) J "tuple_iterator" W (List.mem_cons_self) (fun b hb => ?_) (fun i h st => by obtain ⟨o, e, e2, _⟩ := st.1; exact ⟨o, e, e2⟩) ?_ (next_is_new F)
    ⟨⟨_, Heap.get?_push_size _ rfl, rfl, rfl⟩, hls.at fun o e => Heap.get?_push_of_some _ e⟩ (F.push _) (fun p hp => ⟨Heap.get?_push_of_some _ (N p hp).1, (N p hp).2⟩)
    (fun p hp => Nat.ne_of_lt (Heap.lt_size (N p hp).1)) (fun p hp => by rw [List.mem_singleton.mp hp]; exact hl) hj ?_ ?_
  · rcases List.mem_cons.mp hb with e | hb
    · exact .inl e
    · exact .inr ⟨lo, by rw [List.mem_singleton.mp hb]; exact List.mem_cons_self⟩
  · intro hm
    rcases List.mem_cons.mp hm with e | hm
    · exact absurd F.ns.lt (e ▸ Nat.lt_irrefl _)
    · exact (N _ hl).2.1 (List.mem_singleton.mp hm).symm
  · intro i v m₁ nx h tk it hci hi hP hoff hk hJ F₁ N₁
    exact turn i v m₁ nx h tk _ it hci (by simpa using hP) hoff (hk _ List.mem_cons_self) hJ F₁ N₁
  · intro m₁ nx h tk hk hJ F₁ N₁
    exact done m₁ nx h tk (hk _ List.mem_cons_self) hJ F₁ N₁

theorem iter_range {r : Addr} {a₀ b₀ : Int} {t₀ u₀ v₀ : Tok} {n : Nat} {m₀ : Str → Option Value} {news : Led} (J : Nat → (Str → Option Value) → Led → Prop)
    (hh : A.handled = none) (hr : IsRange s.heap r a₀ b₀ 1 t₀ u₀ v₀) (hsmall : Builtin.Range.small a₀ b₀ 1 = true) (hn : Builtin.Range.rangeSize a₀ b₀ 1 = (n : Int)) (F : Fr h₀ env.locals s.heap m₀) (N : News h₀ env.locals s.heap news) (hj : J 0 m₀ news)
    (turn : ∀ i t m₁ nx h tk I it, it.cls = .type "range_iterator" → i < n → (∀ p ∈ nx, p.1 ≠ I) → J i m₁ nx → Fr h₀ env.locals h (fun y => if y = x then some (.int (a₀ + (i : Int)) t) else m₁ y) → News h₀ env.locals h ((I, it) :: nx) →
      wpAny (model prog w) A (execs body env) (PostX h₀ env.locals [] (J (i + 1)) I it { s with heap := h, toks := tk } Q) E { s with heap := h, toks := tk })
    (done : ∀ m₁ nx h tk, J n m₁ nx → Fr h₀ env.locals h m₁ → News h₀ env.locals h nx → Q .next { s with heap := h, toks := tk }) :
    wpAny (model prog w) A (pyIter (.ref r)) (fun it s₂ => LoopAtV prog w A h₀ env x body Q E it s₂) E s := by
  refine wpAny_pyIter_range hr hsmall ?_
  have W : Walks prog w A s.heap.objs.size [s.heap.objs.size] [s.heap.objs.size] n (fun i v => i < n ∧ ∃ t, v = .int (a₀ + i * 1) t)
      (fun i h => IsRangeIter h s.heap.objs.size (a₀ + (i : Nat) * 1) ((n : Int) - (i : Nat)) 1) := (Walks.range hh _ a₀ 1 n).bound
  refine loop_obj (keep := []) (news := news) (m₀ := m₀) J "range_iterator" W List.mem_cons_self (fun b hb => .inl (List.mem_singleton.mp hb)) (fun i h st => ⟨_, st, rfl⟩) ?_ (next_is_new F)
    (by show IsRangeIter _ _ _ _ _; rw [hn]; simpa using Heap.get?_push_size _ rfl) (F.push _) (fun p hp => ⟨Heap.get?_push_of_some _ (N p hp).1, (N p hp).2⟩)
    (fun p hp => Nat.ne_of_lt (Heap.lt_size (N p hp).1)) (fun p hp => nomatch hp) hj ?_ ?_
  · intro hm
    exact absurd F.ns.lt ((List.mem_singleton.mp hm) ▸ Nat.lt_irrefl _)
  · rintro i v m₁ nx h tk it hci hi ⟨_, t, rfl⟩ hoff hk hJ F₁ N₁
    rw [Int.mul_one] at F₁
    exact turn i t m₁ nx h tk _ it hci hi hoff hJ F₁ N₁
  · intro m₁ nx h tk hk hJ F₁ N₁
    exact done m₁ nx h tk hJ F₁ N₁
end
end

section
section
variable {prog : Program} {w : World} {A : Around} {E : Value → Shared → Prop} {s : Shared} {h₀ : Heap} {L : Addr} {m : Str → Option Value} {env : Env}

theorem endMono {s₁ s₂ : Shared} {I C D : Addr} {oI oC oD : Obj} {S : Led → Prop} {rest rest' : Value → Led → Prop} {y : Value} (hr : ∀ nw, rest y nw → rest' y nw)
    (h : CompEnd h₀ L m s₁ I oI C oC D oD S rest y s₂) : CompEnd h₀ L m s₁ I oI C oC D oD S rest' y s₂ := by
  obtain ⟨h', tk, nw, e, F, N, off, hS, r⟩ := h
  exact ⟨h', tk, nw, e, F, N, off, hS, hr nw r⟩

theorem compT_inv {ct elt : Expr} {x : Str} {scope : Scope} {cl : List (Str × Addr)} {S : Led → Prop} {P : Nat → Value → Prop} {Fin : List Value → Led → Prop} {n : Nat} {news : Led} (Jv : Nat → List Value → Led → Prop)
    (h0 : Jv 0 [] news)
    (turn : ∀ i ys news, i < n → Jv i ys news → ∀ v I oI C oC D m₂ h tk (E' : Value → Shared → Prop), P i v → NsObj oC m₂ → m₂ x = some v → Fr h₀ L h m → News h₀ L h ((I, oI) :: (C, oC) :: (D, lst ys) :: news) → Off3 I C D news → ((@Ne Nat I C) ∧ (@Ne Nat I D) ∧ (@Ne Nat C D)) →
      wpAny (model prog w) A (isTrue ct (compEnvC scope cl C env) (eval ct (compEnvC scope cl C env))) (fun ok s' => if ok = true then
        wpAny (model prog w) A (eval elt (compEnvC scope cl C env)) (CompEnd h₀ L m { s with heap := h, toks := tk } I oI C oC D (lst ys) S (fun y news' => Jv (i + 1) (ys ++ [y]) news')) E' s'
        else CompEnd h₀ L m { s with heap := h, toks := tk } I oI C oC D (lst ys) S (fun _ news' => Jv (i + 1) ys news') Value.none s') E' { s with heap := h, toks := tk })
    (fin : ∀ ys news, Jv n ys news → Fin ys news) : CompRestT prog w A h₀ L m env ct elt x scope cl s S P Fin n 0 [] news := by
  have all : ∀ k i ys news, i + k = n → Jv i ys news → CompRestT prog w A h₀ L m env ct elt x scope cl s S P Fin k i ys news := by
    intro k
    induction k with
    | zero => intro i ys news e hj; exact CompRestT.zero (fin ys news (by have e' : i = n := e; exact e' ▸ hj))
    | succ k ih =>
      intro i ys news e hj
      refine CompRestT.succ fun v I oI C oC D m₂ h tk E' hP hC hx F N off ne => ?_
      refine wpAny_mono (turn i ys news (by omega) hj v I oI C oC D m₂ h tk E' hP hC hx F N off ne) (fun ok s' h' => ?_) fun _ _ e => e
      cases ok with
      | true =>
        simp only [if_true] at h' ⊢
        exact wpAny_mono h' (fun y s₃ h₃ => endMono (fun nw r => ih (i + 1) _ _ (by omega) r) h₃) fun _ _ e => e
      | false =>
        simp only [Bool.false_eq_true, if_false] at h' ⊢
        exact endMono (fun nw r => ih (i + 1) _ _ (by omega) r) h'
  exact all n 0 [] news (Nat.zero_add n) h0

theorem comp_inv {elt : Expr} {x : Str} {scope : Scope} {cl : List (Str × Addr)} {S : Led → Prop} {P : Nat → Value → Prop} {Fin : List Value → Led → Prop} {n : Nat} {news : Led} (Jv : Nat → List Value → Led → Prop)
    (h0 : Jv 0 [] news)
    (turn : ∀ i ys news, i < n → Jv i ys news → ∀ v I oI C oC D m₂ h tk (E' : Value → Shared → Prop), P i v → NsObj oC m₂ → m₂ x = some v → Fr h₀ L h m → News h₀ L h ((I, oI) :: (C, oC) :: (D, lst ys) :: news) → Off3 I C D news → ((@Ne Nat I C) ∧ (@Ne Nat I D) ∧ (@Ne Nat C D)) →
      wpAny (model prog w) A (eval elt (compEnvC scope cl C env)) (CompEnd h₀ L m { s with heap := h, toks := tk } I oI C oC D (lst ys) S (fun y news' => Jv (i + 1) (ys ++ [y]) news')) E' { s with heap := h, toks := tk })
    (fin : ∀ ys news, Jv n ys news → Fin ys news) : CompRest prog w A h₀ L m env elt x scope cl s S P Fin n 0 [] news := by
  have all : ∀ k i ys news, i + k = n → Jv i ys news → CompRest prog w A h₀ L m env elt x scope cl s S P Fin k i ys news := by
    intro k
    induction k with
    | zero => intro i ys news e hj; exact CompRest.zero (fin ys news (by have e' : i = n := e; exact e' ▸ hj))
    | succ k ih =>
      intro i ys news e hj
      refine CompRest.succ fun v I oI C oC D m₂ h tk E' hP hC hx F N off ne => ?_
      exact wpAny_mono (turn i ys news (by omega) hj v I oI C oC D m₂ h tk E' hP hC hx F N off ne) (fun y s₃ h₃ => endMono (fun nw r => ih (i + 1) _ _ (by omega) r) h₃) fun _ _ e => e
  exact all n 0 [] news (Nat.zero_add n) h0

/-- the source of a comprehension is a tuple of the ledger -/
def SrcTup (prog : Program) (w : World) (A : Around) (h₀ : Heap) (L : Addr) (m : Str → Option Value) (env : Env) (ct elt : Expr) (x : Str) (scope : Scope) (cl : List (Str × Addr)) (Fin : Shared → List Value → Led → Prop) (xv : Value) (s₁ : Shared) : Prop :=
  ∃ ax lo vs k news, xv = .ref ax ∧ A.handled = none ∧ Fr h₀ L s₁.heap m ∧ News h₀ L s₁.heap news ∧ (ax, lo) ∈ news ∧ lo.cls = .type "tuple" ∧ lo.data = .seq (List.toArray vs) k ∧ vs.length ≤ sizeLine ∧
    ∀ s₂ : Shared, (∃ h, s₂ = { s₁ with heap := h }) → CompRestT prog w A h₀ L m env ct elt x scope cl s₂ (fun nw => (ax, lo) ∈ nw) (fun i v => vs[i]? = some v) (Fin s₂) vs.length 0 [] news

theorem ListComp_tup {ct elt iter : Expr} {x : Str} {px : Pos} {scope : Scope} {cl : List (Str × Addr)} {pos : Pos} {Q : Value → Shared → Prop} (F₀ : Fr h₀ L s.heap m)
    (hclos : closureFor scope env = pure cl) (hcell : ∀ y ∈ scope.names, y.2 ≠ .cell) (hkind : scope.kind = .function)
    (hnames : ∀ y ∈ scope.names, y.2 = .local → scope.names.lookup y.1 = some .local) (hx : scope.names.lookup x = some .local)
    (h : wpAny (model prog w) A (eval iter env) (SrcTup prog w A h₀ L m env ct elt x scope cl (fun s₂ => FinE h₀ L m s₂ Q)) E s)
    (hs : ∀ x, foldedSetIterable iter env x = pure x) :
    wpAny (model prog w) A (eval (.ListComp elt [⟨.Name x px, iter, [ct], 0⟩] scope pos) env) Q E s := by
  rw [eval_ListComp]
  refine wpAny_comprehension_free (use := none) rfl hs hclos hkind hnames (wpAny_mono h (fun xv s₁ h₁ => ?_) fun _ _ e => e)
  obtain ⟨ax, lo, vs, k, news, rfl, hh, F, N, hm, hc, hd, hsz, R⟩ := h₁
  have hol : s₁.heap.get? ax = some lo := (N _ hm).1
  have hl : s₁.heap.IsTuple ax vs.toArray := ⟨_, hol, hc, k, hd⟩
  have hlt : ax < s₁.heap.objs.size := Heap.lt_size hol
  refine wpAny_pyIter_tuple hl ?_
  have up : ∀ b o, s₁.heap.get? b = some o → (s₁.heap.push { cls := .type "tuple_iterator", data := .fields #[.ref ax, .int 0 0] }).get? b = some o := fun b o e => Heap.get?_push_of_some _ e
  have W := Walks.tuple (prog := prog) (w := w) hh s₁.heap.objs.size ax (Nat.ne_of_lt hlt) vs.toArray
  have hlen : vs.toArray.size = vs.length := by simp
  rw [hlen] at W
  have W' : Walks prog w A s₁.heap.objs.size [s₁.heap.objs.size, ax] [s₁.heap.objs.size] vs.length (fun i v => vs[i]? = some v) (fun i h => h.IsTupleIter s₁.heap.objs.size ax i ∧ h.IsTuple ax vs.toArray) :=
    { sub := W.sub, frame := W.frame, done := W.done, self := W.self,
      item := fun i s Q E hi st hQ => W.item i s Q E hi st fun v h' tk hP => hQ v h' tk (by simpa using hP) }
  refine block_T W' hsz (fun i h st => by obtain ⟨o, e, _⟩ := st.1; exact ⟨o, e⟩) (fun i h h' o nw st e e' k' N' S' => ?_) hcell hkind hx ⟨⟨_, Heap.get?_push_size _ rfl, rfl, rfl⟩, hl.at fun o e => Heap.get?_push_of_some _ e⟩ (fun b hb => ?_)
      (F.keeps up) (N.grown up) (Nat.ne_of_lt F.ns.lt) (next_is_new F) (fun p hp => Nat.ne_of_lt (Heap.lt_size (N p hp).1)) hm (R _ ⟨_, rfl⟩) ?_
  · refine ⟨by obtain ⟨o', q, r⟩ := st.1; rw [e] at q; cases q; exact ⟨o, e', r⟩, ?_⟩
    exact ⟨_, (N' _ S').1, hc, k, hd⟩
  · show b < (s₁.heap.push _).objs.size
    rw [Heap.size_push]
    rcases List.mem_cons.mp hb with rfl | hb
    · exact Nat.lt_succ_self _
    · rw [List.mem_singleton.mp hb]; exact Nat.lt_succ_of_lt hlt
  · intro D C h tk m' ys news' F' N' o1 hn hC₀ hD₀ hCL hDL hCD offC fin
    refine ⟨m', hn, fun h'' hs'' => fin D h'' tk (F'.change hs'' hCL hC₀) (fun p hp => ?_) o1⟩
    refine ⟨hs''.extBut _ _ ?_ (N' p hp).1, (N' p hp).2⟩
    rcases List.mem_cons.mp hp with rfl | hp
    · exact Ne.symm hCD
    · exact offC p hp
end
theorem compEnd_same {h₀ : Heap} {L I C D : Addr} {m : Str → Option Value} {s₁ : Shared} {oI oC oD : Obj} {S : Led → Prop} {rest : Value → Led → Prop} {y : Value} {h' : Heap} {tk : Nat} {news' : Led}
    (F : Fr h₀ L h' m) (N : News h₀ L h' ((I, oI) :: (C, oC) :: (D, oD) :: news')) (off : Off3 I C D news') (hS : S news') (r : rest y news') :
    CompEnd h₀ L m s₁ I oI C oC D oD S rest y { s₁ with heap := h', toks := tk } := ⟨h', tk, news', rfl, F, N, off, hS, r⟩
end

section
/-- what a call of the def at f on vs gives back, over any ledger -/
def Says (w : World) (mean : ExcName → Option Value) (mg mb : Str → Option Value) (f : Addr) (vs : List Value) (news : Led) (cost : Nat) (ok : Value → Led → Prop) : Prop :=
  ∀ (dp un : Nat) (gd : Option (List Code)) (cn : Str) (cs : Scope) (a : Addr) (ccd : Value) (cl : List (Str × Addr)) (outer : List Env) (A₀ : Around) (base h₀ : Heap) (L : Addr) (m : Str → Option Value) (s : Shared) (Q E : Value → Shared → Prop),
    Below A₀ base outer h₀ → Fr h₀ L s.heap m → (hd.heap_39 w.params).In h₀ → News h₀ L s.heap news → Top hd.view_39 (looseW hd.view_39 [Str.ofString "BasicError"]) mean mg mb h₀ → cs.kind = .function →
    dp + cost < recursionLimit → un + 8 * cost < cLine →
    (∀ (r : Value) (tl : Led) (h' : Heap) (tk' : Nat), Fr h₀ L h' m → News h₀ L h' (tl ++ news) → ok r tl → Q r { s with heap := h', toks := tk' }) →
    wpAny (model PySem.Challenge.rw_xm0036_01.row.prog w) (ktrTop dp un gd cn cs L a ccd cl outer) (call (.ref f) vs) Q E s
theorem Says.use {w : World} {mean : ExcName → Option Value} {mg mb : Str → Option Value} {f : Addr} {vs : List Value} {news : Led} {cost : Nat} {ok : Value → Led → Prop}
    {dp un : Nat} {gd : Option (List Code)} {cn : Str} {cs : Scope} {a : Addr} {ccd : Value} {cl : List (Str × Addr)} {outer : List Env} {A₀ : Around} {base h₀ : Heap} {L : Addr} {m : Str → Option Value} {s : Shared} {Q E : Value → Shared → Prop}
    (H : Says w mean mg mb f vs news cost ok)
    (B : Below A₀ base outer h₀) (F : Fr h₀ L s.heap m) (X : (hd.heap_39 w.params).In h₀) (N : News h₀ L s.heap news) (T : Top hd.view_39 (looseW hd.view_39 [Str.ofString "BasicError"]) mean mg mb h₀) (hk : cs.kind = .function)
    (hd : dp + cost < recursionLimit) (hu : un + 8 * cost < cLine)
    (ret : ∀ (r : Value) (tl : Led) (h' : Heap) (tk' : Nat), Fr h₀ L h' m → News h₀ L h' (tl ++ news) → ok r tl → Q r { s with heap := h', toks := tk' }) :
    wpAny (model PySem.Challenge.rw_xm0036_01.row.prog w) (ktrTop dp un gd cn cs L a ccd cl outer) (call (.ref f) vs) Q E s :=
  H _ _ _ _ _ _ _ _ _ _ _ _ _ _ _ _ _ B F X N T hk hd hu ret
theorem drop_led {h₀ h : Heap} {L : Addr} {tl news : Led} (N : News h₀ L h (tl ++ news)) : News h₀ L h news := fun p hp => N p (List.mem_append_right _ hp)
theorem drop_one {h₀ h : Heap} {L : Addr} {p : Addr × Obj} {news : Led} (N : News h₀ L h (p :: news)) : News h₀ L h news := fun q hq => N q (List.mem_cons_of_mem _ hq)
/-- all of a ledger lies below an address -/
def Lo (l : Led) (d : Addr) : Prop := ∀ p ∈ l, p.1 < d
theorem Lo.of {l : Led} {d : Addr} (h : ∀ p ∈ l, p.1 < d) : Lo l d := h
theorem Lo.ne {l : Led} {d x : Addr} (h : Lo l d) (hx : @LE.le Nat _ d x) : ∀ p ∈ l, p.1 ≠ x := fun p hp e => absurd (h p hp) (Nat.not_lt.mpr (e ▸ hx))
theorem Lo.allLt {l : Led} {d x : Addr} (h : Lo l d) (hx : @LE.le Nat _ d x) : AllLt x l := allLt_of fun p hp => Nat.lt_of_lt_of_le (h p hp) hx
theorem all_app {l₁ l₂ : Led} {P : Addr × Obj → Prop} (h₁ : ∀ p ∈ l₁, P p) (h₂ : ∀ p ∈ l₂, P p) : ∀ p ∈ l₁ ++ l₂, P p := fun p hp => (List.mem_append.mp hp).elim (h₁ p) (h₂ p)
theorem room_of {d dp c : Nat} (h : dp + c < recursionLimit) (hk : d ≤ dp + c) : d < recursionLimit := Nat.lt_of_le_of_lt hk h
theorem units_of {d un c : Nat} (h : un + c < cLine) (hk : d ≤ un + c) : d < cLine := Nat.lt_of_le_of_lt hk h
theorem depth_ktr {dp un : Nat} {gd : Option (List Code)} {cn : Str} {cs : Scope} {L a : Addr} {ccd : Value} {cl : List (Str × Addr)} {outer : List Env} : (ktrTop dp un gd cn cs L a ccd cl outer).depth = dp := rfl
theorem units_ktr {dp un : Nat} {gd : Option (List Code)} {cn : Str} {cs : Scope} {L a : Addr} {ccd : Value} {cl : List (Str × Addr)} {outer : List Env} : (ktrTop dp un gd cn cs L a ccd cl outer).units = un := rfl
end

section
section
variable {prog : Program} {w : World} {A : Around} {E : Value → Shared → Prop} {s : Shared} {env : Env} {h₀ : Heap} {target : Expr} {body : List Stmt} {Q : Flow → Shared → Prop}
theorem items_inv {ws : List (Addr × String)} {keep : Led} (J : Nat → (Str → Option Value) → Led → Prop) (xs : List Itm)
    (turn : ∀ i a m nx, xs[i]? = some a → J i m nx → ∀ v h tk, a.Is v h → Fr h₀ env.locals h m → AllObj ws (fun its => News h₀ env.locals h (its ++ nx) →
      wpAny (model prog w) A (assign target env v) (fun _ s₂ => wpAny (model prog w) A (execs body env) (UnrPostW h₀ env.locals { s with heap := h, toks := tk } its (fun m' n' => SubL keep n' ∧ J (i + 1) m' n') Q) E s₂) E { s with heap := h, toks := tk }))
    (done : ∀ m nx h tk, J xs.length m nx → Fr h₀ env.locals h m → News h₀ env.locals h nx → Q .next { s with heap := h, toks := tk })
    {m : Str → Option Value} {news : Led} (h0 : J 0 m news) : ItemsRest prog w A E h₀ env target body Q s ws keep xs m news := by
  have mono : ∀ (ws : List (Addr × String)) (k k' : Led → Prop), (∀ its, k its → k' its) → AllObj ws k → AllObj ws k' := by
    intro ws
    induction ws with
    | nil => intro k k' h x; exact h _ x
    | cons p r ih => intro k k' h x o ho; exact ih _ _ (fun its => h _) (x o ho)
  have all : ∀ (r : List Itm) (i : Nat) m nx, xs.drop i = r → i + r.length = xs.length → J i m nx → ItemsRest prog w A E h₀ env target body Q s ws keep r m nx := by
    intro r
    induction r with
    | nil =>
      intro i m nx _ hi hj h tk F N
      have hi' : i = xs.length := hi
      exact done m nx h tk (hi' ▸ hj) F N
    | cons a r ih =>
      intro i m nx e hi hj v h tk hv F
      have ha : xs[i]? = some a := by
        have := congrArg List.head? e
        simpa [List.head?_drop] using this
      have hr : xs.drop (i + 1) = r := by
        have := congrArg List.tail e
        simpa [List.tail_drop] using this
      refine mono ws _ _ (fun its x N => ?_) (turn i a m nx ha hj v h tk hv F)
      refine wpAny_mono (x N) (fun _ s₂ h₂ => wpAny_mono h₂ (fun f s₃ p => ?_) fun _ _ e => e) fun _ _ e => e
      have up : UnrEndW h₀ env.locals { s with heap := h, toks := tk } its (fun m' n' => SubL keep n' ∧ J (i + 1) m' n') s₃ → UnrEndW h₀ env.locals { s with heap := h, toks := tk } its (fun m' n' => SubL keep n' ∧ ItemsRest prog w A E h₀ env target body Q s ws keep r m' n') s₃ := by
        rintro ⟨h', tk', m', n', e', F', N', off, sub, hj'⟩
        exact ⟨h', tk', m', n', e', F', N', off, sub, ih (i + 1) m' n' hr (by simp only [List.length_cons] at hi; omega) hj'⟩
      cases f with
      | ret v => exact p
      | brk => exact p
      | next => exact up p
      | cont => exact up p
  exact all xs 0 m news rfl (Nat.zero_add _) h0
end
section
variable {prog : Program} {w : World} {A : Around} {E : Value → Shared → Prop} {s : Shared} {env : Env} {h₀ : Heap} {target : Expr} {body : List Stmt} {Q : Flow → Shared → Prop}
theorem items_inv1 {ws : List (Addr × String)} {keep : Led} {m : Str → Option Value} (J : Nat → Led → Prop) (xs : List Itm)
    (turn : ∀ i a nx, xs[i]? = some a → J i nx → ∀ v h tk, a.Is v h → Fr h₀ env.locals h m → AllObj ws (fun its => News h₀ env.locals h (its ++ nx) →
      wpAny (model prog w) A (assign target env v) (fun _ s₂ => wpAny (model prog w) A (execs body env) (UnrPostW h₀ env.locals { s with heap := h, toks := tk } its (fun m' n' => SubL keep n' ∧ m' = m ∧ J (i + 1) n') Q) E s₂) E { s with heap := h, toks := tk }))
    (done : ∀ nx h tk, J xs.length nx → Fr h₀ env.locals h m → News h₀ env.locals h nx → Q .next { s with heap := h, toks := tk })
    {news : Led} (h0 : J 0 news) : ItemsRest prog w A E h₀ env target body Q s ws keep xs m news :=
  items_inv (fun i m' nx => m' = m ∧ J i nx) xs (fun i a m' nx ha hj v h tk hv F => by
    obtain ⟨rfl, hj⟩ := hj
    exact turn i a nx ha hj v h tk hv F) (fun m' nx h tk hj F N => by
    obtain ⟨rfl, hj⟩ := hj
    exact done nx h tk hj F N) ⟨rfl, h0⟩
end
end
local macro_rules | `(tactic| walk_at $s:str) => `(tactic| k_extra $s)
local macro_rules | `(tactic| k_mem) => `(tactic| assumption)
local macro_rules | `(tactic| k_all) => `(tactic| walk_at "mine all")

section
set_option maxHeartbeats 4000000 in
theorem fits_ok (w mean mg mb) (x : Int) (tx t16 : Tok) (news : Led) (hx : -32768 ≤ x ∧ x < 32768) :
    Says w mean mg mb 72 [.int x tx, .int 16 t16] news 2 (fun r tl => tl = [] ∧ r = .bool true) := by
  have hlo : -(1 * 2 ^ ((16 : Int) - 1).toNat) ≤ x := hx.1
  have hhi : x < 1 * 2 ^ ((16 : Int) - 1).toNat := hx.2
  unfold Says
  k_with_none
  k_with "mine room" => (first | decide | (refine room_of (by assumption) ?_; (try simp only [depth_under_make, depth_under_kw, depth_in1, depth_deeper, depth_ktr, Nat.add_assoc]); first | exact Nat.add_le_add_left (by decide) _ | exact Nat.le_add_right _ _))
  k_with "mine units" => (first | decide | (refine units_of (by assumption) ?_; (try simp only [units_in1, units_deeper, Around.mark_units, units_ktr, Nat.add_assoc]); first | exact Nat.add_le_add_left (by decide) _ | exact Nat.le_add_right _ _))
  k_with "mine enter" => (refine' code_def ?k1 ?k2 ?k3 ?k4 ?k5 ?kA ?kF ?kK ?k6 ?k7 ?k8 ?k9 ?kB ?_ ?c2 ?c3 ?c4 ?c5; (case kA => exact rfl); (case kF => exact rfl); (case kK => first | assumption | exact rfl); (case k1 => k_asm); (case k2 => k_asm); (case k3 => k_asm); (case k4 => k_asm); (case k5 => k_asm); (case k6 => k_is); (case k7 => k_is); (case k8 => walk_at "mine room"); (case k9 => first | exact BindsTo.of_eq rfl | exact binds_K (by k_in) rfl (by k_is) rfl rfl rfl); (case c5 => decide); (case kB => exact locs rfl); (case c2 => exact rfl); (case c3 => exact rfl); (case c4 => exact rfl); k_whole; intro _ _ _ _ _ _ _ _ _; (try dsimp only); (try k_fold))
  k_with "mine args" => ((case k1 => k_asm); (case k2 => k_asm); (case k3 => k_asm); (case k4 => k_asm); (case k5 => k_asm); (case kK => first | exact rfl | assumption); (case kd => walk_at "mine room"); (case ku => walk_at "mine units"))
  k_with "mine pure" => (intro _ _ _ _ _ N' hok'; obtain ⟨ee', hok'⟩ := hok'; subst ee'; (first | (obtain ⟨t', ee'⟩ := hok'; subst ee') | subst hok'); (simp only [List.nil_append] at N'); (try dsimp only); (try k_fold))
  k_with "mine use" => (walk_at "mine args"; k_whole; walk_at "mine pure")
  k_with "call ref" => (k_here; k_dflt (refine wpAny_call ?_; walk_at "mine enter"))
  k_with "mine all" => (first | exact all_app (OwnOff.ne (by assumption) (by k_memK)) (Lo.ne (by assumption) (by omega)) | exact Lo.ne (by assumption) (by omega))
  k_fill
  intro dp un gd cn cs ad ccd cl outer A₀ base h₀ L m s Q E B F X N T hk hdp hun hret
  refine wpAny_call ?_
  k_dflt (refine' code_def (binds := [(Str.ofString "number", .int x tx), (Str.ofString "bits", .int 16 t16)]) ?k1 ?k2 ?k3 ?k4 ?k5 ?kA ?kF ?kK ?k6 ?k7 ?k8 ?k9 ?kB ?_ ?c2 ?c3 ?c4 ?c5; (case kA => exact rfl); (case kF => exact rfl); (case kK => first | assumption | exact rfl); (case k1 => k_asm); (case k2 => k_asm); (case k3 => k_asm); (case k4 => k_asm); (case k5 => k_asm); (case k6 => k_is); (case k7 => k_is); (case k8 => walk_at "mine room"); (case k9 => first | exact BindsTo.of_eq rfl | exact binds_K (by k_in) rfl (by k_is) rfl rfl rfl); (case c5 => decide); (case kB => exact locs rfl); (case c2 => exact rfl); (case c3 => exact rfl); (case c4 => exact rfl); k_whole; intro _ _ _ _ _ _ _ _ _; (try dsimp only); (try k_fold))
  repeat' (first | (k_unfold; (try dsimp only)) | (k_end; wrow_close) | (walk1; all_goals (try dsimp only)) | (leave1; walk_say "STEP leave1"; try dsimp only) | fail "no step")
  exact hret _ [] _ _ (by k_asm) (by k_asm) ⟨rfl, congrArg Value.bool (decide_eq_true hhi)⟩
set_option maxHeartbeats 4000000 in
theorem is_whole_ok (w mean mg mb) (x : Int) (tx : Tok) (news : Led) :
    Says w mean mg mb 157 [.int x tx] news 2 (fun r tl => tl = [] ∧ r = .bool true) := by
  unfold Says
  k_with_none
  k_with "mine room" => (first | decide | (refine room_of (by assumption) ?_; (try simp only [depth_under_make, depth_under_kw, depth_in1, depth_deeper, depth_ktr, Nat.add_assoc]); first | exact Nat.add_le_add_left (by decide) _ | exact Nat.le_add_right _ _))
  k_with "mine units" => (first | decide | (refine units_of (by assumption) ?_; (try simp only [units_in1, units_deeper, Around.mark_units, units_ktr, Nat.add_assoc]); first | exact Nat.add_le_add_left (by decide) _ | exact Nat.le_add_right _ _))
  k_with "mine enter" => (refine' code_def ?k1 ?k2 ?k3 ?k4 ?k5 ?kA ?kF ?kK ?k6 ?k7 ?k8 ?k9 ?kB ?_ ?c2 ?c3 ?c4 ?c5; (case kA => exact rfl); (case kF => exact rfl); (case kK => first | assumption | exact rfl); (case k1 => k_asm); (case k2 => k_asm); (case k3 => k_asm); (case k4 => k_asm); (case k5 => k_asm); (case k6 => k_is); (case k7 => k_is); (case k8 => walk_at "mine room"); (case k9 => first | exact BindsTo.of_eq rfl | exact binds_K (by k_in) rfl (by k_is) rfl rfl rfl); (case c5 => decide); (case kB => exact locs rfl); (case c2 => exact rfl); (case c3 => exact rfl); (case c4 => exact rfl); k_whole; intro _ _ _ _ _ _ _ _ _; (try dsimp only); (try k_fold))
  k_with "mine args" => ((case k1 => k_asm); (case k2 => k_asm); (case k3 => k_asm); (case k4 => k_asm); (case k5 => k_asm); (case kK => first | exact rfl | assumption); (case kd => walk_at "mine room"); (case ku => walk_at "mine units"))
  k_with "mine pure" => (intro _ _ _ _ _ N' hok'; obtain ⟨ee', hok'⟩ := hok'; subst ee'; (first | (obtain ⟨t', ee'⟩ := hok'; subst ee') | subst hok'); (simp only [List.nil_append] at N'); (try dsimp only); (try k_fold))
  k_with "mine use" => (walk_at "mine args"; k_whole; walk_at "mine pure")
  k_with "call ref" => (k_here; k_dflt (refine wpAny_call ?_; walk_at "mine enter"))
  k_with "mine all" => (first | exact all_app (OwnOff.ne (by assumption) (by k_memK)) (Lo.ne (by assumption) (by omega)) | exact Lo.ne (by assumption) (by omega))
  k_fill
  intro dp un gd cn cs ad ccd cl outer A₀ base h₀ L m s Q E B F X N T hk hdp hun hret
  refine wpAny_call ?_
  k_dflt (refine' code_def (binds := [(Str.ofString "value", .int x tx)]) ?k1 ?k2 ?k3 ?k4 ?k5 ?kA ?kF ?kK ?k6 ?k7 ?k8 ?k9 ?kB ?_ ?c2 ?c3 ?c4 ?c5; (case kA => exact rfl); (case kF => exact rfl); (case kK => first | assumption | exact rfl); (case k1 => k_asm); (case k2 => k_asm); (case k3 => k_asm); (case k4 => k_asm); (case k5 => k_asm); (case k6 => k_is); (case k7 => k_is); (case k8 => walk_at "mine room"); (case k9 => first | exact BindsTo.of_eq rfl | exact binds_K (by k_in) rfl (by k_is) rfl rfl rfl); (case c5 => decide); (case kB => exact locs rfl); (case c2 => exact rfl); (case c3 => exact rfl); (case c4 => exact rfl); k_whole; intro _ _ _ _ _ _ _ _ _; (try dsimp only); (try k_fold))
  repeat' (first | (k_unfold; (try dsimp only)) | (k_end; wrow_close) | (walk1; all_goals (try dsimp only)) | (leave1; walk_say "STEP leave1"; try dsimp only) | fail "no step")
  exact hret _ [] _ _ (by k_asm) (by k_asm) ⟨rfl, rfl⟩
end

section
set_option maxHeartbeats 4000000 in
theorem settled_ok (w mean mg mb) (x : Int) (tx t16 t9 : Tok) (news : Led) (hx : -32768 ≤ x ∧ x < 32768) :
    Says w mean mg mb 164 [.int x tx, .int 16 t16, .int 9 t9] news 3 (fun r tl => tl = [] ∧ r = .int x tx) := by
  unfold Says
  k_with_none
  k_with "mine room" => (first | decide | (refine room_of (by assumption) ?_; (try simp only [depth_under_make, depth_under_kw, depth_in1, depth_deeper, depth_ktr, Nat.add_assoc]); first | exact Nat.add_le_add_left (by decide) _ | exact Nat.le_add_right _ _))
  k_with "mine units" => (first | decide | (refine units_of (by assumption) ?_; (try simp only [units_in1, units_deeper, Around.mark_units, units_ktr, Nat.add_assoc]); first | exact Nat.add_le_add_left (by decide) _ | exact Nat.le_add_right _ _))
  k_with "mine enter" => (refine' code_def ?k1 ?k2 ?k3 ?k4 ?k5 ?kA ?kF ?kK ?k6 ?k7 ?k8 ?k9 ?kB ?_ ?c2 ?c3 ?c4 ?c5; (case kA => exact rfl); (case kF => exact rfl); (case kK => first | assumption | exact rfl); (case k1 => k_asm); (case k2 => k_asm); (case k3 => k_asm); (case k4 => k_asm); (case k5 => k_asm); (case k6 => k_is); (case k7 => k_is); (case k8 => walk_at "mine room"); (case k9 => first | exact BindsTo.of_eq rfl | exact binds_K (by k_in) rfl (by k_is) rfl rfl rfl); (case c5 => decide); (case kB => exact locs rfl); (case c2 => exact rfl); (case c3 => exact rfl); (case c4 => exact rfl); k_whole; intro _ _ _ _ _ _ _ _ _; (try dsimp only); (try k_fold))
  k_with "mine args" => ((case k1 => k_asm); (case k2 => k_asm); (case k3 => k_asm); (case k4 => k_asm); (case k5 => k_asm); (case kK => first | exact rfl | assumption); (case kd => walk_at "mine room"); (case ku => walk_at "mine units"))
  k_with "mine pure" => (intro _ _ _ _ _ N' hok'; obtain ⟨ee', hok'⟩ := hok'; subst ee'; (first | (obtain ⟨t', ee'⟩ := hok'; subst ee') | subst hok'); (simp only [List.nil_append] at N'); (try dsimp only); (try k_fold))
  k_with "mine use" => (walk_at "mine args"; k_whole; walk_at "mine pure")
  k_with "call ref" => (k_here; k_dflt (refine wpAny_call ?_; walk_at "mine enter"))
  k_with "mine all" => (first | exact all_app (OwnOff.ne (by assumption) (by k_memK)) (Lo.ne (by assumption) (by omega)) | exact Lo.ne (by assumption) (by omega))
  k_with "call ref" => (k_here; k_dflt (first | (refine' Says.use (fits_ok _ _ _ _ _ _ _ _ ?kp) ?k1 ?k2 ?k3 ?k4 ?k5 ?kK ?kd ?ku ?_; (case kp => assumption); walk_at "mine use") | (refine' Says.use (is_whole_ok _ _ _ _ _ _ _) ?k1 ?k2 ?k3 ?k4 ?k5 ?kK ?kd ?ku ?_; walk_at "mine use")))
  k_fill
  intro dp un gd cn cs ad ccd cl outer A₀ base h₀ L m s Q E B F X N T hk hdp hun hret
  refine wpAny_call ?_
  k_dflt (refine' code_def (binds := [(Str.ofString "number", .int x tx), (Str.ofString "bits", .int 16 t16), (Str.ofString "digits", .int 9 t9)]) ?k1 ?k2 ?k3 ?k4 ?k5 ?kA ?kF ?kK ?k6 ?k7 ?k8 ?k9 ?kB ?_ ?c2 ?c3 ?c4 ?c5; (case kA => exact rfl); (case kF => exact rfl); (case kK => first | assumption | exact rfl); (case k1 => k_asm); (case k2 => k_asm); (case k3 => k_asm); (case k4 => k_asm); (case k5 => k_asm); (case k6 => k_is); (case k7 => k_is); (case k8 => walk_at "mine room"); (case k9 => first | exact BindsTo.of_eq rfl | exact binds_K (by k_in) rfl (by k_is) rfl rfl rfl); (case c5 => decide); (case kB => exact locs rfl); (case c2 => exact rfl); (case c3 => exact rfl); (case c4 => exact rfl); k_whole; intro _ _ _ _ _ _ _ _ _; (try dsimp only); (try k_fold))
  repeat' (first | (k_unfold; (try dsimp only)) | (k_end; wrow_close) | (walk1; all_goals (try dsimp only)) | (leave1; walk_say "STEP leave1"; try dsimp only) | fail "no step")
  exact hret _ [] _ _ (by k_asm) (by k_asm) ⟨rfl, rfl⟩
set_option maxHeartbeats 4000000 in
theorem exponent_ok (w mean mg mb) (x : Int) (tx : Tok) (news : Led) :
    Says w mean mg mb 192 [.int x tx] news 3 (fun r tl => tl = [] ∧ r = .int x tx) := by
  unfold Says
  k_with_none
  k_with "mine room" => (first | decide | (refine room_of (by assumption) ?_; (try simp only [depth_under_make, depth_under_kw, depth_in1, depth_deeper, depth_ktr, Nat.add_assoc]); first | exact Nat.add_le_add_left (by decide) _ | exact Nat.le_add_right _ _))
  k_with "mine units" => (first | decide | (refine units_of (by assumption) ?_; (try simp only [units_in1, units_deeper, Around.mark_units, units_ktr, Nat.add_assoc]); first | exact Nat.add_le_add_left (by decide) _ | exact Nat.le_add_right _ _))
  k_with "mine enter" => (refine' code_def ?k1 ?k2 ?k3 ?k4 ?k5 ?kA ?kF ?kK ?k6 ?k7 ?k8 ?k9 ?kB ?_ ?c2 ?c3 ?c4 ?c5; (case kA => exact rfl); (case kF => exact rfl); (case kK => first | assumption | exact rfl); (case k1 => k_asm); (case k2 => k_asm); (case k3 => k_asm); (case k4 => k_asm); (case k5 => k_asm); (case k6 => k_is); (case k7 => k_is); (case k8 => walk_at "mine room"); (case k9 => first | exact BindsTo.of_eq rfl | exact binds_K (by k_in) rfl (by k_is) rfl rfl rfl); (case c5 => decide); (case kB => exact locs rfl); (case c2 => exact rfl); (case c3 => exact rfl); (case c4 => exact rfl); k_whole; intro _ _ _ _ _ _ _ _ _; (try dsimp only); (try k_fold))
  k_with "mine args" => ((case k1 => k_asm); (case k2 => k_asm); (case k3 => k_asm); (case k4 => k_asm); (case k5 => k_asm); (case kK => first | exact rfl | assumption); (case kd => walk_at "mine room"); (case ku => walk_at "mine units"))
  k_with "mine pure" => (intro _ _ _ _ _ N' hok'; obtain ⟨ee', hok'⟩ := hok'; subst ee'; (first | (obtain ⟨t', ee'⟩ := hok'; subst ee') | subst hok'); (simp only [List.nil_append] at N'); (try dsimp only); (try k_fold))
  k_with "mine use" => (walk_at "mine args"; k_whole; walk_at "mine pure")
  k_with "call ref" => (k_here; k_dflt (refine wpAny_call ?_; walk_at "mine enter"))
  k_with "mine all" => (first | exact all_app (OwnOff.ne (by assumption) (by k_memK)) (Lo.ne (by assumption) (by omega)) | exact Lo.ne (by assumption) (by omega))
  k_with "call ref" => (k_here; k_dflt (first | (refine' Says.use (fits_ok _ _ _ _ _ _ _ _ ?kp) ?k1 ?k2 ?k3 ?k4 ?k5 ?kK ?kd ?ku ?_; (case kp => assumption); walk_at "mine use") | (refine' Says.use (is_whole_ok _ _ _ _ _ _ _) ?k1 ?k2 ?k3 ?k4 ?k5 ?kK ?kd ?ku ?_; walk_at "mine use")))
  k_fill
  intro dp un gd cn cs ad ccd cl outer A₀ base h₀ L m s Q E B F X N T hk hdp hun hret
  refine wpAny_call ?_
  k_dflt (refine' code_def (binds := [(Str.ofString "value", .int x tx)]) ?k1 ?k2 ?k3 ?k4 ?k5 ?kA ?kF ?kK ?k6 ?k7 ?k8 ?k9 ?kB ?_ ?c2 ?c3 ?c4 ?c5; (case kA => exact rfl); (case kF => exact rfl); (case kK => first | assumption | exact rfl); (case k1 => k_asm); (case k2 => k_asm); (case k3 => k_asm); (case k4 => k_asm); (case k5 => k_asm); (case k6 => k_is); (case k7 => k_is); (case k8 => walk_at "mine room"); (case k9 => first | exact BindsTo.of_eq rfl | exact binds_K (by k_in) rfl (by k_is) rfl rfl rfl); (case c5 => decide); (case kB => exact locs rfl); (case c2 => exact rfl); (case c3 => exact rfl); (case c4 => exact rfl); k_whole; intro _ _ _ _ _ _ _ _ _; (try dsimp only); (try k_fold))
  repeat' (first | (k_unfold; (try dsimp only)) | (k_end; wrow_close) | (walk1; all_goals (try dsimp only)) | (leave1; walk_say "STEP leave1"; try dsimp only) | fail "no step")
  exact hret _ [] _ _ (by k_asm) (by k_asm) ⟨rfl, rfl⟩
set_option maxHeartbeats 4000000 in
theorem power_ok (w mean mg mb) (n : Int) (tn t2 t16 t9 : Tok) (news : Led) (hn : 0 ≤ n ∧ n < 4) :
    Says w mean mg mb 199 [.int 2 t2, .int n tn, .int 16 t16, .int 9 t9] news 4 (fun r tl => tl = [] ∧ ∃ t, r = .int (2 ^ n.toNat) t) := by
  have hx : -32768 ≤ (2 : Int) ^ n.toNat ∧ (2 : Int) ^ n.toNat < 32768 := by
    have : n = 0 ∨ n = 1 ∨ n = 2 ∨ n = 3 := by omega
    rcases this with rfl | rfl | rfl | rfl <;> decide
  have h0 := hn.1
  have h4 := hn.2
  unfold Says
  k_with_none
  k_with "mine room" => (first | decide | (refine room_of (by assumption) ?_; (try simp only [depth_under_make, depth_under_kw, depth_in1, depth_deeper, depth_ktr, Nat.add_assoc]); first | exact Nat.add_le_add_left (by decide) _ | exact Nat.le_add_right _ _))
  k_with "mine units" => (first | decide | (refine units_of (by assumption) ?_; (try simp only [units_in1, units_deeper, Around.mark_units, units_ktr, Nat.add_assoc]); first | exact Nat.add_le_add_left (by decide) _ | exact Nat.le_add_right _ _))
  k_with "mine enter" => (refine' code_def ?k1 ?k2 ?k3 ?k4 ?k5 ?kA ?kF ?kK ?k6 ?k7 ?k8 ?k9 ?kB ?_ ?c2 ?c3 ?c4 ?c5; (case kA => exact rfl); (case kF => exact rfl); (case kK => first | assumption | exact rfl); (case k1 => k_asm); (case k2 => k_asm); (case k3 => k_asm); (case k4 => k_asm); (case k5 => k_asm); (case k6 => k_is); (case k7 => k_is); (case k8 => walk_at "mine room"); (case k9 => first | exact BindsTo.of_eq rfl | exact binds_K (by k_in) rfl (by k_is) rfl rfl rfl); (case c5 => decide); (case kB => exact locs rfl); (case c2 => exact rfl); (case c3 => exact rfl); (case c4 => exact rfl); k_whole; intro _ _ _ _ _ _ _ _ _; (try dsimp only); (try k_fold))
  k_with "mine args" => ((case k1 => k_asm); (case k2 => k_asm); (case k3 => k_asm); (case k4 => k_asm); (case k5 => k_asm); (case kK => first | exact rfl | assumption); (case kd => walk_at "mine room"); (case ku => walk_at "mine units"))
  k_with "mine pure" => (intro _ _ _ _ _ N' hok'; obtain ⟨ee', hok'⟩ := hok'; subst ee'; (first | (obtain ⟨t', ee'⟩ := hok'; subst ee') | subst hok'); (simp only [List.nil_append] at N'); (try dsimp only); (try k_fold))
  k_with "mine use" => (walk_at "mine args"; k_whole; walk_at "mine pure")
  k_with "call ref" => (k_here; k_dflt (refine wpAny_call ?_; walk_at "mine enter"))
  k_with "mine all" => (first | exact all_app (OwnOff.ne (by assumption) (by k_memK)) (Lo.ne (by assumption) (by omega)) | exact Lo.ne (by assumption) (by omega))
  k_with "call ref" => (k_here; k_dflt (first | (refine' Says.use (fits_ok _ _ _ _ _ _ _ _ ?kp) ?k1 ?k2 ?k3 ?k4 ?k5 ?kK ?kd ?ku ?_; (case kp => assumption); walk_at "mine use") | (refine' Says.use (is_whole_ok _ _ _ _ _ _ _) ?k1 ?k2 ?k3 ?k4 ?k5 ?kK ?kd ?ku ?_; walk_at "mine use")))
  k_with "call ref" => (k_here; k_dflt (first | (refine' Says.use (settled_ok _ _ _ _ _ _ _ _ _ ?kp) ?k1 ?k2 ?k3 ?k4 ?k5 ?kK ?kd ?ku ?_; (case kp => assumption); walk_at "mine use") | (refine' Says.use (exponent_ok _ _ _ _ _ _ _) ?k1 ?k2 ?k3 ?k4 ?k5 ?kK ?kd ?ku ?_; walk_at "mine use") | (refine' Says.use (is_whole_ok _ _ _ _ _ _ _) ?k1 ?k2 ?k3 ?k4 ?k5 ?kK ?kd ?ku ?_; walk_at "mine use")))
  k_fill
  intro dp un gd cn cs ad ccd cl outer A₀ base h₀ L m s Q E B F X N T hk hdp hun hret
  refine wpAny_call ?_
  k_dflt (refine' code_def (binds := [(Str.ofString "a", .int 2 t2), (Str.ofString "n", .int n tn), (Str.ofString "bits", .int 16 t16), (Str.ofString "digits", .int 9 t9)]) ?k1 ?k2 ?k3 ?k4 ?k5 ?kA ?kF ?kK ?k6 ?k7 ?k8 ?k9 ?kB ?_ ?c2 ?c3 ?c4 ?c5; (case kA => exact rfl); (case kF => exact rfl); (case kK => first | assumption | exact rfl); (case k1 => k_asm); (case k2 => k_asm); (case k3 => k_asm); (case k4 => k_asm); (case k5 => k_asm); (case k6 => k_is); (case k7 => k_is); (case k8 => walk_at "mine room"); (case k9 => first | exact BindsTo.of_eq rfl | exact binds_K (by k_in) rfl (by k_is) rfl rfl rfl); (case c5 => decide); (case kB => exact locs rfl); (case c2 => exact rfl); (case c3 => exact rfl); (case c4 => exact rfl); k_whole; intro _ _ _ _ _ _ _ _ _; (try dsimp only); (try k_fold))
  repeat' (first | (k_unfold; (try dsimp only)) | (k_end; wrow_close) | (walk1; all_goals (try dsimp only)) | (leave1; walk_say "STEP leave1"; try dsimp only) | fail "no step")
  exact hret _ [] _ _ (by k_asm) (by k_asm) ⟨rfl, _, rfl⟩
set_option maxHeartbeats 4000000 in
theorem raised_ok (w mean mg mb) (n : Int) (tn t2 t16 t9 : Tok) (news : Led) (hn : 0 ≤ n ∧ n < 4) :
    Says w mean mg mb 206 [.int 2 t2, .int n tn, .int 16 t16, .int 9 t9] news 5 (fun r tl => tl = [] ∧ ∃ t, r = .int (2 ^ n.toNat) t) := by
  have h0 := hn.1
  unfold Says
  k_with_none
  k_with "mine room" => (first | decide | (refine room_of (by assumption) ?_; (try simp only [depth_under_make, depth_under_kw, depth_in1, depth_deeper, depth_ktr, Nat.add_assoc]); first | exact Nat.add_le_add_left (by decide) _ | exact Nat.le_add_right _ _))
  k_with "mine units" => (first | decide | (refine units_of (by assumption) ?_; (try simp only [units_in1, units_deeper, Around.mark_units, units_ktr, Nat.add_assoc]); first | exact Nat.add_le_add_left (by decide) _ | exact Nat.le_add_right _ _))
  k_with "mine enter" => (refine' code_def ?k1 ?k2 ?k3 ?k4 ?k5 ?kA ?kF ?kK ?k6 ?k7 ?k8 ?k9 ?kB ?_ ?c2 ?c3 ?c4 ?c5; (case kA => exact rfl); (case kF => exact rfl); (case kK => first | assumption | exact rfl); (case k1 => k_asm); (case k2 => k_asm); (case k3 => k_asm); (case k4 => k_asm); (case k5 => k_asm); (case k6 => k_is); (case k7 => k_is); (case k8 => walk_at "mine room"); (case k9 => first | exact BindsTo.of_eq rfl | exact binds_K (by k_in) rfl (by k_is) rfl rfl rfl); (case c5 => decide); (case kB => exact locs rfl); (case c2 => exact rfl); (case c3 => exact rfl); (case c4 => exact rfl); k_whole; intro _ _ _ _ _ _ _ _ _; (try dsimp only); (try k_fold))
  k_with "mine args" => ((case k1 => k_asm); (case k2 => k_asm); (case k3 => k_asm); (case k4 => k_asm); (case k5 => k_asm); (case kK => first | exact rfl | assumption); (case kd => walk_at "mine room"); (case ku => walk_at "mine units"))
  k_with "mine pure" => (intro _ _ _ _ _ N' hok'; obtain ⟨ee', hok'⟩ := hok'; subst ee'; (first | (obtain ⟨t', ee'⟩ := hok'; subst ee') | subst hok'); (simp only [List.nil_append] at N'); (try dsimp only); (try k_fold))
  k_with "mine use" => (walk_at "mine args"; k_whole; walk_at "mine pure")
  k_with "call ref" => (k_here; k_dflt (refine wpAny_call ?_; walk_at "mine enter"))
  k_with "mine all" => (first | exact all_app (OwnOff.ne (by assumption) (by k_memK)) (Lo.ne (by assumption) (by omega)) | exact Lo.ne (by assumption) (by omega))
  k_with "call ref" => (k_here; k_dflt (first | (refine' Says.use (fits_ok _ _ _ _ _ _ _ _ ?kp) ?k1 ?k2 ?k3 ?k4 ?k5 ?kK ?kd ?ku ?_; (case kp => assumption); walk_at "mine use") | (refine' Says.use (is_whole_ok _ _ _ _ _ _ _) ?k1 ?k2 ?k3 ?k4 ?k5 ?kK ?kd ?ku ?_; walk_at "mine use")))
  k_with "call ref" => (k_here; k_dflt (first | (refine' Says.use (settled_ok _ _ _ _ _ _ _ _ _ ?kp) ?k1 ?k2 ?k3 ?k4 ?k5 ?kK ?kd ?ku ?_; (case kp => assumption); walk_at "mine use") | (refine' Says.use (exponent_ok _ _ _ _ _ _ _) ?k1 ?k2 ?k3 ?k4 ?k5 ?kK ?kd ?ku ?_; walk_at "mine use") | (refine' Says.use (is_whole_ok _ _ _ _ _ _ _) ?k1 ?k2 ?k3 ?k4 ?k5 ?kK ?kd ?ku ?_; walk_at "mine use")))
  k_with "call ref" => (k_here; k_dflt (first | (refine' Says.use (power_ok _ _ _ _ _ _ _ _ _ _ ?kp) ?k1 ?k2 ?k3 ?k4 ?k5 ?kK ?kd ?ku ?_; (case kp => assumption); walk_at "mine use") | (refine' Says.use (exponent_ok _ _ _ _ _ _ _) ?k1 ?k2 ?k3 ?k4 ?k5 ?kK ?kd ?ku ?_; walk_at "mine use") | (refine' Says.use (is_whole_ok _ _ _ _ _ _ _) ?k1 ?k2 ?k3 ?k4 ?k5 ?kK ?kd ?ku ?_; walk_at "mine use")))
  k_fill
  intro dp un gd cn cs ad ccd cl outer A₀ base h₀ L m s Q E B F X N T hk hdp hun hret
  refine wpAny_call ?_
  k_dflt (refine' code_def (binds := [(Str.ofString "a", .int 2 t2), (Str.ofString "b", .int n tn), (Str.ofString "bits", .int 16 t16), (Str.ofString "digits", .int 9 t9)]) ?k1 ?k2 ?k3 ?k4 ?k5 ?kA ?kF ?kK ?k6 ?k7 ?k8 ?k9 ?kB ?_ ?c2 ?c3 ?c4 ?c5; (case kA => exact rfl); (case kF => exact rfl); (case kK => first | assumption | exact rfl); (case k1 => k_asm); (case k2 => k_asm); (case k3 => k_asm); (case k4 => k_asm); (case k5 => k_asm); (case k6 => k_is); (case k7 => k_is); (case k8 => walk_at "mine room"); (case k9 => first | exact BindsTo.of_eq rfl | exact binds_K (by k_in) rfl (by k_is) rfl rfl rfl); (case c5 => decide); (case kB => exact locs rfl); (case c2 => exact rfl); (case c3 => exact rfl); (case c4 => exact rfl); k_whole; intro _ _ _ _ _ _ _ _ _; (try dsimp only); (try k_fold))
  repeat' (first | (k_unfold; (try dsimp only)) | (k_end; wrow_close) | (walk1; all_goals (try dsimp only)) | (leave1; walk_say "STEP leave1"; try dsimp only) | fail "no step")
  exact hret _ [] _ _ (by k_asm) (by k_asm) ⟨rfl, _, rfl⟩
set_option maxHeartbeats 4000000 in
theorem pow_ok (w mean mg mb) (n : Int) (tn tx t2 t16 t9 : Tok) (news : Led) (hn : 0 ≤ n ∧ n < 4) :
    Says w mean mg mb 213 [.str (Str.ofString "^") tx, .int 2 t2, .int n tn, .int 16 t16, .int 9 t9] news 8 (fun r tl => tl = [] ∧ ∃ t, r = .int (2 ^ n.toNat) t) := by
  unfold Says
  k_with_none
  k_with "mine room" => (first | decide | (refine room_of (by assumption) ?_; (try simp only [depth_under_make, depth_under_kw, depth_in1, depth_deeper, depth_ktr, Nat.add_assoc]); first | exact Nat.add_le_add_left (by decide) _ | exact Nat.le_add_right _ _))
  k_with "mine units" => (first | decide | (refine units_of (by assumption) ?_; (try simp only [units_in1, units_deeper, Around.mark_units, units_ktr, Nat.add_assoc]); first | exact Nat.add_le_add_left (by decide) _ | exact Nat.le_add_right _ _))
  k_with "mine enter" => (refine' code_def ?k1 ?k2 ?k3 ?k4 ?k5 ?kA ?kF ?kK ?k6 ?k7 ?k8 ?k9 ?kB ?_ ?c2 ?c3 ?c4 ?c5; (case kA => exact rfl); (case kF => exact rfl); (case kK => first | assumption | exact rfl); (case k1 => k_asm); (case k2 => k_asm); (case k3 => k_asm); (case k4 => k_asm); (case k5 => k_asm); (case k6 => k_is); (case k7 => k_is); (case k8 => walk_at "mine room"); (case k9 => first | exact BindsTo.of_eq rfl | exact binds_K (by k_in) rfl (by k_is) rfl rfl rfl); (case c5 => decide); (case kB => exact locs rfl); (case c2 => exact rfl); (case c3 => exact rfl); (case c4 => exact rfl); k_whole; intro _ _ _ _ _ _ _ _ _; (try dsimp only); (try k_fold))
  k_with "mine args" => ((case k1 => k_asm); (case k2 => k_asm); (case k3 => k_asm); (case k4 => k_asm); (case k5 => k_asm); (case kK => first | exact rfl | assumption); (case kd => walk_at "mine room"); (case ku => walk_at "mine units"))
  k_with "mine pure" => (intro _ _ _ _ _ N' hok'; obtain ⟨ee', hok'⟩ := hok'; subst ee'; (first | (obtain ⟨t', ee'⟩ := hok'; subst ee') | subst hok'); (simp only [List.nil_append] at N'); (try dsimp only); (try k_fold))
  k_with "mine use" => (walk_at "mine args"; k_whole; walk_at "mine pure")
  k_with "call ref" => (k_here; k_dflt (refine wpAny_call ?_; walk_at "mine enter"))
  k_with "mine all" => (first | exact all_app (OwnOff.ne (by assumption) (by k_memK)) (Lo.ne (by assumption) (by omega)) | exact Lo.ne (by assumption) (by omega))
  k_with "call ref" => (k_here; k_dflt (first | (refine' Says.use (fits_ok _ _ _ _ _ _ _ _ ?kp) ?k1 ?k2 ?k3 ?k4 ?k5 ?kK ?kd ?ku ?_; (case kp => assumption); walk_at "mine use") | (refine' Says.use (is_whole_ok _ _ _ _ _ _ _) ?k1 ?k2 ?k3 ?k4 ?k5 ?kK ?kd ?ku ?_; walk_at "mine use")))
  k_with "call ref" => (k_here; k_dflt (first | (refine' Says.use (settled_ok _ _ _ _ _ _ _ _ _ ?kp) ?k1 ?k2 ?k3 ?k4 ?k5 ?kK ?kd ?ku ?_; (case kp => assumption); walk_at "mine use") | (refine' Says.use (exponent_ok _ _ _ _ _ _ _) ?k1 ?k2 ?k3 ?k4 ?k5 ?kK ?kd ?ku ?_; walk_at "mine use") | (refine' Says.use (is_whole_ok _ _ _ _ _ _ _) ?k1 ?k2 ?k3 ?k4 ?k5 ?kK ?kd ?ku ?_; walk_at "mine use")))
  k_with "call ref" => (k_here; k_dflt (first | (refine' Says.use (power_ok _ _ _ _ _ _ _ _ _ _ ?kp) ?k1 ?k2 ?k3 ?k4 ?k5 ?kK ?kd ?ku ?_; (case kp => assumption); walk_at "mine use") | (refine' Says.use (exponent_ok _ _ _ _ _ _ _) ?k1 ?k2 ?k3 ?k4 ?k5 ?kK ?kd ?ku ?_; walk_at "mine use") | (refine' Says.use (is_whole_ok _ _ _ _ _ _ _) ?k1 ?k2 ?k3 ?k4 ?k5 ?kK ?kd ?ku ?_; walk_at "mine use")))
  k_with "call ref" => (k_here; k_dflt (first | (refine' Says.use (raised_ok _ _ _ _ _ _ _ _ _ _ ?kp) ?k1 ?k2 ?k3 ?k4 ?k5 ?kK ?kd ?ku ?_; (case kp => assumption); walk_at "mine use") | (refine' Says.use (is_whole_ok _ _ _ _ _ _ _) ?k1 ?k2 ?k3 ?k4 ?k5 ?kK ?kd ?ku ?_; walk_at "mine use")))
  k_fill
  intro dp un gd cn cs ad ccd cl outer A₀ base h₀ L m s Q E B F X N T hk hdp hun hret
  refine wpAny_call ?_
  k_dflt (refine' code_def (binds := [(Str.ofString "op", .str (Str.ofString "^") tx), (Str.ofString "a", .int 2 t2), (Str.ofString "b", .int n tn), (Str.ofString "bits", .int 16 t16), (Str.ofString "digits", .int 9 t9)]) ?k1 ?k2 ?k3 ?k4 ?k5 ?kA ?kF ?kK ?k6 ?k7 ?k8 ?k9 ?kB ?_ ?c2 ?c3 ?c4 ?c5; (case kA => exact rfl); (case kF => exact rfl); (case kK => first | assumption | exact rfl); (case k1 => k_asm); (case k2 => k_asm); (case k3 => k_asm); (case k4 => k_asm); (case k5 => k_asm); (case k6 => k_is); (case k7 => k_is); (case k8 => walk_at "mine room"); (case k9 => first | exact BindsTo.of_eq rfl | exact binds_K (by k_in) rfl (by k_is) rfl rfl rfl); (case c5 => decide); (case kB => exact locs rfl); (case c2 => exact rfl); (case c3 => exact rfl); (case c4 => exact rfl); k_whole; intro _ _ _ _ _ _ _ _ _; (try dsimp only); (try k_fold))
  repeat' (first | (k_unfold; (try dsimp only)) | (k_end; wrow_close) | (walk1; all_goals (try dsimp only)) | (leave1; walk_say "STEP leave1"; try dsimp only) | fail "no step")
  exact hret _ [] _ _ (by k_asm) (drop_one (by k_asm)) ⟨rfl, _, rfl⟩
end

section
set_option maxHeartbeats 4000000 in
theorem whole_of_ok (w mean mg mb) (a : Int) (ta t16 : Tok) (news : Led) (ha : -32768 ≤ a ∧ a < 32768) :
    Says w mean mg mb 79 [.int a ta, .int 16 t16] news 4 (fun r tl => tl = [] ∧ r = .int a ta) := by
  unfold Says
  k_with_none
  k_with "mine room" => (first | decide | (refine room_of (by assumption) ?_; (try simp only [depth_under_make, depth_under_kw, depth_in1, depth_deeper, depth_ktr, Nat.add_assoc]); first | exact Nat.add_le_add_left (by decide) _ | exact Nat.le_add_right _ _))
  k_with "mine units" => (first | decide | (refine units_of (by assumption) ?_; (try simp only [units_in1, units_deeper, Around.mark_units, units_ktr, Nat.add_assoc]); first | exact Nat.add_le_add_left (by decide) _ | exact Nat.le_add_right _ _))
  k_with "mine enter" => (refine' code_def ?k1 ?k2 ?k3 ?k4 ?k5 ?kA ?kF ?kK ?k6 ?k7 ?k8 ?k9 ?kB ?_ ?c2 ?c3 ?c4 ?c5; (case kA => exact rfl); (case kF => exact rfl); (case kK => first | assumption | exact rfl); (case k1 => k_asm); (case k2 => k_asm); (case k3 => k_asm); (case k4 => k_asm); (case k5 => k_asm); (case k6 => k_is); (case k7 => k_is); (case k8 => walk_at "mine room"); (case k9 => first | exact BindsTo.of_eq rfl | exact binds_K (by k_in) rfl (by k_is) rfl rfl rfl); (case c5 => decide); (case kB => exact locs rfl); (case c2 => exact rfl); (case c3 => exact rfl); (case c4 => exact rfl); k_whole; intro _ _ _ _ _ _ _ _ _; (try dsimp only); (try k_fold))
  k_with "mine args" => ((case k1 => k_asm); (case k2 => k_asm); (case k3 => k_asm); (case k4 => k_asm); (case k5 => k_asm); (case kK => first | exact rfl | assumption); (case kd => walk_at "mine room"); (case ku => walk_at "mine units"))
  k_with "mine pure" => (intro _ _ _ _ _ N' hok'; obtain ⟨ee', hok'⟩ := hok'; subst ee'; (first | (obtain ⟨t', ee'⟩ := hok'; subst ee') | subst hok'); (simp only [List.nil_append] at N'); (try dsimp only); (try k_fold))
  k_with "mine use" => (walk_at "mine args"; k_whole; walk_at "mine pure")
  k_with "call ref" => (k_here; k_dflt (refine wpAny_call ?_; walk_at "mine enter"))
  k_with "mine all" => (first | exact all_app (OwnOff.ne (by assumption) (by k_memK)) (Lo.ne (by assumption) (by omega)) | exact Lo.ne (by assumption) (by omega))
  k_with "call ref" => (k_here; k_dflt (refine' Says.use (fits_ok _ _ _ _ _ _ _ _ ?kp) ?k1 ?k2 ?k3 ?k4 ?k5 ?kK ?kd ?ku ?_; (case kp => assumption); walk_at "mine use"))
  k_fill
  intro dp un gd cn cs ad ccd cl outer A₀ base h₀ L m s Q E B F X N T hk hdp hun hret
  refine wpAny_call ?_
  k_dflt (refine' code_def (binds := [(Str.ofString "value", .int a ta), (Str.ofString "bits", .int 16 t16)]) ?k1 ?k2 ?k3 ?k4 ?k5 ?kA ?kF ?kK ?k6 ?k7 ?k8 ?k9 ?kB ?_ ?c2 ?c3 ?c4 ?c5; (case kA => exact rfl); (case kF => exact rfl); (case kK => first | assumption | exact rfl); (case k1 => k_asm); (case k2 => k_asm); (case k3 => k_asm); (case k4 => k_asm); (case k5 => k_asm); (case k6 => k_is); (case k7 => k_is); (case k8 => walk_at "mine room"); (case k9 => first | exact BindsTo.of_eq rfl | exact binds_K (by k_in) rfl (by k_is) rfl rfl rfl); (case c5 => decide); (case kB => exact locs rfl); (case c2 => exact rfl); (case c3 => exact rfl); (case c4 => exact rfl); k_whole; intro _ _ _ _ _ _ _ _ _; (try dsimp only); (try k_fold))
  repeat' (first | (k_unfold; (try dsimp only)) | (k_end; wrow_close) | (walk1; all_goals (try dsimp only)) | (leave1; walk_say "STEP leave1"; try dsimp only) | fail "no step")
  exact hret _ [] _ _ (by k_asm) (by k_asm) ⟨rfl, rfl⟩
set_option maxHeartbeats 4000000 in
theorem logic_xor (w mean mg mb) (a b : Int) (ta tb tx t16 : Tok) (news : Led) (ha : -32768 ≤ a ∧ a < 32768) (hb : -32768 ≤ b ∧ b < 32768) :
    Says w mean mg mb 227 [.str (Str.ofString "XOR") tx, .int a ta, .int b tb, .int 16 t16] news 6 (fun r tl => tl = [] ∧ ∃ t, r = .int (Builtin.bitXor a b) t) := by
  unfold Says
  k_with_none
  k_with "mine room" => (first | decide | (refine room_of (by assumption) ?_; (try simp only [depth_under_make, depth_under_kw, depth_in1, depth_deeper, depth_ktr, Nat.add_assoc]); first | exact Nat.add_le_add_left (by decide) _ | exact Nat.le_add_right _ _))
  k_with "mine units" => (first | decide | (refine units_of (by assumption) ?_; (try simp only [units_in1, units_deeper, Around.mark_units, units_ktr, Nat.add_assoc]); first | exact Nat.add_le_add_left (by decide) _ | exact Nat.le_add_right _ _))
  k_with "mine enter" => (refine' code_def ?k1 ?k2 ?k3 ?k4 ?k5 ?kA ?kF ?kK ?k6 ?k7 ?k8 ?k9 ?kB ?_ ?c2 ?c3 ?c4 ?c5; (case kA => exact rfl); (case kF => exact rfl); (case kK => first | assumption | exact rfl); (case k1 => k_asm); (case k2 => k_asm); (case k3 => k_asm); (case k4 => k_asm); (case k5 => k_asm); (case k6 => k_is); (case k7 => k_is); (case k8 => walk_at "mine room"); (case k9 => first | exact BindsTo.of_eq rfl | exact binds_K (by k_in) rfl (by k_is) rfl rfl rfl); (case c5 => decide); (case kB => exact locs rfl); (case c2 => exact rfl); (case c3 => exact rfl); (case c4 => exact rfl); k_whole; intro _ _ _ _ _ _ _ _ _; (try dsimp only); (try k_fold))
  k_with "mine args" => ((case k1 => k_asm); (case k2 => k_asm); (case k3 => k_asm); (case k4 => k_asm); (case k5 => k_asm); (case kK => first | exact rfl | assumption); (case kd => walk_at "mine room"); (case ku => walk_at "mine units"))
  k_with "mine pure" => (intro _ _ _ _ _ N' hok'; obtain ⟨ee', hok'⟩ := hok'; subst ee'; (first | (obtain ⟨t', ee'⟩ := hok'; subst ee') | subst hok'); (simp only [List.nil_append] at N'); (try dsimp only); (try k_fold))
  k_with "mine use" => (walk_at "mine args"; k_whole; walk_at "mine pure")
  k_with "call ref" => (k_here; k_dflt (refine wpAny_call ?_; walk_at "mine enter"))
  k_with "mine all" => (first | exact all_app (OwnOff.ne (by assumption) (by k_memK)) (Lo.ne (by assumption) (by omega)) | exact Lo.ne (by assumption) (by omega))
  k_with "call ref" => (k_here; k_dflt (refine' Says.use (fits_ok _ _ _ _ _ _ _ _ ?kp) ?k1 ?k2 ?k3 ?k4 ?k5 ?kK ?kd ?ku ?_; (case kp => assumption); walk_at "mine use"))
  k_with "call ref" => (k_here; k_dflt (refine' Says.use (whole_of_ok _ _ _ _ _ _ _ _ ?kp) ?k1 ?k2 ?k3 ?k4 ?k5 ?kK ?kd ?ku ?_; (case kp => first | assumption | omega); walk_at "mine use"))
  k_fill
  intro dp un gd cn cs ad ccd cl outer A₀ base h₀ L m s Q E B F X N T hk hdp hun hret
  refine wpAny_call ?_
  k_dflt (refine' code_def (binds := [(Str.ofString "op", .str (Str.ofString "XOR") tx), (Str.ofString "a", .int a ta), (Str.ofString "b", .int b tb), (Str.ofString "bits", .int 16 t16)]) ?k1 ?k2 ?k3 ?k4 ?k5 ?kA ?kF ?kK ?k6 ?k7 ?k8 ?k9 ?kB ?_ ?c2 ?c3 ?c4 ?c5; (case kA => exact rfl); (case kF => exact rfl); (case kK => first | assumption | exact rfl); (case k1 => k_asm); (case k2 => k_asm); (case k3 => k_asm); (case k4 => k_asm); (case k5 => k_asm); (case k6 => k_is); (case k7 => k_is); (case k8 => walk_at "mine room"); (case k9 => first | exact BindsTo.of_eq rfl | exact binds_K (by k_in) rfl (by k_is) rfl rfl rfl); (case c5 => decide); (case kB => exact locs rfl); (case c2 => exact rfl); (case c3 => exact rfl); (case c4 => exact rfl); k_whole; intro _ _ _ _ _ _ _ _ _; (try dsimp only); (try k_fold))
  repeat' (first | (k_unfold; (try dsimp only)) | (k_end; wrow_close) | (walk1; all_goals (try dsimp only)) | (leave1; walk_say "STEP leave1"; try dsimp only) | fail "no step")
  exact hret _ [] _ _ (by k_asm) (drop_one (by k_asm)) ⟨rfl, _, rfl⟩
set_option maxHeartbeats 4000000 in
theorem logic_or (w mean mg mb) (a b : Int) (ta tb tx t16 : Tok) (news : Led) (ha : -32768 ≤ a ∧ a < 32768) (hb : -32768 ≤ b ∧ b < 32768) :
    Says w mean mg mb 227 [.str (Str.ofString "OR") tx, .int a ta, .int b tb, .int 16 t16] news 6 (fun r tl => tl = [] ∧ ∃ t, r = .int (Builtin.bitOr a b) t) := by
  unfold Says
  k_with_none
  k_with "mine room" => (first | decide | (refine room_of (by assumption) ?_; (try simp only [depth_under_make, depth_under_kw, depth_in1, depth_deeper, depth_ktr, Nat.add_assoc]); first | exact Nat.add_le_add_left (by decide) _ | exact Nat.le_add_right _ _))
  k_with "mine units" => (first | decide | (refine units_of (by assumption) ?_; (try simp only [units_in1, units_deeper, Around.mark_units, units_ktr, Nat.add_assoc]); first | exact Nat.add_le_add_left (by decide) _ | exact Nat.le_add_right _ _))
  k_with "mine enter" => (refine' code_def ?k1 ?k2 ?k3 ?k4 ?k5 ?kA ?kF ?kK ?k6 ?k7 ?k8 ?k9 ?kB ?_ ?c2 ?c3 ?c4 ?c5; (case kA => exact rfl); (case kF => exact rfl); (case kK => first | assumption | exact rfl); (case k1 => k_asm); (case k2 => k_asm); (case k3 => k_asm); (case k4 => k_asm); (case k5 => k_asm); (case k6 => k_is); (case k7 => k_is); (case k8 => walk_at "mine room"); (case k9 => first | exact BindsTo.of_eq rfl | exact binds_K (by k_in) rfl (by k_is) rfl rfl rfl); (case c5 => decide); (case kB => exact locs rfl); (case c2 => exact rfl); (case c3 => exact rfl); (case c4 => exact rfl); k_whole; intro _ _ _ _ _ _ _ _ _; (try dsimp only); (try k_fold))
  k_with "mine args" => ((case k1 => k_asm); (case k2 => k_asm); (case k3 => k_asm); (case k4 => k_asm); (case k5 => k_asm); (case kK => first | exact rfl | assumption); (case kd => walk_at "mine room"); (case ku => walk_at "mine units"))
  k_with "mine pure" => (intro _ _ _ _ _ N' hok'; obtain ⟨ee', hok'⟩ := hok'; subst ee'; (first | (obtain ⟨t', ee'⟩ := hok'; subst ee') | subst hok'); (simp only [List.nil_append] at N'); (try dsimp only); (try k_fold))
  k_with "mine use" => (walk_at "mine args"; k_whole; walk_at "mine pure")
  k_with "call ref" => (k_here; k_dflt (refine wpAny_call ?_; walk_at "mine enter"))
  k_with "mine all" => (first | exact all_app (OwnOff.ne (by assumption) (by k_memK)) (Lo.ne (by assumption) (by omega)) | exact Lo.ne (by assumption) (by omega))
  k_with "call ref" => (k_here; k_dflt (refine' Says.use (fits_ok _ _ _ _ _ _ _ _ ?kp) ?k1 ?k2 ?k3 ?k4 ?k5 ?kK ?kd ?ku ?_; (case kp => assumption); walk_at "mine use"))
  k_with "call ref" => (k_here; k_dflt (refine' Says.use (whole_of_ok _ _ _ _ _ _ _ _ ?kp) ?k1 ?k2 ?k3 ?k4 ?k5 ?kK ?kd ?ku ?_; (case kp => first | assumption | omega); walk_at "mine use"))
  k_fill
  intro dp un gd cn cs ad ccd cl outer A₀ base h₀ L m s Q E B F X N T hk hdp hun hret
  refine wpAny_call ?_
  k_dflt (refine' code_def (binds := [(Str.ofString "op", .str (Str.ofString "OR") tx), (Str.ofString "a", .int a ta), (Str.ofString "b", .int b tb), (Str.ofString "bits", .int 16 t16)]) ?k1 ?k2 ?k3 ?k4 ?k5 ?kA ?kF ?kK ?k6 ?k7 ?k8 ?k9 ?kB ?_ ?c2 ?c3 ?c4 ?c5; (case kA => exact rfl); (case kF => exact rfl); (case kK => first | assumption | exact rfl); (case k1 => k_asm); (case k2 => k_asm); (case k3 => k_asm); (case k4 => k_asm); (case k5 => k_asm); (case k6 => k_is); (case k7 => k_is); (case k8 => walk_at "mine room"); (case k9 => first | exact BindsTo.of_eq rfl | exact binds_K (by k_in) rfl (by k_is) rfl rfl rfl); (case c5 => decide); (case kB => exact locs rfl); (case c2 => exact rfl); (case c3 => exact rfl); (case c4 => exact rfl); k_whole; intro _ _ _ _ _ _ _ _ _; (try dsimp only); (try k_fold))
  repeat' (first | (k_unfold; (try dsimp only)) | (k_end; wrow_close) | (walk1; all_goals (try dsimp only)) | (leave1; walk_say "STEP leave1"; try dsimp only) | fail "no step")
  exact hret _ [] _ _ (by k_asm) (drop_one (by k_asm)) ⟨rfl, _, rfl⟩
set_option maxHeartbeats 4000000 in
theorem logic_and (w mean mg mb) (a b : Int) (ta tb tx t16 : Tok) (news : Led) (ha : -32768 ≤ a ∧ a < 32768) (hb : -32768 ≤ b ∧ b < 32768) :
    Says w mean mg mb 227 [.str (Str.ofString "AND") tx, .int a ta, .int b tb, .int 16 t16] news 6 (fun r tl => tl = [] ∧ ∃ t, r = .int (Builtin.bitAnd a b) t) := by
  unfold Says
  k_with_none
  k_with "mine room" => (first | decide | (refine room_of (by assumption) ?_; (try simp only [depth_under_make, depth_under_kw, depth_in1, depth_deeper, depth_ktr, Nat.add_assoc]); first | exact Nat.add_le_add_left (by decide) _ | exact Nat.le_add_right _ _))
  k_with "mine units" => (first | decide | (refine units_of (by assumption) ?_; (try simp only [units_in1, units_deeper, Around.mark_units, units_ktr, Nat.add_assoc]); first | exact Nat.add_le_add_left (by decide) _ | exact Nat.le_add_right _ _))
  k_with "mine enter" => (refine' code_def ?k1 ?k2 ?k3 ?k4 ?k5 ?kA ?kF ?kK ?k6 ?k7 ?k8 ?k9 ?kB ?_ ?c2 ?c3 ?c4 ?c5; (case kA => exact rfl); (case kF => exact rfl); (case kK => first | assumption | exact rfl); (case k1 => k_asm); (case k2 => k_asm); (case k3 => k_asm); (case k4 => k_asm); (case k5 => k_asm); (case k6 => k_is); (case k7 => k_is); (case k8 => walk_at "mine room"); (case k9 => first | exact BindsTo.of_eq rfl | exact binds_K (by k_in) rfl (by k_is) rfl rfl rfl); (case c5 => decide); (case kB => exact locs rfl); (case c2 => exact rfl); (case c3 => exact rfl); (case c4 => exact rfl); k_whole; intro _ _ _ _ _ _ _ _ _; (try dsimp only); (try k_fold))
  k_with "mine args" => ((case k1 => k_asm); (case k2 => k_asm); (case k3 => k_asm); (case k4 => k_asm); (case k5 => k_asm); (case kK => first | exact rfl | assumption); (case kd => walk_at "mine room"); (case ku => walk_at "mine units"))
  k_with "mine pure" => (intro _ _ _ _ _ N' hok'; obtain ⟨ee', hok'⟩ := hok'; subst ee'; (first | (obtain ⟨t', ee'⟩ := hok'; subst ee') | subst hok'); (simp only [List.nil_append] at N'); (try dsimp only); (try k_fold))
  k_with "mine use" => (walk_at "mine args"; k_whole; walk_at "mine pure")
  k_with "call ref" => (k_here; k_dflt (refine wpAny_call ?_; walk_at "mine enter"))
  k_with "mine all" => (first | exact all_app (OwnOff.ne (by assumption) (by k_memK)) (Lo.ne (by assumption) (by omega)) | exact Lo.ne (by assumption) (by omega))
  k_with "call ref" => (k_here; k_dflt (refine' Says.use (fits_ok _ _ _ _ _ _ _ _ ?kp) ?k1 ?k2 ?k3 ?k4 ?k5 ?kK ?kd ?ku ?_; (case kp => assumption); walk_at "mine use"))
  k_with "call ref" => (k_here; k_dflt (refine' Says.use (whole_of_ok _ _ _ _ _ _ _ _ ?kp) ?k1 ?k2 ?k3 ?k4 ?k5 ?kK ?kd ?ku ?_; (case kp => first | assumption | omega); walk_at "mine use"))
  k_fill
  intro dp un gd cn cs ad ccd cl outer A₀ base h₀ L m s Q E B F X N T hk hdp hun hret
  refine wpAny_call ?_
  k_dflt (refine' code_def (binds := [(Str.ofString "op", .str (Str.ofString "AND") tx), (Str.ofString "a", .int a ta), (Str.ofString "b", .int b tb), (Str.ofString "bits", .int 16 t16)]) ?k1 ?k2 ?k3 ?k4 ?k5 ?kA ?kF ?kK ?k6 ?k7 ?k8 ?k9 ?kB ?_ ?c2 ?c3 ?c4 ?c5; (case kA => exact rfl); (case kF => exact rfl); (case kK => first | assumption | exact rfl); (case k1 => k_asm); (case k2 => k_asm); (case k3 => k_asm); (case k4 => k_asm); (case k5 => k_asm); (case k6 => k_is); (case k7 => k_is); (case k8 => walk_at "mine room"); (case k9 => first | exact BindsTo.of_eq rfl | exact binds_K (by k_in) rfl (by k_is) rfl rfl rfl); (case c5 => decide); (case kB => exact locs rfl); (case c2 => exact rfl); (case c3 => exact rfl); (case c4 => exact rfl); k_whole; intro _ _ _ _ _ _ _ _ _; (try dsimp only); (try k_fold))
  repeat' (first | (k_unfold; (try dsimp only)) | (k_end; wrow_close) | (walk1; all_goals (try dsimp only)) | (leave1; walk_say "STEP leave1"; try dsimp only) | fail "no step")
  exact hret _ [] _ _ (by k_asm) (drop_one (by k_asm)) ⟨rfl, _, rfl⟩
set_option maxHeartbeats 4000000 in
theorem inverted_ok (w mean mg mb) (a : Int) (ta t16 : Tok) (news : Led) (ha : -32768 ≤ a ∧ a < 32768) :
    Says w mean mg mb 220 [.int a ta, .int 16 t16] news 6 (fun r tl => tl = [] ∧ ∃ t, r = .int (-1 - a) t) := by
  unfold Says
  k_with_none
  k_with "mine room" => (first | decide | (refine room_of (by assumption) ?_; (try simp only [depth_under_make, depth_under_kw, depth_in1, depth_deeper, depth_ktr, Nat.add_assoc]); first | exact Nat.add_le_add_left (by decide) _ | exact Nat.le_add_right _ _))
  k_with "mine units" => (first | decide | (refine units_of (by assumption) ?_; (try simp only [units_in1, units_deeper, Around.mark_units, units_ktr, Nat.add_assoc]); first | exact Nat.add_le_add_left (by decide) _ | exact Nat.le_add_right _ _))
  k_with "mine enter" => (refine' code_def ?k1 ?k2 ?k3 ?k4 ?k5 ?kA ?kF ?kK ?k6 ?k7 ?k8 ?k9 ?kB ?_ ?c2 ?c3 ?c4 ?c5; (case kA => exact rfl); (case kF => exact rfl); (case kK => first | assumption | exact rfl); (case k1 => k_asm); (case k2 => k_asm); (case k3 => k_asm); (case k4 => k_asm); (case k5 => k_asm); (case k6 => k_is); (case k7 => k_is); (case k8 => walk_at "mine room"); (case k9 => first | exact BindsTo.of_eq rfl | exact binds_K (by k_in) rfl (by k_is) rfl rfl rfl); (case c5 => decide); (case kB => exact locs rfl); (case c2 => exact rfl); (case c3 => exact rfl); (case c4 => exact rfl); k_whole; intro _ _ _ _ _ _ _ _ _; (try dsimp only); (try k_fold))
  k_with "mine args" => ((case k1 => k_asm); (case k2 => k_asm); (case k3 => k_asm); (case k4 => k_asm); (case k5 => k_asm); (case kK => first | exact rfl | assumption); (case kd => walk_at "mine room"); (case ku => walk_at "mine units"))
  k_with "mine pure" => (intro _ _ _ _ _ N' hok'; obtain ⟨ee', hok'⟩ := hok'; subst ee'; (first | (obtain ⟨t', ee'⟩ := hok'; subst ee') | subst hok'); (simp only [List.nil_append] at N'); (try dsimp only); (try k_fold))
  k_with "mine use" => (walk_at "mine args"; k_whole; walk_at "mine pure")
  k_with "call ref" => (k_here; k_dflt (refine wpAny_call ?_; walk_at "mine enter"))
  k_with "mine all" => (first | exact all_app (OwnOff.ne (by assumption) (by k_memK)) (Lo.ne (by assumption) (by omega)) | exact Lo.ne (by assumption) (by omega))
  k_with "call ref" => (k_here; k_dflt (refine' Says.use (fits_ok _ _ _ _ _ _ _ _ ?kp) ?k1 ?k2 ?k3 ?k4 ?k5 ?kK ?kd ?ku ?_; (case kp => assumption); walk_at "mine use"))
  k_with "call ref" => (k_here; k_dflt (refine' Says.use (whole_of_ok _ _ _ _ _ _ _ _ ?kp) ?k1 ?k2 ?k3 ?k4 ?k5 ?kK ?kd ?ku ?_; (case kp => first | assumption | omega); walk_at "mine use"))
  k_fill
  intro dp un gd cn cs ad ccd cl outer A₀ base h₀ L m s Q E B F X N T hk hdp hun hret
  refine wpAny_call ?_
  k_dflt (refine' code_def (binds := [(Str.ofString "a", .int a ta), (Str.ofString "bits", .int 16 t16)]) ?k1 ?k2 ?k3 ?k4 ?k5 ?kA ?kF ?kK ?k6 ?k7 ?k8 ?k9 ?kB ?_ ?c2 ?c3 ?c4 ?c5; (case kA => exact rfl); (case kF => exact rfl); (case kK => first | assumption | exact rfl); (case k1 => k_asm); (case k2 => k_asm); (case k3 => k_asm); (case k4 => k_asm); (case k5 => k_asm); (case k6 => k_is); (case k7 => k_is); (case k8 => walk_at "mine room"); (case k9 => first | exact BindsTo.of_eq rfl | exact binds_K (by k_in) rfl (by k_is) rfl rfl rfl); (case c5 => decide); (case kB => exact locs rfl); (case c2 => exact rfl); (case c3 => exact rfl); (case c4 => exact rfl); k_whole; intro _ _ _ _ _ _ _ _ _; (try dsimp only); (try k_fold))
  repeat' (first | (k_unfold; (try dsimp only)) | (k_end; wrow_close) | (walk1; all_goals (try dsimp only)) | (leave1; walk_say "STEP leave1"; try dsimp only) | fail "no step")
  exact hret _ [] _ _ (by k_asm) (by k_asm) ⟨rfl, _, rfl⟩
end

section
noncomputable def bagO (l : Addr) (k : Int) (t : Tok) (n : Nat) : Obj := listOf [.ref l, .int k t].toArray n
set_option maxHeartbeats 4000000 in
theorem drawn_walk (w mean mg mb) (b l : Addr) (k below : Int) (tk tb : Tok) (nb nl : Nat) (vs : List Value) (ns : List Int) (rest : Led)
    (hoff : OwnOff rest [b]) (hl : (l, listOf vs.toArray nl) ∈ rest) (hi : IntsAre vs ns) (hlen : ns.length ≤ 63) (h0 : 0 ≤ k) (h1 : k < 1000) (hb : 0 < below) (hb2 : below < 1000) 
    (dp un : Nat) (gd : Option (List Code)) (cn : Str) (cs : Scope) (a : Addr) (ccd : Value) (cl : List (Str × Addr)) (outer : List Env) (A₀ : Around) (base h₀ : Heap) (L : Addr) (m : Str → Option Value) (s : Shared) (Q E : Value → Shared → Prop)
    (B : Below A₀ base outer h₀) (F : Fr h₀ L s.heap m) (X : (hd.heap_39 w.params).In h₀) (N : News h₀ L s.heap ((b, listOf [.ref l, .int k tk].toArray nb) :: rest)) (T : Top hd.view_39 (looseW hd.view_39 [Str.ofString "BasicError"]) mean mg mb h₀) (hk : cs.kind = .function)
    (hd : dp + 2 < recursionLimit) (hu : un + 8 * 2 < cLine)
    (hret : ∀ (r : Int) (t t2 : Tok) (n' : Nat) (h' : Heap) (tk' : Nat), 0 ≤ r → r < below → Fr h₀ L h' m → News h₀ L h' ((b, listOf [.ref l, .int (k + 1) t2].toArray n') :: rest) → Q (.int r t) { s with heap := h', toks := tk' }) :
    wpAny (model PySem.Challenge.rw_xm0036_01.row.prog w) (ktrTop dp un gd cn cs L a ccd cl outer) (call (.ref 234) [.ref b, .int below tb]) Q E s := by
  revert X
  k_with_none
  k_with "mine room" => (first | decide | (refine room_of (by assumption) ?_; (try simp only [depth_under_make, depth_under_kw, depth_in1, depth_deeper, depth_ktr, Nat.add_assoc]); first | exact Nat.add_le_add_left (by decide) _ | exact Nat.le_add_right _ _))
  k_with "mine units" => (first | decide | (refine units_of (by assumption) ?_; (try simp only [units_in1, units_deeper, Around.mark_units, units_ktr, Nat.add_assoc]); first | exact Nat.add_le_add_left (by decide) _ | exact Nat.le_add_right _ _))
  k_with "mine enter" => (refine' code_def ?k1 ?k2 ?k3 ?k4 ?k5 ?kA ?kF ?kK ?k6 ?k7 ?k8 ?k9 ?kB ?_ ?c2 ?c3 ?c4 ?c5; (case kA => exact rfl); (case kF => exact rfl); (case kK => first | assumption | exact rfl); (case k1 => k_asm); (case k2 => k_asm); (case k3 => k_asm); (case k4 => k_asm); (case k5 => k_asm); (case k6 => k_is); (case k7 => k_is); (case k8 => walk_at "mine room"); (case k9 => first | exact BindsTo.of_eq rfl | exact binds_K (by k_in) rfl (by k_is) rfl rfl rfl); (case c5 => decide); (case kB => exact locs rfl); (case c2 => exact rfl); (case c3 => exact rfl); (case c4 => exact rfl); k_whole; intro _ _ _ _ _ _ _ _ _; (try dsimp only); (try k_fold))
  k_with "mine args" => ((case k1 => k_asm); (case k2 => k_asm); (case k3 => k_asm); (case k4 => k_asm); (case k5 => k_asm); (case kK => first | exact rfl | assumption); (case kd => walk_at "mine room"); (case ku => walk_at "mine units"))
  k_with "mine pure" => (intro _ _ _ _ _ N' hok'; obtain ⟨ee', hok'⟩ := hok'; subst ee'; (first | (obtain ⟨t', ee'⟩ := hok'; subst ee') | subst hok'); (simp only [List.nil_append] at N'); (try dsimp only); (try k_fold))
  k_with "mine use" => (walk_at "mine args"; k_whole; walk_at "mine pure")
  k_with "call ref" => (k_here; k_dflt (refine wpAny_call ?_; walk_at "mine enter"))
  k_with "mine all" => (first | exact all_app (OwnOff.ne (by assumption) (by k_memK)) (Lo.ne (by assumption) (by omega)) | exact Lo.ne (by assumption) (by omega))
  k_fill
  intro X
  refine wpAny_call ?_
  k_dflt (refine' code_def (binds := [(Str.ofString "bag", .ref b), (Str.ofString "below", .int below tb)]) ?k1 ?k2 ?k3 ?k4 ?k5 ?kA ?kF ?kK ?k6 ?k7 ?k8 ?k9 ?kB ?_ ?c2 ?c3 ?c4 ?c5; (case kA => exact rfl); (case kF => exact rfl); (case kK => first | assumption | exact rfl); (case k1 => k_asm); (case k2 => k_asm); (case k3 => k_asm); (case k4 => k_asm); (case k5 => k_asm); (case k6 => k_is); (case k7 => k_is); (case k8 => walk_at "mine room"); (case k9 => first | exact BindsTo.of_eq rfl | exact binds_K (by k_in) rfl (by k_is) rfl rfl rfl); (case c5 => decide); (case kB => exact locs rfl); (case c2 => exact rfl); (case c3 => exact rfl); (case c4 => exact rfl); k_whole; intro _ _ _ _ _ _ _ _ _; (try dsimp only); (try k_fold))
  have hlen2 := hi.length
  repeat' (first | (k_unfold; (try dsimp only)) | (k_end; wrow_close) | (walk1; all_goals (try dsimp only)) | (leave1; walk_say "STEP leave1"; try dsimp only) | fail "no step")
  refine len_list (News.isList (by k_asm) (by k_mem)) (by simp only [List.size_toArray]; omega) ?_
  simp only [List.size_toArray]
  repeat' (first | (k_unfold; (try dsimp only)) | (k_end; wrow_close) | (walk1; all_goals (try dsimp only)) | (leave1; walk_say "STEP leave1"; try dsimp only) | fail "no step")
  all_goals (refine hret _ _ _ _ _ _ ?_ ?_ (by k_asm) (by k_asm))
  · exact Int.fmod_nonneg_of_pos _ hb
  · exact Int.fmod_lt_of_pos _ hb
  · exact Int.fmod_nonneg_of_pos _ hb
  · exact Int.fmod_lt_of_pos _ hb
end

section
noncomputable def sumF (tab : List Int) (a b c : Int) : Int := Builtin.bitXor (Builtin.bitXor (tab.getD a.toNat 0) (tab.getD b.toNat 0)) (tab.getD c.toNat 0)
theorem tab_get {ws : List Value} {tab : List Int} {a : Int} (hi : IntsAre ws tab) (hlen : tab.length = 6) (ht : ∀ x ∈ tab, 0 ≤ x ∧ x < 16) (h0 : 0 ≤ a) (h1 : a < 6) :
    ∃ t, ws.toArray[a.toNat]? = some (.int (tab.getD a.toNat 0) t) ∧ 0 ≤ tab.getD a.toNat 0 ∧ tab.getD a.toNat 0 < 16 := by
  have hlt : a.toNat < tab.length := by omega
  have e : tab[a.toNat]? = some (tab.getD a.toNat 0) := by simp [hlt]
  obtain ⟨t, hx⟩ := hi.get a.toNat _ e
  exact ⟨t, by simpa using hx, ht _ (List.mem_of_getElem? e)⟩
theorem xor_small {x y : Int} (hx : 0 ≤ x ∧ x < 16) (hy : 0 ≤ y ∧ y < 16) : 0 ≤ Builtin.bitXor x y ∧ Builtin.bitXor x y < 16 := by
  obtain ⟨n, rfl⟩ := Int.eq_ofNat_of_zero_le hx.1
  obtain ⟨k, rfl⟩ := Int.eq_ofNat_of_zero_le hy.1
  have hn : n < 16 := by omega
  have hk : k < 16 := by omega
  have all : ∀ n < 16, ∀ k < 16, 0 ≤ Builtin.bitXor ((n : Nat) : Int) ((k : Nat) : Int) ∧ Builtin.bitXor ((n : Nat) : Int) ((k : Nat) : Int) < 16 := by decide +kernel
  exact all n hn k hk
set_option maxHeartbeats 4000000 in
theorem sum_ok (w mean mg mb) (H W : Addr) (a b c : Int) (ta tb tc : Tok) (nh nw : Nat) (ws : List Value) (tab : List Int) (news : Led)
    (hH : (H, listOf [.int a ta, .int b tb, .int c tc].toArray nh) ∈ news) (hW : (W, listOf ws.toArray nw) ∈ news) (hi : IntsAre ws tab) (hlen : tab.length = 6) (ht : ∀ x ∈ tab, 0 ≤ x ∧ x < 16)
    (ha : 0 ≤ a ∧ a < 6) (hb : 0 ≤ b ∧ b < 6) (hc : 0 ≤ c ∧ c < 6) :
    Says w mean mg mb 246 [.ref H, .ref W] news 8 (fun r tl => tl = [] ∧ ∃ t, r = .int (sumF tab a b c) t) := by
  obtain ⟨ha0, ha1⟩ := ha
  obtain ⟨hb0, hb1⟩ := hb
  obtain ⟨hc0, hc1⟩ := hc
  obtain ⟨ua, ea, ra⟩ := tab_get hi hlen ht ha0 ha1
  obtain ⟨ub, eb, rb⟩ := tab_get hi hlen ht hb0 hb1
  obtain ⟨uc, ec, rc⟩ := tab_get hi hlen ht hc0 hc1
  unfold sumF
  have rab := xor_small ra rb
  generalize tab.getD a.toNat 0 = va at *
  generalize tab.getD b.toNat 0 = vb at *
  generalize tab.getD c.toNat 0 = vc at *
  have hva : -32768 ≤ va ∧ va < 32768 := by omega
  have hvb : -32768 ≤ vb ∧ vb < 32768 := by omega
  have hvc : -32768 ≤ vc ∧ vc < 32768 := by omega
  have hvab : -32768 ≤ Builtin.bitXor va vb ∧ Builtin.bitXor va vb < 32768 := by omega
  unfold Says
  k_with_none
  k_with "mine room" => (first | decide | (refine room_of (by assumption) ?_; (try simp only [depth_under_make, depth_under_kw, depth_in1, depth_deeper, depth_ktr, Nat.add_assoc]); first | exact Nat.add_le_add_left (by decide) _ | exact Nat.le_add_right _ _))
  k_with "mine units" => (first | decide | (refine units_of (by assumption) ?_; (try simp only [units_in1, units_deeper, Around.mark_units, units_ktr, Nat.add_assoc]); first | exact Nat.add_le_add_left (by decide) _ | exact Nat.le_add_right _ _))
  k_with "mine enter" => (refine' code_def ?k1 ?k2 ?k3 ?k4 ?k5 ?kA ?kF ?kK ?k6 ?k7 ?k8 ?k9 ?kB ?_ ?c2 ?c3 ?c4 ?c5; (case kA => exact rfl); (case kF => exact rfl); (case kK => first | assumption | exact rfl); (case k1 => k_asm); (case k2 => k_asm); (case k3 => k_asm); (case k4 => k_asm); (case k5 => k_asm); (case k6 => k_is); (case k7 => k_is); (case k8 => walk_at "mine room"); (case k9 => first | exact BindsTo.of_eq rfl | exact binds_K (by k_in) rfl (by k_is) rfl rfl rfl); (case c5 => decide); (case kB => exact locs rfl); (case c2 => exact rfl); (case c3 => exact rfl); (case c4 => exact rfl); k_whole; intro _ _ _ _ _ _ _ _ _; (try dsimp only); (try k_fold))
  k_with "mine args" => ((case k1 => k_asm); (case k2 => k_asm); (case k3 => k_asm); (case k4 => k_asm); (case k5 => k_asm); (case kK => first | exact rfl | assumption); (case kd => walk_at "mine room"); (case ku => walk_at "mine units"))
  k_with "mine pure" => (intro _ _ _ _ _ N' hok'; obtain ⟨ee', hok'⟩ := hok'; subst ee'; (first | (obtain ⟨t', ee'⟩ := hok'; subst ee') | subst hok'); (simp only [List.nil_append] at N'); (try dsimp only); (try k_fold))
  k_with "mine use" => (walk_at "mine args"; k_whole; walk_at "mine pure")
  k_with "call ref" => (k_here; k_dflt (refine wpAny_call ?_; walk_at "mine enter"))
  k_with "mine all" => (first | exact all_app (OwnOff.ne (by assumption) (by k_memK)) (Lo.ne (by assumption) (by omega)) | exact Lo.ne (by assumption) (by omega))
  k_with "CompSrc" => (k_here; k_dflt (refine LCg.CompSrc.ledger (by rfl) (by k_asm) (by k_asm) (by k_mem) (by first | size_fits | exact Nat.le_of_ble_eq_true rfl) ?_; intro g'; lcg_lit))
  k_with "subscriptTail" => (k_here; (with_reducible show wpAny _ _ (subscriptTail _ _ (Value.ref _) (Value.int _ _)) _ _ _); k_dflt (refine' item_list (News.isList (by k_asm) (by k_mem)) ?h0 ?h1 ?hx ?_; (case h0 => assumption); (case h1 => omega); (case hx => assumption); k_whole); (try dsimp only))
  k_with "CompEnd" => (k_dflt (refine' compEnd_same ?F ?N ?off ?hS ?_; (case F => k_asm); (case N => k_asm); (case off => assumption); (case hS => exact Or.inr ⟨_, by k_mem, rfl, _, rfl⟩)))
  k_with "call ref" => (k_here; k_dflt (refine' Says.use (logic_xor _ _ _ _ _ _ _ _ _ _ _ ?kp ?kq) ?k1 ?k2 ?k3 ?k4 ?k5 ?kK ?kd ?ku ?_; (case kp => assumption); (case kq => assumption); walk_at "mine use"))
  k_fill
  intro dp un gd cn cs ad ccd cl outer A₀ base h₀ L m s Q E B F X N T hk hdp hun hret
  refine wpAny_call ?_
  k_dflt (refine' code_defC (binds := [(Str.ofString "heaps", .ref H), (Str.ofString "table", .ref W)]) ?k1 ?k2 ?k3 ?k4 ?k5 ?kA ?kF ?kK ?k6 ?k7 ?k8 ?k9 ?kB ?kD ?_ ?c2 ?c3 ?c4; (case kA => exact rfl); (case kF => exact rfl); (case kK => first | assumption | exact rfl); (case k1 => k_asm); (case k2 => k_asm); (case k3 => k_asm); (case k4 => k_asm); (case k5 => k_asm); (case k6 => k_is); (case k7 => k_is); (case k8 => walk_at "mine room"); (case k9 => first | exact BindsTo.of_eq rfl | exact binds_K (by k_in) rfl (by k_is) rfl rfl rfl); (case kB => exact rfl); (case kD => decide +kernel); (case c2 => exact rfl); (case c3 => exact rfl); (case c4 => exact rfl); k_whole; intro gX LX h1X tk1X cellsX FGX F' N' Y' BX XX TX l1; (have loX := Lo.of l1); clear l1; k_cells Y'; (try simp only [List.cons_append, List.nil_append] at N'); (try dsimp only); (try k_fold))
  repeat' (first | (k_unfold; (try dsimp only)) | (k_end; wrow_close) | (walk1; all_goals (try dsimp only)) | (leave1; walk_say "STEP leave1"; try dsimp only) | fail "no step")
  exact hret _ [] _ _ (by k_asm) (drop_one (drop_one (by k_asm))) ⟨rfl, _, rfl⟩
end

section
abbrev P3 := Int × Int × Int
noncomputable def movesF (ts : List Int) (a b c : Int) : List P3 :=
  (ts.filter (· ≤ a)).map (fun t => (a - t, b, c)) ++ (ts.filter (· ≤ b)).map (fun t => (a, b - t, c)) ++ (ts.filter (· ≤ c)).map (fun t => (a, b, c - t))
noncomputable def get3 (p : P3) : Nat → Int
 | 0 => p.1
 | 1 => p.2.1
 | _ => p.2.2
noncomputable def setP (p : P3) (v : Int) : Nat → P3
 | 0 => (v, p.2.1, p.2.2)
 | 1 => (p.1, v, p.2.2)
 | _ => (p.1, p.2.1, v)
noncomputable def movesPre (ts : List Int) (p : P3) : Nat → List P3
 | 0 => []
 | i + 1 => movesPre ts p i ++ (ts.filter (· ≤ get3 p i)).map fun t => setP p (get3 p i - t) i
theorem item3 {a b c : Int} {ta tb tc : Tok} {i : Nat} {it : Itm} (h : [Itm.pair (fun t => .int 0 t) (.int a ta), .pair (fun t => .int 1 t) (.int b tb), .pair (fun t => .int 2 t) (.int c tc)][i]? = some it) :
    i < 3 ∧ ∃ tx, it = .pair (fun t => .int (i : Int) t) (.int (get3 (a, b, c) i) tx) := by
  rcases i with _ | _ | _ | i
  · exact ⟨by decide, ta, (Option.some.inj h).symm⟩
  · exact ⟨by decide, tb, (Option.some.inj h).symm⟩
  · exact ⟨by decide, tc, (Option.some.inj h).symm⟩
  · cases h
theorem ints3 {ws : List Value} {a b c : Int} (h : IntsAre ws [a, b, c]) : ∃ t1 t2 t3, ws = [.int a t1, .int b t2, .int c t3] := by
  obtain ⟨t1, r1, e1, h1⟩ := h.cons_inv
  obtain ⟨t2, r2, e2, h2⟩ := h1.cons_inv
  obtain ⟨t3, r3, e3, h3⟩ := h2.cons_inv
  rw [h3.nil_inv] at e3
  rw [e3] at e2
  rw [e2] at e1
  exact ⟨t1, t2, t3, e1⟩
theorem setP_list {a b c v : Int} {i : Nat} (hi : i < 3) : List.take (i : Int).toNat [a, b, c] ++ [v] ++ List.drop ((i : Int) + 1).toNat [a, b, c] = [(setP (a, b, c) v i).1, (setP (a, b, c) v i).2.1, (setP (a, b, c) v i).2.2] := by
  rcases i with _ | _ | _ | i
  · rfl
  · rfl
  · rfl
  · omega
theorem movesF_pre (ts : List Int) (a b c : Int) : movesPre ts (a, b, c) 3 = movesF ts a b c := rfl
inductive ItemAt (nw : Led) (o? : Option P3) : Value → Prop
  | mk (X : Addr) (p : P3) (t1 t2 t3 : Tok) (n : Nat) (ho : o? = some p) (hX : (X, listOf [.int p.1 t1, .int p.2.1 t2, .int p.2.2 t3].toArray n) ∈ nw) : ItemAt nw o? (.ref X)
/-- vs are lists in the ledger that hold the triples ps -/
def ListsAre (nw : Led) (vs : List Value) (ps : List P3) : Prop := vs.length = ps.length ∧ ∀ (i : Nat) (v : Value), vs[i]? = some v → ItemAt nw ps[i]? v
theorem ListsAre.nil {nw : Led} : ListsAre nw [] [] := ⟨rfl, fun _ _ h => nomatch h⟩
theorem ListsAre.one {nw : Led} {X : Addr} {p : P3} {t1 t2 t3 : Tok} {n : Nat} (h : (X, listOf [.int p.1 t1, .int p.2.1 t2, .int p.2.2 t3].toArray n) ∈ nw) : ListsAre nw [.ref X] [p] :=
  ⟨rfl, fun i v e => by
    cases i with
    | zero => cases e; exact .mk X p t1 t2 t3 n rfl h
    | succ i => exact nomatch e⟩
theorem ItemAt.mono {nw nw' : Led} {o : Option P3} {v : Value} (x : ItemAt nw o v) (h : ∀ p ∈ nw, p ∈ nw') : ItemAt nw' o v := by
  cases x with
  | mk X p t1 t2 t3 n ho hX => exact .mk X p t1 t2 t3 n ho (h _ hX)
theorem ListsAre.mono {nw nw' : Led} (h : ∀ p ∈ nw, p ∈ nw') {vs : List Value} {ps : List P3} (x : ListsAre nw vs ps) : ListsAre nw' vs ps :=
  ⟨x.1, fun i v e => (x.2 i v e).mono h⟩
theorem ListsAre.append {nw : Led} {vs vs' : List Value} {ps ps' : List P3} (x : ListsAre nw vs ps) (y : ListsAre nw vs' ps') : ListsAre nw (vs ++ vs') (ps ++ ps') := by
  refine ⟨by rw [List.length_append, List.length_append, x.1, y.1], fun i v e => ?_⟩
  rw [List.getElem?_append] at e ⊢
  rw [← x.1]
  split at e
  · rename_i h
    rw [if_pos h]
    exact x.2 i v e
  · rename_i h
    rw [if_neg h]
    exact y.2 _ v e
theorem ListsAre.len {nw : Led} {vs : List Value} {ps : List P3} (x : ListsAre nw vs ps) : vs.length = ps.length := x.1
theorem ListsAre.item {nw : Led} {vs : List Value} {ps : List P3} (h : ListsAre nw vs ps) (i : Nat) (v : Value) (hv : vs[i]? = some v) : ItemAt nw ps[i]? v := h.2 i v hv
noncomputable abbrev tupO (us : List Value) (k : Nat) : Obj := { cls := .type "tuple", data := .seq us.toArray k }
theorem take_fm {α : Type} (f : Int → α) (p : Int → Bool) {ts : List Int} {j : Nat} {k : Int} (h : ts[j]? = some k) :
    ((ts.take (j + 1)).filter p).map f = ((ts.take j).filter p).map f ++ (if p k = true then [f k] else []) := by
  rw [List.take_add_one, h]
  simp only [Option.toList_some, List.filter_append, List.map_append]
  congr 1
  by_cases hp : p k = true
  · simp [List.filter_cons, hp]
  · simp [List.filter_cons, hp]
theorem off1_mem {D : Addr} : ∀ {l : Led}, Off1 D l → ∀ p ∈ l, p.1 ≠ D
  | [], _, _, h => nomatch h
  | _ :: _, x, p, h => by
    rcases List.mem_cons.mp h with rfl | h
    · exact x.1
    · exact off1_mem x.2 p h
theorem News.sub {h₀ h : Heap} {L : Addr} {l l' : Led} (N : News h₀ L h l) (hs : ∀ p ∈ l', p ∈ l) : News h₀ L h l' := fun p hp => N p (hs p hp)
/-- the ledger at a turn -/
noncomputable abbrev mvLed (I R LX : Addr) (oE oI oR o2 o1 oH : Obj) (tl news : Led) : Led := (I + 1, oE) :: (I, oI) :: (R, oR) :: (LX + 1 + 1 + 1, o2) :: (LX + 1 + 1, o1) :: (LX + 1, oH) :: (tl ++ news)
noncomputable abbrev mvNx (R LX : Addr) (oR o2 o1 oH : Obj) (tl news : Led) : Led := (R, oR) :: (LX + 1 + 1 + 1, o2) :: (LX + 1 + 1, o1) :: (LX + 1, oH) :: (tl ++ news)
section
variable {I R LX D : Addr} {oE oI oR o2 o1 oH oD : Obj} {tl tl2 news : Led}
theorem mv_sub1 : ∀ p ∈ [(I + 1, oE), (I, oI), (D, oD)] ++ (R, oR) :: ((LX + 1 + 1 + 1, o2) :: (LX + 1 + 1, o1) :: (LX + 1, oH) :: ((tl2 ++ tl) ++ news)), p ∈ (D, oD) :: (tl2 ++ mvLed I R LX oE oI oR o2 o1 oH tl news) := by
  intro p hp
  simp only [mvLed, List.mem_append, List.mem_cons, List.not_mem_nil, or_false] at hp ⊢
  grind
theorem mv_sub2 : ∀ p ∈ [(I + 1, oE), (I, oI)] ++ mvNx R LX oR o2 o1 oH (tl2 ++ tl) news, p ∈ [(I + 1, oE), (I, oI), (D, oD)] ++ (R, oR) :: ((LX + 1 + 1 + 1, o2) :: (LX + 1 + 1, o1) :: (LX + 1, oH) :: ((tl2 ++ tl) ++ news)) := by
  intro p hp
  simp only [mvNx, List.mem_append, List.mem_cons, List.not_mem_nil, or_false] at hp ⊢
  grind
theorem mv_sub3 : ∀ p ∈ ((R, oR) :: tl) ++ news, p ∈ mvNx R LX oR o2 o1 oH tl news := by
  intro p hp
  simp only [mvNx, List.mem_append, List.mem_cons] at hp ⊢
  grind
theorem mv_off (hab : ∀ q ∈ mvLed I R LX oE oI oR o2 o1 oH tl news, ∀ p ∈ tl2, @LT.lt Nat _ q.1 p.1) (hoff : OwnOff tl [I + 1, I, R, LX + 1 + 1 + 1, LX + 1 + 1, LX + 1]) :
    OwnOff (tl2 ++ tl) [I + 1, I, R, LX + 1 + 1 + 1, LX + 1 + 1, LX + 1] := by
  intro p hp b hb
  rcases List.mem_append.mp hp with hp | hp
  · have key : ∃ o, (b, o) ∈ mvLed I R LX oE oI oR o2 o1 oH tl news := by
      simp only [List.mem_cons, List.not_mem_nil, or_false] at hb
      rcases hb with rfl | rfl | rfl | rfl | rfl | rfl
      · exact ⟨oE, by simp [mvLed]⟩
      · exact ⟨oI, by simp [mvLed]⟩
      · exact ⟨oR, by simp [mvLed]⟩
      · exact ⟨o2, by simp [mvLed]⟩
      · exact ⟨o1, by simp [mvLed]⟩
      · exact ⟨oH, by simp [mvLed]⟩
    obtain ⟨o, ho⟩ := key
    exact Nat.ne_of_gt (hab _ ho p hp)
  · exact hoff p hp b hb
theorem mv_own (hRI : @LT.lt Nat _ R I) (hD : Off1 D (tl2 ++ mvLed I R LX oE oI oR o2 o1 oH tl news)) : ∀ p ∈ [(I + 1, oE), (I, oI), (D, oD)], p.1 ≠ R := by
  intro p hp
  simp only [List.mem_cons, List.not_mem_nil, or_false] at hp
  rcases hp with rfl | rfl | rfl
  · exact Nat.ne_of_gt (Nat.lt_succ_of_lt hRI)
  · exact Nat.ne_of_gt hRI
  · exact Ne.symm (off1_mem hD (R, oR) (by simp [mvLed]))
theorem mv_rest (hLR : @LT.lt Nat _ (LX + 1 + 1 + 1) R) (hlo : Lo news LX) (hoff : OwnOff (tl2 ++ tl) [I + 1, I, R, LX + 1 + 1 + 1, LX + 1 + 1, LX + 1]) : ∀ p ∈ (LX + 1 + 1 + 1, o2) :: (LX + 1 + 1, o1) :: (LX + 1, oH) :: ((tl2 ++ tl) ++ news), p.1 ≠ R := by
  intro p hp
  simp only [List.mem_cons] at hp
  rcases hp with rfl | rfl | rfl | hp
  · exact neN (by dsimp only; omega)
  · exact neN (by dsimp only; omega)
  · exact neN (by dsimp only; omega)
  · rcases List.mem_append.mp hp with hp | hp
    · exact hoff p hp R (by simp)
    · exact Lo.ne hlo (by omega) p hp
theorem mv_apart (hRI : @LT.lt Nat _ R I) (hLR : @LT.lt Nat _ (LX + 1 + 1 + 1) R) (hlo : Lo news LX) (hoff : OwnOff tl [I + 1, I, R, LX + 1 + 1 + 1, LX + 1 + 1, LX + 1]) :
    ∀ p ∈ mvNx R LX oR o2 o1 oH tl news, ∀ q ∈ [(I + 1, oE), (I, oI)], p.1 ≠ q.1 := by
  intro p hp q hq
  have hq' : q.1 = I + 1 ∨ q.1 = I := by
    simp only [List.mem_cons, List.not_mem_nil, or_false] at hq
    rcases hq with rfl | rfl
    · exact .inl rfl
    · exact .inr rfl
  simp only [mvNx, List.mem_cons] at hp
  rcases hp with rfl | rfl | rfl | rfl | hp
  · rcases hq' with e | e <;> rw [e] <;> exact neN (by dsimp only; omega)
  · rcases hq' with e | e <;> rw [e] <;> exact neN (by dsimp only; omega)
  · rcases hq' with e | e <;> rw [e] <;> exact neN (by dsimp only; omega)
  · rcases hq' with e | e <;> rw [e] <;> exact neN (by dsimp only; omega)
  · rcases List.mem_append.mp hp with hp | hp
    · exact hoff p hp q.1 (by rcases hq' with e | e <;> rw [e] <;> simp)
    · rcases hq' with e | e <;> rw [e] <;> exact Lo.ne hlo (by omega) p hp
end
/-- what the comprehension's turns keep -/
inductive MvJ (NX : Led) (f : Int → P3) (p : Int → Bool) (ts : List Int) (j : Nat) (ys : List Value) (nz : Led) : Prop
  | mk (tl2 : Led) (hz : nz = tl2 ++ NX) (hl : ListsAre tl2 ys (((ts.take j).filter p).map f)) (hy : ys.length ≤ j) (ha : ∀ q ∈ NX, ∀ p ∈ tl2, @LT.lt Nat _ q.1 p.1) : MvJ NX f p ts j ys nz
theorem MvJ.sub {NX nz : Led} {f : Int → P3} {p : Int → Bool} {ts : List Int} {j : Nat} {ys : List Value} (h : MvJ NX f p ts j ys nz) : ∀ q ∈ NX, q ∈ nz := by
  obtain ⟨tl2, rfl, _, _, _⟩ := h
  exact fun q hq => List.mem_append_right _ hq
/-- what stands between the turns -/
inductive MovesJ (R LX I : Addr) (oH : Obj) (news : Led) (ts : List Int) (a b c : Int) (i : Nat) (nx : Led) : Prop
  | mk (rs : List Value) (n : Nat) (oA oB : Obj) (xA xB : Option Value) (tl : Led) (hx : nx = mvNx R LX (listOf (List.toArray rs) n) oB oA oH tl news) (hA : oA.data = Data.cell xA) (hB : oB.data = Data.cell xB) (hr : ListsAre tl rs (movesPre ts (a, b, c) i)) (hn : rs.length ≤ 3 * i)
    (ho : OwnOff tl [I + 1, I, R, LX + 1 + 1 + 1, LX + 1 + 1, LX + 1]) : MovesJ R LX I oH news ts a b c i nx
theorem allLt_mem {d : Addr} : ∀ {l : Led}, AllLt d l → ∀ p ∈ l, @LT.lt Nat _ p.1 d
  | [], _, _, hp => nomatch hp
  | _ :: _, h, p, hp => by
    rcases List.mem_cons.mp hp with rfl | hp
    · exact h.1
    · exact allLt_mem h.2 p hp
theorem mvJ_yes {NX nz : Led} {f : Int → P3} {p : Int → Bool} {ts : List Int} {j : Nat} {ys : List Value} {k : Int} {X : Addr} {t1 t2 t3 : Tok} {n : Nat} (h : MvJ NX f p ts j ys nz) (hk : ts[j]? = some k) (hp : p k = true)
    (hX : AllLt X nz) : MvJ NX f p ts (j + 1) (ys ++ [.ref X]) ((X, listOf [.int (f k).1 t1, .int (f k).2.1 t2, .int (f k).2.2 t3].toArray n) :: nz) := by
  obtain ⟨tl2, rfl, hls, hyl, hab⟩ := h
  refine .mk (_ :: tl2) rfl ?_ (by rw [List.length_append, List.length_singleton]; omega) ?_
  · rw [take_fm f p hk, if_pos hp]
    exact (hls.mono fun q hq => List.mem_cons_of_mem _ hq).append (.one List.mem_cons_self)
  · intro q hq r hr
    rcases List.mem_cons.mp hr with rfl | hr
    · exact allLt_mem hX q (List.mem_append_right _ hq)
    · exact hab q hq r hr
theorem mvJ_no {NX nz : Led} {f : Int → P3} {p : Int → Bool} {ts : List Int} {j : Nat} {ys : List Value} {k : Int} (h : MvJ NX f p ts j ys nz) (hk : ts[j]? = some k) (hp : ¬ p k = true) : MvJ NX f p ts (j + 1) ys nz := by
  obtain ⟨tl2, rfl, hls, hyl, hab⟩ := h
  refine .mk tl2 rfl ?_ (by omega) hab
  rw [take_fm f p hk, if_neg hp, List.append_nil]
  exact hls
theorem compEnd_new {h₀ : Heap} {L I C D X : Addr} {m : Str → Option Value} {s₁ : Shared} {oI oC oD o : Obj} {g1 g2 g3 g4 : Addr × Obj} {S : Led → Prop} {rest : Value → Led → Prop} {h' : Heap} {tk : Nat} {nz : Led}
    (F : Fr h₀ L h' m) (N : News h₀ L h' ((X, o) :: g1 :: g2 :: g3 :: g4 :: (I, oI) :: (C, oC) :: (D, oD) :: nz)) (lX : (@LT.lt Nat _ I X) ∧ (@LT.lt Nat _ C X) ∧ (@LT.lt Nat _ D X)) (off : Off3 I C D nz) (hS : S nz) (hm : ∀ nw, S nw → S ((X, o) :: nw)) (r : rest (.ref X) ((X, o) :: nz)) :
    CompEnd h₀ L m s₁ I oI C oC D oD S rest (.ref X) { s₁ with heap := h', toks := tk } :=
  ⟨h', tk, (X, o) :: nz, rfl, F, fun p hp => N p (by
    simp only [List.mem_cons] at hp ⊢
    grind), ⟨⟨Nat.ne_of_gt lX.1, Nat.ne_of_gt lX.2.1, Nat.ne_of_gt lX.2.2⟩, off⟩, hm nz hS, r⟩
set_option maxHeartbeats 8000000 in
theorem moves_ok (w mean mg mb) (H Tk : Addr) (a b c : Int) (ta tb tc : Tok) (nh nt : Nat) (us : List Value) (ts : List Int) (news : Led)
    (hH : (H, listOf [.int a ta, .int b tb, .int c tc].toArray nh) ∈ news) (hT : (Tk, tupO us nt) ∈ news) (hi : IntsAre us ts) (hlen : ts.length ≤ 3) (ht : ∀ x ∈ ts, 0 < x ∧ x < 16)
    (ha : 0 ≤ a ∧ a < 6) (hb : 0 ≤ b ∧ b < 6) (hc : 0 ≤ c ∧ c < 6) :
    Says w mean mg mb 251 [.ref H, .ref Tk] news 8 (fun r tl => ∃ R rs n, r = .ref R ∧ (R, listOf (List.toArray rs) n) ∈ tl ∧ ListsAre tl rs (movesF ts a b c)) := by
  obtain ⟨ha0, ha1⟩ := ha
  obtain ⟨hb0, hb1⟩ := hb
  obtain ⟨hc0, hc1⟩ := hc
  unfold Says
  k_with_none
  k_with "mine room" => (first | decide | (refine room_of (by assumption) ?_; (try simp only [depth_under_make, depth_under_kw, depth_in1, depth_deeper, depth_ktr, Nat.add_assoc]); first | exact Nat.add_le_add_left (by decide) _ | exact Nat.le_add_right _ _))
  k_with "mine units" => (first | decide | (refine units_of (by assumption) ?_; (try simp only [units_in1, units_deeper, Around.mark_units, units_ktr, Nat.add_assoc]); first | exact Nat.add_le_add_left (by decide) _ | exact Nat.le_add_right _ _))
  k_with "mine enter" => (refine' code_def ?k1 ?k2 ?k3 ?k4 ?k5 ?kA ?kF ?kK ?k6 ?k7 ?k8 ?k9 ?kB ?_ ?c2 ?c3 ?c4 ?c5; (case kA => exact rfl); (case kF => exact rfl); (case kK => first | assumption | exact rfl); (case k1 => k_asm); (case k2 => k_asm); (case k3 => k_asm); (case k4 => k_asm); (case k5 => k_asm); (case k6 => k_is); (case k7 => k_is); (case k8 => walk_at "mine room"); (case k9 => first | exact BindsTo.of_eq rfl | exact binds_K (by k_in) rfl (by k_is) rfl rfl rfl); (case c5 => decide); (case kB => exact locs rfl); (case c2 => exact rfl); (case c3 => exact rfl); (case c4 => exact rfl); k_whole; intro _ _ _ _ _ _ _ _ _; (try dsimp only); (try k_fold))
  k_with "mine args" => ((case k1 => k_asm); (case k2 => k_asm); (case k3 => k_asm); (case k4 => k_asm); (case k5 => k_asm); (case kK => first | exact rfl | assumption); (case kd => walk_at "mine room"); (case ku => walk_at "mine units"))
  k_with "mine pure" => (intro _ _ _ _ _ N' hok'; obtain ⟨ee', hok'⟩ := hok'; subst ee'; (first | (obtain ⟨t', ee'⟩ := hok'; subst ee') | subst hok'); (simp only [List.nil_append] at N'); (try dsimp only); (try k_fold))
  k_with "mine use" => (walk_at "mine args"; k_whole; walk_at "mine pure")
  k_with "call ref" => (k_here; k_dflt (refine wpAny_call ?_; walk_at "mine enter"))
  k_with "mine all" => (first | exact all_app (OwnOff.ne (by assumption) (by k_memK)) (Lo.ne (by assumption) (by omega)) | exact Lo.ne (by assumption) (by omega))
  k_with "eval ListComp" => (k_here; k_dflt (refine ListComp_tup (F₀ := by k_asm) (by with_unfolding_all rfl) (by decide) (by rfl) (by decide) (by rfl) ?_ (by intro _; rfl)))
  k_fill
  intro dp un gd cn cs ad ccd cl outer A₀ base h₀ L m s Q E B F X N T hk hdp hun hret
  refine wpAny_call ?_
  k_dflt (refine' code_defC (binds := [(Str.ofString "heaps", .ref H), (Str.ofString "takes", .ref Tk)]) ?k1 ?k2 ?k3 ?k4 ?k5 ?kA ?kF ?kK ?k6 ?k7 ?k8 ?k9 ?kB ?kD ?_ ?c2 ?c3 ?c4; (case kA => exact rfl); (case kF => exact rfl); (case kK => first | assumption | exact rfl); (case k1 => k_asm); (case k2 => k_asm); (case k3 => k_asm); (case k4 => k_asm); (case k5 => k_asm); (case k6 => k_is); (case k7 => k_is); (case k8 => walk_at "mine room"); (case k9 => first | exact BindsTo.of_eq rfl | exact binds_K (by k_in) rfl (by k_is) rfl rfl rfl); (case kB => exact rfl); (case kD => decide +kernel); (case c2 => exact rfl); (case c3 => exact rfl); (case c4 => exact rfl); k_whole; intro gX LX h1X tk1X cellsX FGX F' N' Y' BX XX TX l1; (have loX := Lo.of l1); clear l1; k_cells Y'; (try simp only [List.cons_append, List.nil_append] at N'); (try dsimp only); (try k_fold))
  repeat' (first | (k_unfold; (try dsimp only)) | (k_end; wrow_close) | (walk1; all_goals (try dsimp only)) | (leave1; walk_say "STEP leave1"; try dsimp only) | fail "no step")
  rename Fr _ _ _ _ => F9
  refine For_turns F9 ?_
  repeat' (first | (k_unfold; (try dsimp only)) | (k_end; wrow_close) | (walk1; all_goals (try dsimp only)) | (leave1; walk_say "STEP leave1"; try dsimp only) | fail "no step")
  rename_i oB oA oH dB dA dH R h2X lR h3X N9
  refine ktu_enum (lo := listOf [.int a ta, .int b tb, .int c tc].toArray nh) (vs := [.int a ta, .int b tb, .int c tc]) (xs := [.pair (fun t => .int 0 t) (.int a ta), .pair (fun t => .int 1 t) (.int b tb), .pair (fun t => .int 2 t) (.int c tc)]) (by rfl) F9 N9 (by k_mem) (by rfl) (by rfl) (by rfl) ?_
  intro I lI
  clear F9 N9
  have hRI : @LT.lt Nat _ R I := lI _ (List.Mem.head _)
  have hLR : @LT.lt Nat _ (LX + 1 + 1 + 1) R := lR.1
  clear lI lR
  refine items_inv1 (J := MovesJ R LX I oH news ts a b c) _ ?_ ?_ ?_
  · intro i it nx hit hJJ v h9 tk9 hv F9
    intro oE hE oI hI N9
    try k_fold
    obtain ⟨rs, n, oA', oB', xA, xB, tl, rfl, hA', hB', hrs, hrl, hoff⟩ := hJJ
    simp only [List.cons_append, List.nil_append] at N9
    replace F9 : Fr gX LX h9 _ := F9
    replace N9 : News gX LX h9 _ := N9
    have hT' : (Tk, tupO us nt) ∈ tl ++ news := List.mem_append_right _ hT
    have hH' : (H, listOf [.int a ta, .int b tb, .int c tc].toArray nh) ∈ tl ++ news := List.mem_append_right _ hH
    have hul := hi.length
    have hus : us.length ≤ sizeLine := by rw [hul, sizeLine_eq]; omega
    obtain ⟨hi3, tx, rfl⟩ := item3 hit
    obtain ⟨T9, t9, rfl, hT9⟩ := hv
    dsimp only at hT9
    generalize hx : get3 (a, b, c) i = x at hT9
    repeat' (first | (k_unfold; (try dsimp only)) | (k_end; wrow_close) | (walk1; all_goals (try dsimp only)) | (leave1; walk_say "STEP leave1"; try dsimp only) | fail "no step")
    rename_i h1Y h2Y o1Y d1Y h3Y o2Y FY NY d2Y
    obtain ⟨NX, hNX⟩ : ∃ NX, NX = mvLed I R LX oE oI (listOf (List.toArray rs) n) o2Y o1Y oH tl news := ⟨_, rfl⟩
    replace NY : News gX LX h3Y NX := by rw [hNX]; exact NY
    have m1 : (LX + 1 + 1 + 1, o2Y) ∈ NX := by rw [hNX]; k_memK
    have m2 : (LX + 1 + 1, o1Y) ∈ NX := by rw [hNX]; k_memK
    have m3 : (LX + 1, oH) ∈ NX := by rw [hNX]; k_memK
    have m4 : (Tk, tupO us nt) ∈ NX := by rw [hNX]; iterate 6 refine List.mem_cons_of_mem _ ?_
                                          exact hT'
    have m5 : (H, listOf [.int a ta, .int b tb, .int c tc].toArray nh) ∈ NX := by rw [hNX]; iterate 6 refine List.mem_cons_of_mem _ ?_
                                                                                  exact hH'
    refine ⟨Tk, tupO us nt, us, nt, NX, rfl, by rfl, by k_asm, by k_asm, m4, rfl, rfl, hus, ?_⟩
    rintro s₂ ⟨hz, rfl⟩
    refine compT_inv (Jv := MvJ NX (fun t => setP (a, b, c) (x - t) i) (· ≤ x) ts) (.mk [] rfl .nil (Nat.le_refl _) fun _ _ _ hp => nomatch hp) ?_ ?_
    · intro j ys nz hj hJ v I2 oI2 C2 oC2 D2 mm2 hh2 tk2 E2 hP hC2 hx2 F2 N2 off2 ne2
      try k_fold
      obtain ⟨k9, u9, rfl, hk9⟩ := hi.at j v hP
      have hm1 := hJ.sub _ m1
      have hm2 := hJ.sub _ m2
      have hm3 := hJ.sub _ m3
      have hm4 := hJ.sub _ m4
      have hm5 := hJ.sub _ m5
      clear m1 m2 m3 m5 NY hNX
      k_steps
      · rename k9 ≤ _ => hyes
        rename _ ∧ _ ∧ _ ∧ _ ∧ _ ∧ _ ∧ _ ∧ AllLt _ _ => lX9
        rename Fr _ _ _ _ => Fy
        rename News _ _ _ _ => Ny
        rename IntsAre _ (_ ++ _ ++ _) => hI9
        rw [setP_list hi3] at hI9
        obtain ⟨t1, t2, t3, e9⟩ := ints3 hI9
        rw [e9] at Ny
        exact compEnd_new Fy Ny ⟨lX9.2.2.2.2.1, lX9.2.2.2.2.2.1, lX9.2.2.2.2.2.2.1⟩ off2 hm4 (fun nw h => List.mem_cons_of_mem _ h) (mvJ_yes hJ hk9 (by simpa using hyes) lX9.2.2.2.2.2.2.2)
      · rename ¬ (k9 ≤ _) => hno
        rename Fr _ _ _ _ => Fy
        rename News _ _ _ _ => Ny
        exact compEnd_same Fy Ny off2 hm4 (mvJ_no hJ hk9 (by simpa using hno))
    · intro ys nz hJJ D9 hD9 tkD FD ND oD
      dsimp only
      try k_fold
      obtain ⟨tl2, rfl, hls, hyl, hab⟩ := hJJ
      rw [List.take_of_length_le (by omega)] at hls
      subst hNX
      repeat' (first | (k_unfold; (try dsimp only)) | (k_end; wrow_close) | (walk1; all_goals (try dsimp only)) | (leave1; walk_say "STEP leave1"; try dsimp only) | fail "no step")
      have hoff2 := mv_off hab hoff
      rename Fr _ _ _ _ => Fe
      rename News _ _ _ _ => Ne
      try k_fold
      refine extend_in (ys := rs) (own := [(I + 1, oE), (I, oI), (D9, lst ys)]) (rest := (LX + 1 + 1 + 1, o2Y) :: (LX + 1 + 1, o1Y) :: (LX + 1, oH) :: ((tl2 ++ tl) ++ news)) Fe (News.sub Ne mv_sub1) (mv_own hRI oD) (mv_rest hLR loX hoff2) (Ne.get List.mem_cons_self) ?_ (by rw [List.size_toArray, sizeLine_eq]; omega)
      intro h8 n8 F8 N8
      repeat' (first | (k_unfold; (try dsimp only)) | (k_end; wrow_close) | (walk1; all_goals (try dsimp only)) | (leave1; walk_say "STEP leave1"; try dsimp only) | fail "no step")
      refine ⟨_, _, _, _, rfl, F8, News.sub N8 mv_sub2, mv_apart hRI hLR loX hoff2, ⟨?_, trivial⟩, rfl, .mk _ n8 o1Y o2Y _ _ (tl2 ++ tl) rfl d1Y d2Y ?_ ?_ hoff2⟩
      · simp [mvNx, hH]
      · unfold movesPre
        rw [hx]
        exact ((hrs.mono fun q hq => List.mem_append_right _ hq).append (hls.mono fun q hq => List.mem_append_left _ hq))
      · simp only [List.length_append]; omega
  · intro nx h9 tk9 hJJ F9 N9
    dsimp only
    try k_fold
    obtain ⟨rs, n, oA', oB', xA, xB, tl, rfl, hA', hB', hrs, hrl, hoff⟩ := hJJ
    replace F9 : Fr gX LX h9 _ := F9
    replace N9 : News gX LX h9 _ := N9
    repeat' (first | (k_unfold; (try dsimp only)) | (k_end; wrow_close) | (walk1; all_goals (try dsimp only)) | (leave1; walk_say "STEP leave1"; try dsimp only) | fail "no step")
    rename Fr _ _ _ _ => Fe
    rename News _ _ _ _ => Ne
    exact hret (.ref R) ((R, listOf (List.toArray rs) n) :: tl) _ _ Fe (News.sub Ne mv_sub3) ⟨R, rs, n, rfl, List.mem_cons_self, hrs.mono fun p hp => List.mem_cons_of_mem _ hp⟩
  · exact .mk [] 0 oA oB _ _ [] rfl dA dB .nil (Nat.zero_le _) fun _ hp => nomatch hp
end

section
structure Stop (P : Prop) : Prop where
  out : P
theorem PostX.ret {h₀ : Heap} {L I : Addr} {it : Obj} {keep : Led} {J : (Str → Option Value) → Led → Prop} {s₁ s₂ : Shared} {Q : Flow → Shared → Prop} {v : Value} (h : Q (.ret v) s₂) : PostX h₀ L keep J I it s₁ Q (.ret v) s₂ := h
noncomputable def menus : List (List Int) := [[1, 2], [1, 3], [1, 3, 4], [2, 3], [1, 2, 3], [1, 4]]
noncomputable def maskStep (found : List Int) (heap mask many : Int) : Int :=
  if many ≤ heap then Builtin.bitOr mask (2 ^ (found.getD (heap - many).toNat 0).toNat) else mask
noncomputable def maskOf (ts found : List Int) (heap : Int) (j : Nat) : Int := (ts.take j).foldl (maskStep found heap) 0
noncomputable def lowBit (m : Int) : Int := Builtin.bitAnd (-1 - m) (0 - (-1 - m))
noncomputable def lbIdx (x : Int) : Nat := if x = 1 then 0 else if x = 2 then 1 else if x = 4 then 2 else 3
noncomputable def worthsPre (ts : List Int) : Nat → List Int
  | 0 => []
  | n + 1 => worthsPre ts n ++ [(lbIdx (lowBit (maskOf ts (worthsPre ts n) n ts.length)) : Int)]
noncomputable abbrev tabOf (ts : List Int) : List Int := worthsPre ts 6
theorem worthsPre_len (ts : List Int) : ∀ n, (worthsPre ts n).length = n
  | 0 => rfl
  | n + 1 => by rw [worthsPre, List.length_append, worthsPre_len ts n]; rfl
theorem menu_facts : ∀ ts ∈ menus, ts.length ≤ 3 ∧ ∀ x ∈ ts, 0 < x ∧ x < 16 := by decide +kernel
theorem menu_masks : ∀ ts ∈ menus, ∀ i < 6, ∀ j < 4, 0 ≤ maskOf ts (worthsPre ts i) i j ∧ maskOf ts (worthsPre ts i) i j < 16 := by decide +kernel
theorem menu_bits : ∀ ts ∈ menus, ∀ i < 6, lowBit (maskOf ts (worthsPre ts i) i ts.length) = 1 ∨ lowBit (maskOf ts (worthsPre ts i) i ts.length) = 2 ∨ lowBit (maskOf ts (worthsPre ts i) i ts.length) = 4 ∨ lowBit (maskOf ts (worthsPre ts i) i ts.length) = 8 := by decide +kernel
theorem lbIdx_lt (x : Int) : lbIdx x < 4 := by
  unfold lbIdx
  split
  · decide
  · split
    · decide
    · split <;> decide
theorem worthsPre_small (ts : List Int) : ∀ n, ∀ x ∈ worthsPre ts n, 0 ≤ x ∧ x < 4
  | 0, _, h => nomatch h
  | n + 1, x, h => by
    rw [worthsPre] at h
    rcases List.mem_append.mp h with h | h
    · exact worthsPre_small ts n x h
    · rw [List.mem_singleton.mp h]
      have := lbIdx_lt (lowBit (maskOf ts (worthsPre ts n) n ts.length))
      omega
theorem maskOf_succ {ts found : List Int} {heap k : Int} {j : Nat} (h : ts[j]? = some k) : maskOf ts found heap (j + 1) = maskStep found heap (maskOf ts found heap j) k := by
  unfold maskOf
  rw [List.take_add_one, h]
  simp
theorem kf_bits {x : Int} (h : x = 1 ∨ x = 2 ∨ x = 4 ∨ x = 8) (t1 t2 t3 t4 : Tok) : kf_at x [.int 1 t1, .int 2 t2, .int 4 t3, .int 8 t4] = some (lbIdx x) := by
  rcases h with rfl | rfl | rfl | rfl <;> rfl
theorem worth_get {ws : List Value} {found : List Int} {a : Int} (hi : IntsAre ws found) (ht : ∀ x ∈ found, 0 ≤ x ∧ x < 4) (h0 : 0 ≤ a) (h1 : a < found.length) :
    ∃ t, ws.toArray[a.toNat]? = some (.int (found.getD a.toNat 0) t) ∧ 0 ≤ found.getD a.toNat 0 ∧ found.getD a.toNat 0 < 4 := by
  have hlt : a.toNat < found.length := by omega
  have e : found[a.toNat]? = some (found.getD a.toNat 0) := by simp [hlt]
  obtain ⟨t, hx⟩ := hi.get a.toNat _ e
  exact ⟨t, by simpa using hx, ht _ (List.mem_of_getElem? e)⟩
theorem pow_small {v : Int} (h0 : 0 ≤ v) (h1 : v < 4) : (0 : Int) ≤ 2 ^ v.toNat ∧ (2 : Int) ^ v.toNat < 16 := by
  have : v = 0 ∨ v = 1 ∨ v = 2 ∨ v = 3 := by omega
  rcases this with rfl | rfl | rfl | rfl <;> decide
section
variable {m : Str → Option Value} {a b c d : Str} {u v x y : Option Value}
theorem map1 (ha : m a = u) : (fun z => if z = a then u else m z) = m := by
  funext z
  by_cases h1 : z = a
  · rw [if_pos h1, h1, ha]
  · rw [if_neg h1]
theorem map2 (ha : m a = u) (hb : m b = v) : (fun z => if z = a then u else if z = b then v else m z) = m := by
  funext z
  by_cases h1 : z = a
  · rw [if_pos h1, h1, ha]
  · rw [if_neg h1]
    by_cases h2 : z = b
    · rw [if_pos h2, h2, hb]
    · rw [if_neg h2]
theorem map3 (ha : m a = u) (hb : m b = v) (hc : m c = x) : (fun z => if z = a then u else if z = b then v else if z = c then x else m z) = m := by
  funext z
  by_cases h1 : z = a
  · rw [if_pos h1, h1, ha]
  · rw [if_neg h1]
    by_cases h2 : z = b
    · rw [if_pos h2, h2, hb]
    · rw [if_neg h2]
      by_cases h3 : z = c
      · rw [if_pos h3, h3, hc]
      · rw [if_neg h3]
theorem map4 (ha : m a = u) (hb : m b = v) (hc : m c = x) (hd : m d = y) : (fun z => if z = a then u else if z = b then v else if z = c then x else if z = d then y else m z) = m := by
  funext z
  by_cases h1 : z = a
  · rw [if_pos h1, h1, ha]
  · rw [if_neg h1]
    by_cases h2 : z = b
    · rw [if_pos h2, h2, hb]
    · rw [if_neg h2]
      by_cases h3 : z = c
      · rw [if_pos h3, h3, hc]
      · rw [if_neg h3]
        by_cases h4 : z = d
        · rw [if_pos h4, h4, hd]
        · rw [if_neg h4]
end
end

section
inductive WorthJ (Tk R : Addr) (ts : List Int) (news : Led) (i : Nat) (m : Str → Option Value) (nx : Led) : Prop
  | mk (ws : List Value) (n : Nat) (h1 : m (Str.ofString "takes") = some (.ref Tk)) (h2 : m (Str.ofString "found") = some (.ref R)) (hx : nx = (R, listOf (List.toArray ws) n) :: news) (hw : IntsAre ws (worthsPre ts i)) : WorthJ Tk R ts news i m nx
inductive MaskJ (Tk R : Addr) (ts : List Int) (i : Nat) (all : Led) (j : Nat) (m : Str → Option Value) (nx : Led) : Prop
  | mk (t t' : Tok) (h1 : m (Str.ofString "takes") = some (.ref Tk)) (h2 : m (Str.ofString "found") = some (.ref R)) (h3 : m (Str.ofString "heap") = some (.int i t)) (h4 : m (Str.ofString "mask") = some (.int (maskOf ts (worthsPre ts i) i j) t')) (hx : nx = all) : MaskJ Tk R ts i all j m nx
set_option maxHeartbeats 8000000 in
theorem worths_ok (w mean mg mb) (Tk : Addr) (nt : Nat) (us : List Value) (ts : List Int) (news : Led)
    (hT : (Tk, tupO us nt) ∈ news) (hi : IntsAre us ts) (hm : ts ∈ menus) :
    Says w mean mg mb 241 [.ref Tk] news 10 (fun r tl => ∃ R ws n, r = .ref R ∧ tl = [(R, listOf (List.toArray ws) n)] ∧ IntsAre ws (tabOf ts)) := by
  obtain ⟨hlen, hts⟩ := menu_facts ts hm
  unfold Says
  k_with_none
  k_with "mine room" => (first | decide | (refine room_of (by assumption) ?_; (try simp only [depth_under_make, depth_under_kw, depth_in1, depth_deeper, depth_ktr, Nat.add_assoc]); first | exact Nat.add_le_add_left (by decide) _ | exact Nat.le_add_right _ _))
  k_with "mine units" => (first | decide | (refine units_of (by assumption) ?_; (try simp only [units_in1, units_deeper, Around.mark_units, units_ktr, Nat.add_assoc]); first | exact Nat.add_le_add_left (by decide) _ | exact Nat.le_add_right _ _))
  k_with "mine enter" => (refine' code_def ?k1 ?k2 ?k3 ?k4 ?k5 ?kA ?kF ?kK ?k6 ?k7 ?k8 ?k9 ?kB ?_ ?c2 ?c3 ?c4 ?c5; (case kA => exact rfl); (case kF => exact rfl); (case kK => first | assumption | exact rfl); (case k1 => k_asm); (case k2 => k_asm); (case k3 => k_asm); (case k4 => k_asm); (case k5 => k_asm); (case k6 => k_is); (case k7 => k_is); (case k8 => walk_at "mine room"); (case k9 => first | exact BindsTo.of_eq rfl | exact binds_K (by k_in) rfl (by k_is) rfl rfl rfl); (case c5 => decide); (case kB => exact locs rfl); (case c2 => exact rfl); (case c3 => exact rfl); (case c4 => exact rfl); k_whole; intro _ _ _ _ _ _ _ _ _; (try dsimp only); (try k_fold))
  k_with "mine args" => ((case k1 => k_asm); (case k2 => k_asm); (case k3 => k_asm); (case k4 => k_asm); (case k5 => k_asm); (case kK => first | exact rfl | assumption); (case kd => walk_at "mine room"); (case ku => walk_at "mine units"))
  k_with "mine pure" => (intro _ _ _ _ _ N' hok'; obtain ⟨ee', hok'⟩ := hok'; subst ee'; (first | (obtain ⟨t', ee'⟩ := hok'; subst ee') | subst hok'); (simp only [List.nil_append] at N'); (try dsimp only); (try k_fold))
  k_with "mine use" => (walk_at "mine args"; k_whole; walk_at "mine pure")
  k_with "call ref" => (k_here; k_dflt (refine wpAny_call ?_; walk_at "mine enter"))
  k_with "mine all" => (first | exact all_app (OwnOff.ne (by assumption) (by k_memK)) (Lo.ne (by assumption) (by omega)) | exact Lo.ne (by assumption) (by omega))
  k_with "pyIter ref" => ((with_reducible show wpAny _ _ (pyIter _) _ _ _); refine Stop.out ?_)
  k_with "call ref" => (k_here; (try k_fold); k_dflt (first | (refine' Says.use (logic_or _ _ _ _ _ _ _ _ _ _ _ ?kp ?kq) ?k1 ?k2 ?k3 ?k4 ?k5 ?kK ?kd ?ku ?_; (case kp => omega); (case kq => omega); walk_at "mine use") | (refine' Says.use (pow_ok _ _ _ _ _ _ _ _ _ _ _ ?kp) ?k1 ?k2 ?k3 ?k4 ?k5 ?kK ?kd ?ku ?_; (case kp => omega); walk_at "mine use") | (refine' Says.use (inverted_ok _ _ _ _ _ _ _ _ ?kp) ?k1 ?k2 ?k3 ?k4 ?k5 ?kK ?kd ?ku ?_; (case kp => omega); walk_at "mine use") | (refine' Says.use (logic_and _ _ _ _ _ _ _ _ _ _ _ ?kp ?kq) ?k1 ?k2 ?k3 ?k4 ?k5 ?kK ?kd ?ku ?_; (case kp => omega); (case kq => omega); walk_at "mine use") | refine Stop.out ?_))
  k_fill
  intro dp un gd cn cs ad ccd cl outer A₀ base h₀ L m s Q E B F X N T hk hdp hun hret
  refine wpAny_call ?_
  k_dflt (refine' code_def (binds := [(Str.ofString "takes", .ref Tk)]) ?k1 ?k2 ?k3 ?k4 ?k5 ?kA ?kF ?kK ?k6 ?k7 ?k8 ?k9 ?kB ?_ ?c2 ?c3 ?c4 ?c5; (case kA => exact rfl); (case kF => exact rfl); (case kK => first | assumption | exact rfl); (case k1 => k_asm); (case k2 => k_asm); (case k3 => k_asm); (case k4 => k_asm); (case k5 => k_asm); (case k6 => k_is); (case k7 => k_is); (case k8 => walk_at "mine room"); (case k9 => first | exact BindsTo.of_eq rfl | exact binds_K (by k_in) rfl (by k_is) rfl rfl rfl); (case c5 => decide); (case kB => exact locs rfl); (case c2 => exact rfl); (case c3 => exact rfl); (case c4 => exact rfl); k_whole; intro _ _ _ _ _ _ _ _ _; (try dsimp only); (try k_fold))
  repeat' (first | (k_unfold; (try dsimp only)) | (k_end; wrow_close) | (walk1; all_goals (try dsimp only)) | (leave1; walk_say "STEP leave1"; try dsimp only) | fail "no step")
  refine Stop.mk ?_
  first
    | (rename_i g0 L0 h0 FG0 B0 X0 T0 R h1 l1 F1 N1 tk1 h2 tk2 t1 u1 v1 hr F2 N2 k2; have chk : ∀ p ∈ news, p.1 < R := l1)
    | (rename_i g0 L0 h0 FG0 B0 X0 T0 R h1 l1 F1 N1 e1 tk1 h2 tk2 t1 u1 v1 hr F2 N2 k2; have chk : ∀ p ∈ news, p.1 < R := l1)
  refine iter_range (a₀ := 0) (b₀ := 6) (n := 6) (WorthJ Tk R ts news) (by rfl) hr (by rfl) (by rfl) F2 N2 (.mk [] 0 (by rfl) (by rfl) rfl .nil) ?_ ?_
  · intro i ti m₁ nx h3 tk3 I it hcI hi6 hoff hJJ F3 N3
    try k_fold
    obtain ⟨ws, n, hm1, hm2, rfl, hws⟩ := hJJ
    rw [← map2 hm1 hm2, Int.zero_add] at F3
    have hmask := menu_masks ts hm i hi6
    have hbits := menu_bits ts hm i hi6
    have hwl := worthsPre_len ts i
    have hwsm := worthsPre_small ts i
    have hTR : Tk ≠ R := Nat.ne_of_lt (l1 _ hT)
    have hT3 : (Tk, tupO us nt) ∈ (I, it) :: (R, listOf (List.toArray ws) n) :: news := by simp [hT]
    repeat' (first | (k_unfold; (try dsimp only)) | (k_end; wrow_close) | (walk1; all_goals (try dsimp only)) | (leave1; walk_say "STEP leave1"; try dsimp only) | fail "no step")
    refine Stop.mk ?_
    rename Fr g0 _ _ _ => F4
    rename News g0 _ _ _ => N4
    refine iter_tup (MaskJ Tk R ts i ((I, it) :: (R, listOf (List.toArray ws) n) :: news)) (by rfl) hT3 rfl rfl F4 N4 (.mk _ _ (by rfl) (by rfl) (by rfl) (by rfl) rfl) ?_ ?_
    · intro j v m₂ nx h5 tk5 I2 it2 hcI2 hv hoff2 hin2 hJJ F5 N5
      try k_fold
      obtain ⟨t3, t4, hm1', hm2', hm3', hm4', rfl⟩ := hJJ
      rename IntsAre us _ => hi
      obtain ⟨k, u, rfl, hk⟩ := hi.at j v hv
      have hjl : j < ts.length := (List.getElem?_eq_some_iff.mp hk).1
      obtain ⟨hk0, hk1⟩ := hts k (List.mem_of_getElem? hk)
      have hmj := hmask j (by omega)
      have hms := hmask (j + 1) (by omega)
      have hmstep := maskOf_succ (found := worthsPre ts i) (heap := i) hk
      unfold maskStep at hmstep
      rw [← map4 hm1' hm2' hm3' hm4'] at F5
      clear hm1' hm2' hm3' hm4' hmask hbits
      generalize maskOf ts (worthsPre ts i) i j = mk at *
      by_cases hki : k ≤ (i : Int)
      · rw [if_pos hki] at hmstep
        rename IntsAre ws _ => hws
        obtain ⟨tv, hget, hv0, hv1⟩ := worth_get (a := (i : Int) - k) hws hwsm (by omega) (by omega)
        clear hget
        have hpow := pow_small hv0 hv1
        repeat' (first | (k_unfold; (try dsimp only)) | (k_end; wrow_close) | (walk1; all_goals (try dsimp only)) | (leave1; walk_say "STEP leave1"; try dsimp only) | fail "no step")
        rename Fr g0 _ _ _ => F6
        rename News g0 _ _ _ => N6
        exact EndX.intro ((I, it) :: (R, listOf (List.toArray ws) n) :: news) F6 N6 List.mem_cons_self (fun p hp => List.mem_cons_of_mem _ hp) hoff2 (fun p hp => by rw [List.mem_singleton.mp hp]; exact hT3) (.mk _ _ (by rfl) (by rfl) (by rfl) (by rw [hmstep]; rfl) rfl)
      · rw [if_neg hki] at hmstep
        repeat' (first | (k_unfold; (try dsimp only)) | (k_end; wrow_close) | (walk1; all_goals (try dsimp only)) | (leave1; walk_say "STEP leave1"; try dsimp only) | fail "no step")
        rename Fr g0 _ _ _ => F6
        rename News g0 _ _ _ => N6
        exact EndX.intro ((I, it) :: (R, listOf (List.toArray ws) n) :: news) F6 N6 List.mem_cons_self (fun p hp => List.mem_cons_of_mem _ hp) hoff2 (fun p hp => by rw [List.mem_singleton.mp hp]; exact hT3) (.mk _ _ (by rfl) (by rfl) (by rfl) (by rw [hmstep]; rfl) rfl)
    · intro m₂ nx h5 tk5 hin2 hJJ F5 N5
      dsimp only
      try k_fold
      obtain ⟨t3, t4, hm1', hm2', hm3', hm4', rfl⟩ := hJJ
      have hlu : us.length = ts.length := by rename IntsAre us _ => hi; exact hi.length
      rw [hlu] at hm4'
      rw [← map4 hm1' hm2' hm3' hm4'] at F5
      clear hm1' hm2' hm3' hm4'
      have hmj := hmask ts.length (by omega)
      have hRI : @Ne Nat R I := hoff _ List.mem_cons_self
      have hlo : Lo news R := Lo.of l1
      have hW : worthsPre ts (i + 1) = worthsPre ts i ++ [(lbIdx (lowBit (maskOf ts (worthsPre ts i) i ts.length)) : Int)] := rfl
      unfold lowBit at hbits hW
      generalize maskOf ts (worthsPre ts i) i ts.length = mk at *
      repeat' (first | (k_unfold; (try dsimp only)) | (k_end; wrow_close) | (walk1; all_goals (try dsimp only)) | (leave1; walk_say "STEP leave1"; try dsimp only) | fail "no step")
      refine kf_index (by k_asm) (by k_mem) (by rfl) (kf_bits hbits _ _ _ _) rfl (Nat.le_of_ble_eq_true rfl) ?_
      repeat' (first | (k_unfold; (try dsimp only)) | (k_end; wrow_close) | (walk1; all_goals (try dsimp only)) | (leave1; walk_say "STEP leave1"; try dsimp only) | fail "no step")
      rename Fr g0 _ _ _ => F6
      rename News g0 _ _ _ => N6
      rename IntsAre ws _ => hws
      simp only [List.push_toArray] at N6
      refine EndX.intro ((R, _) :: news) F6 N6 (List.mem_cons_of_mem _ List.mem_cons_self) (fun p hp => List.mem_cons_of_mem _ (List.mem_cons_of_mem _ hp)) ?_ (fun p hp => nomatch hp) (.mk _ _ (by rfl) (by rfl) rfl ?_)
      · intro p hp
        rcases List.mem_cons.mp hp with rfl | hp
        · exact hRI
        · exact hoff p (List.mem_cons_of_mem _ hp)
      · rw [hW]
        exact hws.append (.cons _ _ .nil)
  · intro m₁ nx h3 tk3 hJJ F3 N3
    dsimp only
    try k_fold
    obtain ⟨ws, n, hm1, hm2, rfl, hws⟩ := hJJ
    rw [← map2 hm1 hm2] at F3
    repeat' (first | (k_unfold; (try dsimp only)) | (k_end; wrow_close) | (walk1; all_goals (try dsimp only)) | (leave1; walk_say "STEP leave1"; try dsimp only) | fail "no step")
    rename Fr h₀ L h3 _ => Fe
    exact hret (.ref R) [(R, listOf (List.toArray ws) n)] h3 _ Fe (by k_asm) ⟨R, ws, n, rfl, rfl, hws⟩
end

section
abbrev LostTab (w : World) (nw : Led) (D : Addr) (T : List (PyData × PyData)) : Prop := TupTab (intKind PySem.Challenge.rw_xm0036_01.row.prog w) PyData.int nw D T
theorem LostTab.mono {w : World} {nw nw' : Led} {D : Addr} {T : List (PyData × PyData)} (t : LostTab w nw D T) (hs : ∀ p ∈ nw, p ∈ nw') : LostTab w nw' D T := by
  obtain ⟨lo, o, es, ep, xs, hm, hc, hd, he, hn, hk, hf⟩ := t
  exact ⟨lo, o, es, ep, xs, hs _ hm, hc, hd, he, hn, fun x hx => (hk x hx).imp fun _ h => ⟨hs _ h.1, h.2⟩, hf⟩
theorem itemsAre_of {prog : Program} {w : World} {vs : List Value} {ns : List Int} (h : IntsAre vs ns) : ItemsAre (intKind prog w) ns vs := by
  induction h with
  | nil => exact .nil
  | cons n t _ ih => exact .cons (intKind_is prog w n t) ih
noncomputable def listP (o : P3) : List Int := [o.1, o.2.1, o.2.2]
inductive LostJ (D : Addr) (all : Led) (ps : List P3) (f : P3 → Bool) (i : Nat) (m : Str → Option Value) (nx : Led) : Prop
  | mk (h1 : m (Str.ofString "lost") = some (.ref D)) (hx : nx = all) (ha : (ps.take i).any f = false) : LostJ D all ps f i m nx
set_option maxHeartbeats 8000000 in
theorem lost_ok (w mean mg mb) (H Tk D : Addr) (a b c : Int) (ta tb tc : Tok) (nh nt : Nat) (us : List Value) (ts : List Int) (T₀ : List (PyData × PyData)) (f : P3 → Bool) (news : Led)
    (hH : (H, listOf [.int a ta, .int b tb, .int c tc].toArray nh) ∈ news) (hT : (Tk, tupO us nt) ∈ news) (hi : IntsAre us ts) (hm : ts ∈ menus)
    (ha : 0 ≤ a ∧ a < 6) (hb : 0 ≤ b ∧ b < 6) (hc : 0 ≤ c ∧ c < 6) (hD : LostTab w news D T₀)
    (hf : ∀ o ∈ movesF ts a b c, ∀ ks : List Int, ks.Perm (listP o) → ks.Pairwise (· ≤ ·) → lookup (encTuple PyData.int ks) T₀ = some (.bool (f o))) :
    Says w mean mg mb 258 [.ref H, .ref Tk, .ref D] news 12 (fun r tl => tl = [] ∧ r = .bool (!(movesF ts a b c).any f)) := by
  obtain ⟨hlen, hts⟩ := menu_facts ts hm
  unfold Says
  k_with_none
  k_with "mine room" => (first | decide | (refine room_of (by assumption) ?_; (try simp only [depth_under_make, depth_under_kw, depth_in1, depth_deeper, depth_ktr, Nat.add_assoc]); first | exact Nat.add_le_add_left (by decide) _ | exact Nat.le_add_right _ _))
  k_with "mine units" => (first | decide | (refine units_of (by assumption) ?_; (try simp only [units_in1, units_deeper, Around.mark_units, units_ktr, Nat.add_assoc]); first | exact Nat.add_le_add_left (by decide) _ | exact Nat.le_add_right _ _))
  k_with "mine enter" => (refine' code_def ?k1 ?k2 ?k3 ?k4 ?k5 ?kA ?kF ?kK ?k6 ?k7 ?k8 ?k9 ?kB ?_ ?c2 ?c3 ?c4 ?c5; (case kA => exact rfl); (case kF => exact rfl); (case kK => first | assumption | exact rfl); (case k1 => k_asm); (case k2 => k_asm); (case k3 => k_asm); (case k4 => k_asm); (case k5 => k_asm); (case k6 => k_is); (case k7 => k_is); (case k8 => walk_at "mine room"); (case k9 => first | exact BindsTo.of_eq rfl | exact binds_K (by k_in) rfl (by k_is) rfl rfl rfl); (case c5 => decide); (case kB => exact locs rfl); (case c2 => exact rfl); (case c3 => exact rfl); (case c4 => exact rfl); k_whole; intro _ _ _ _ _ _ _ _ _; (try dsimp only); (try k_fold))
  k_with "mine args" => ((case k1 => k_asm); (case k2 => k_asm); (case k3 => k_asm); (case k4 => k_asm); (case k5 => k_asm); (case kK => first | exact rfl | assumption); (case kd => walk_at "mine room"); (case ku => walk_at "mine units"))
  k_with "mine pure" => (intro _ _ _ _ _ N' hok'; obtain ⟨ee', hok'⟩ := hok'; subst ee'; (first | (obtain ⟨t', ee'⟩ := hok'; subst ee') | subst hok'); (simp only [List.nil_append] at N'); (try dsimp only); (try k_fold))
  k_with "mine use" => (walk_at "mine args"; k_whole; walk_at "mine pure")
  k_with "call ref" => (k_here; k_dflt (refine wpAny_call ?_; walk_at "mine enter"))
  k_with "mine all" => (first | exact all_app (OwnOff.ne (by assumption) (by k_memK)) (Lo.ne (by assumption) (by omega)) | exact Lo.ne (by assumption) (by omega))
  k_with "pyIter ref" => ((with_reducible show wpAny _ _ (pyIter _) _ _ _); refine Stop.out ?_)
  k_with "call type:tuple" => (refine Stop.out ?_)
  k_with "subscriptTail" => (refine Stop.out ?_)
  k_with "call ref" => (refine Stop.out ?_)
  k_fill
  intro dp un gd cn cs ad ccd cl outer A₀ base h₀ L m s Q E B F X N T hk hdp hun hret
  refine wpAny_call ?_
  k_dflt (refine' code_def (binds := [(Str.ofString "heaps", .ref H), (Str.ofString "takes", .ref Tk), (Str.ofString "lost", .ref D)]) ?k1 ?k2 ?k3 ?k4 ?k5 ?kA ?kF ?kK ?k6 ?k7 ?k8 ?k9 ?kB ?_ ?c2 ?c3 ?c4 ?c5; (case kA => exact rfl); (case kF => exact rfl); (case kK => first | assumption | exact rfl); (case k1 => k_asm); (case k2 => k_asm); (case k3 => k_asm); (case k4 => k_asm); (case k5 => k_asm); (case k6 => k_is); (case k7 => k_is); (case k8 => walk_at "mine room"); (case k9 => first | exact BindsTo.of_eq rfl | exact binds_K (by k_in) rfl (by k_is) rfl rfl rfl); (case c5 => decide); (case kB => exact locs rfl); (case c2 => exact rfl); (case c3 => exact rfl); (case c4 => exact rfl); k_whole; intro _ _ _ _ _ _ _ _ _; (try dsimp only); (try k_fold))
  repeat' (first | (k_unfold; (try dsimp only)) | (k_end; wrow_close) | (walk1; all_goals (try dsimp only)) | (leave1; walk_say "STEP leave1"; try dsimp only) | fail "no step")
  refine Stop.mk ?_
  try k_fold
  refine' Says.use (moves_ok _ _ _ _ H Tk a b c ta tb tc nh nt us ts _ hH hT hi hlen hts ha hb hc) ?k1 ?k2 ?k3 ?k4 ?k5 ?kK ?kd ?ku ?_
  walk_at "mine args"
  rintro r7 tl h7 tk7 F7 N7 ⟨R, rs, n, rfl, hRm, hls⟩
  generalize hNX : tl ++ news = NX at *
  have hRX : (R, listOf (List.toArray rs) n) ∈ NX := by rw [← hNX]; exact List.mem_append_left _ hRm
  have hlsX : ListsAre NX rs (movesF ts a b c) := hls.mono fun p hp => by rw [← hNX]; exact List.mem_append_left _ hp
  have hDX : LostTab w NX D T₀ := hD.mono fun p hp => by rw [← hNX]; exact List.mem_append_right _ hp
  have hsub : ∀ p ∈ news, p ∈ NX := fun p hp => by rw [← hNX]; exact List.mem_append_right _ hp
  clear hNX
  dsimp only
  refine iter_list (LostJ D NX (movesF ts a b c) f) (by rfl) hRX rfl rfl F7 N7 (.mk (by rfl) rfl rfl) ?_ ?_
  · intro i v m₁ nx h8 tk8 I it hcI hv hoff hR8 hJJ F8 N8
    try k_fold
    obtain ⟨hm1, rfl, hany⟩ := hJJ
    obtain ⟨X, o, t1, t2, t3, n8, ho, hX⟩ := hlsX.item i v hv
    rw [← map1 hm1] at F8
    repeat' (first | (k_unfold; (try dsimp only)) | (k_end; wrow_close) | (walk1; all_goals (try dsimp only)) | (leave1; walk_say "STEP leave1"; try dsimp only) | fail "no step")
    refine Stop.mk ?_
    rename IntsAre _ _ => hiK
    rename List.Perm _ _ => hpK
    rename List.Pairwise _ _ => hoK
    rename List.length _ = _ => heK
    have hlK := hiK.length
    try k_fold
    refine kde_tupleOf (by k_asm) (by k_asm) (News.isList (by k_asm) (by k_mem)) (by rw [List.size_toArray, hlK, heK]; omega) (List.toList_toArray) ?_
    intro K h9 F9 N9 lK
    try k_unfold
    dsimp only
    try k_fold
    refine item_tupTab (knd := intKind _ _) (enc := PyData.int) PyProof.V.same_int (by units_room) N9 (hDX.mono fun p hp => ?_) List.mem_cons_self (TupKeyObj.made (itemsAre_of hiK)) (hf o (List.mem_of_getElem? ho) _ hpK hoK) ?_
    · simp [hp]
    · intro v9 hv9
      obtain rfl := hv9.bool_inv
      cases hfo : f o
      · repeat' (first | (k_unfold; (try dsimp only)) | (k_end; wrow_close) | (walk1; all_goals (try dsimp only)) | (leave1; walk_say "STEP leave1"; try dsimp only) | fail "no step")
        refine EndX.intro nx (by k_asm) N9 (by simp) (fun p hp => by simp [hp]) hoff (fun p hp => by rw [List.mem_singleton.mp hp]; exact hRX) (.mk (by rfl) rfl ?_)
        rw [List.take_add_one, ho, List.any_append, hany]
        simp [hfo]
      · repeat' (first | (k_unfold; (try dsimp only)) | (k_end; wrow_close) | (walk1; all_goals (try dsimp only)) | (leave1; walk_say "STEP leave1"; try dsimp only) | fail "no step")
        refine PostX.ret ?_
        dsimp only
        repeat' (first | (k_unfold; (try dsimp only)) | (k_end; wrow_close) | (walk1; all_goals (try dsimp only)) | (leave1; walk_say "STEP leave1"; try dsimp only) | fail "no step")
        rename Fr h₀ L _ _ => Fe
        refine hret _ [] h9 _ Fe (fun p hp => ?_) ⟨rfl, ?_⟩
        · exact (by k_asm : News h₀ L h9 _) p (List.mem_cons_of_mem _ (List.mem_cons_of_mem _ (List.mem_cons_of_mem _ (hsub p hp))))
        · have : (movesF ts a b c).any f = true := List.any_eq_true.mpr ⟨o, List.mem_of_getElem? ho, hfo⟩
          rw [this]; rfl
  · intro m₁ nx h8 tk8 hR8 hJJ F8 N8
    dsimp only
    try k_fold
    obtain ⟨hm1, rfl, hany⟩ := hJJ
    rw [← map1 hm1] at F8
    repeat' (first | (k_unfold; (try dsimp only)) | (k_end; wrow_close) | (walk1; all_goals (try dsimp only)) | (leave1; walk_say "STEP leave1"; try dsimp only) | fail "no step")
    rename Fr h₀ L _ _ => Fe
    refine hret _ [] h8 _ Fe (fun p hp => ?_) ⟨rfl, ?_⟩
    · exact (by k_asm : News h₀ L h8 nx) p (hsub p hp)
    · rw [List.take_of_length_le (Nat.le_of_eq hlsX.len.symm)] at hany
      rw [hany]; rfl
end

section
theorem News.front {h₀ h : Heap} {L : Addr} {a b : Led} {p : Addr × Obj} (N : News h₀ L h (a ++ p :: b)) : News h₀ L h (p :: (a ++ b)) := fun q hq => N q (by
  simp only [List.mem_cons, List.mem_append] at hq ⊢
  grind)
theorem News.fn {h₀ h : Heap} {L : Addr} {l : Led} (N : News h₀ L h l) {a : Addr} {o o' : Obj} (h1 : (a, o) ∈ l) (h2 : (a, o') ∈ l) : o = o' :=
  Option.some.inj ((N.get h1).symm.trans (N.get h2))
theorem News.apart {h₀ h : Heap} {L : Addr} {l : Led} (N : News h₀ L h l) {a b : Addr} {o o' : Obj} (h1 : (a, o) ∈ l) (h2 : (b, o') ∈ l) (hne : o ≠ o') : @Ne Nat a b := fun e => by
  have e' : a = b := e
  subst e'
  exact hne (News.fn N h1 h2)
theorem six_cases {r : Int} (h0 : 0 ≤ r) (h6 : r < 6) : r = 0 ∨ r = 1 ∨ r = 2 ∨ r = 3 ∨ r = 4 ∨ r = 5 := by omega
theorem item_temp {prog : Program} {w : World} {A : Around} {E : Value → Shared → Prop} {s : Shared} {value slice : PySem.Expr} {l : Addr} {its : Array Value} {k : Int} {u : Tok} {v : Value} {Q : Value → Shared → Prop}
    (hl : s.heap.IsList l its) (h0 : 0 ≤ k) (h1 : k < 2 ^ 63) (hx : its[k.toNat]? = some v) (h : Q v s)
    (hs : subscripted slice false (.ref l) (.int k u) = operate [.ref l, .int k u] (getItem (.ref l) (.int k u))) :
    wpAny (model prog w) A (subscriptTail value slice (.ref l) (.int k u)) Q E s :=
  tail_any hl.typeIs slot_list_getitem.lookup (wpAny_getItem_list hl h0 h1 hx h) hs
theorem menu_pick {T1 T2 T3 T4 T5 T6 : Addr} {r : Int} (h0 : 0 ≤ r) (h6 : r < 6) {P : Addr → Prop} (p1 : P T1) (p2 : P T2) (p3 : P T3) (p4 : P T4) (p5 : P T5) (p6 : P T6) :
    ∃ Tk, #[Value.ref T1, Value.ref T2, Value.ref T3, Value.ref T4, Value.ref T5, Value.ref T6][r.toNat]? = some (.ref Tk) ∧ P Tk := by
  rcases six_cases h0 h6 with rfl | rfl | rfl | rfl | rfl | rfl
  · exact ⟨T1, rfl, p1⟩
  · exact ⟨T2, rfl, p2⟩
  · exact ⟨T3, rfl, p3⟩
  · exact ⟨T4, rfl, p4⟩
  · exact ⟨T5, rfl, p5⟩
  · exact ⟨T6, rfl, p6⟩
theorem menu_pick6 {h₀ h : Heap} {L : Addr} {led : Led} (_N : News h₀ L h led) {T1 T2 T3 T4 T5 T6 d : Addr} {r : Int} (h0 : 0 ≤ r) (h6 : r < 6) {a1 b1 a2 b2 a3 b3 c3 a4 b4 a5 b5 c5 a6 b6 : Tok} {n1 n2 n3 n4 n5 n6 : Nat}
    (p1 : (T1, tupO [.int 1 a1, .int 2 b1] n1) ∈ led) (p2 : (T2, tupO [.int 1 a2, .int 3 b2] n2) ∈ led) (p3 : (T3, tupO [.int 1 a3, .int 3 b3, .int 4 c3] n3) ∈ led)
    (p4 : (T4, tupO [.int 2 a4, .int 3 b4] n4) ∈ led) (p5 : (T5, tupO [.int 1 a5, .int 2 b5, .int 3 c5] n5) ∈ led) (p6 : (T6, tupO [.int 1 a6, .int 4 b6] n6) ∈ led)
    (hd : (@LT.lt Nat _ d T1) ∧ (@LT.lt Nat _ d T2) ∧ (@LT.lt Nat _ d T3) ∧ (@LT.lt Nat _ d T4) ∧ (@LT.lt Nat _ d T5) ∧ (@LT.lt Nat _ d T6)) :
    ∃ Tk, #[Value.ref T1, Value.ref T2, Value.ref T3, Value.ref T4, Value.ref T5, Value.ref T6][r.toNat]? = some (.ref Tk) ∧ ∃ us nt ts, (Tk, tupO us nt) ∈ led ∧ IntsAre us ts ∧ ts ∈ menus ∧ @LT.lt Nat _ d Tk :=
  menu_pick h0 h6
    ⟨_, _, [1, 2], p1, .cons _ _ (.cons _ _ .nil), by decide, hd.1⟩ ⟨_, _, [1, 3], p2, .cons _ _ (.cons _ _ .nil), by decide, hd.2.1⟩
    ⟨_, _, [1, 3, 4], p3, .cons _ _ (.cons _ _ (.cons _ _ .nil)), by decide, hd.2.2.1⟩ ⟨_, _, [2, 3], p4, .cons _ _ (.cons _ _ .nil), by decide, hd.2.2.2.1⟩
    ⟨_, _, [1, 2, 3], p5, .cons _ _ (.cons _ _ (.cons _ _ .nil)), by decide, hd.2.2.2.2.1⟩ ⟨_, _, [1, 4], p6, .cons _ _ (.cons _ _ .nil), by decide, hd.2.2.2.2.2⟩
theorem listO_ne {vs us : List Value} {n k : Nat} (h : vs.length ≠ us.length) : listOf vs.toArray n ≠ listOf us.toArray k := fun e => by
  have := congrArg (fun o => match o.data with | .seq x _ => x.size | _ => 0) e
  simp only [PySem.W.listOf, List.size_toArray] at this
  exact h this
theorem listO_cell {its : Array Value} {n : Nat} {o : Obj} {x : Option Value} (h : o.data = .cell x) : PySem.W.listOf its n ≠ o := fun e => by
  rw [← e] at h
  exact nomatch h
theorem listO_tup {its : Array Value} {us : List Value} {n k : Nat} : PySem.W.listOf its n ≠ tupO us k := fun e => by
  have := congrArg Obj.cls e
  simp only [PySem.W.listOf] at this
  injection this with h
  exact absurd h (by decide)
theorem listO_cls {its : Array Value} {n : Nat} {o : Obj} {c : String} (h : o.cls = .type c) (hc : c ≠ "list") : PySem.W.listOf its n ≠ o := fun e => by
  rw [← e] at h
  injection h with h
  exact hc h.symm
theorem range_size {a : Int} (h0 : 0 ≤ a) (h6 : a < 6) : Builtin.Range.rangeSize a 6 1 = (((6 - a).toNat : Nat) : Int) := by
  have : a = 0 ∨ a = 1 ∨ a = 2 ∨ a = 3 ∨ a = 4 ∨ a = 5 := by omega
  rcases this with rfl | rfl | rfl | rfl | rfl | rfl <;> rfl
theorem range_small {a : Int} (h0 : 0 ≤ a) (h6 : a < 6) : Builtin.Range.small a 6 1 = true := by
  have : a = 0 ∨ a = 1 ∨ a = 2 ∨ a = 3 ∨ a = 4 ∨ a = 5 := by omega
  rcases this with rfl | rfl | rfl | rfl | rfl | rfl <;> rfl
theorem pair01 {i : Nat} {t0 t1 : Tok} {v : Value} (h : [Value.int 0 t0, Value.int 1 t1][i]? = some v) : i < 2 ∧ ∃ t, v = .int (i : Int) t := by
  rcases i with _ | _ | i
  · exact ⟨by omega, t0, by simpa using h.symm⟩
  · exact ⟨by omega, t1, by simpa using h.symm⟩
  · simp at h
theorem fsD_cls {prog : Program} {w : World} {K : Type} [DecidableEq K] {knd : KeyKind prog w K} {o : Obj} (h : o.IsDictOf knd []) : o.cls = .type "dict" := by
  obtain ⟨es, ep, hc, _⟩ := h
  exact hc.1
theorem dec_bne (x : Int) : (decide (x = 0) != (x == 0)) = false := by
  by_cases h : x = 0 <;> simp [h]
end

section
noncomputable def zeroT (tab : List Int) (o : P3) : Bool := decide (sumF tab o.1 o.2.1 o.2.2 = 0)
noncomputable def zeroB (ts : List Int) (o : P3) : Bool := zeroT (tabOf ts) o
noncomputable def sort3 (o : P3) : P3 :=
  if o.1 ≤ o.2.1 then (if o.2.1 ≤ o.2.2 then o else if o.1 ≤ o.2.2 then (o.1, o.2.2, o.2.1) else (o.2.2, o.1, o.2.1))
  else (if o.1 ≤ o.2.2 then (o.2.1, o.1, o.2.2) else if o.2.1 ≤ o.2.2 then (o.2.1, o.2.2, o.1) else (o.2.2, o.2.1, o.1))
theorem sort3_sorted (o : P3) : (listP (sort3 o)).Pairwise (· ≤ ·) := by
  unfold sort3 listP
  repeat' split
  all_goals simp only [List.pairwise_cons, List.mem_cons, List.not_mem_nil, or_false, forall_eq_or_imp, forall_eq, List.Pairwise.nil, and_true, false_imp_iff, implies_true]
  all_goals omega
theorem sort3_perm (o : P3) : (listP (sort3 o)).Perm (listP o) := by
  obtain ⟨a, b, c⟩ := o
  unfold sort3 listP
  dsimp only
  have e1 : [a, c, b].Perm [a, b, c] := (List.Perm.swap b c []).cons a
  have e2 : [c, a, b].Perm [a, b, c] := (List.Perm.swap a c [b]).trans e1
  have e3 : [b, a, c].Perm [a, b, c] := List.Perm.swap a b [c]
  have e4 : [b, c, a].Perm [a, b, c] := ((List.Perm.swap a c []).cons b).trans e3
  have e5 : [c, b, a].Perm [a, b, c] := (List.Perm.swap b c [a]).trans e4
  repeat' split
  all_goals first | exact List.Perm.refl _ | exact e1 | exact e2 | exact e3 | exact e4 | exact e5
theorem perm_sort {ks : List Int} {o : P3} (p : ks.Perm (listP o)) (s : ks.Pairwise (· ≤ ·)) : ks = listP (sort3 o) :=
  List.Perm.eq_of_pairwise (fun _ _ _ _ h1 h2 => Int.le_antisymm h1 h2) s (sort3_sorted o) (p.trans (sort3_perm o).symm)
/-- a place in the order of the table's filling -/
noncomputable def code (s : P3) : Int := 36 * s.1 + 6 * s.2.1 + s.2.2
noncomputable def inBox (s : P3) : Bool := decide (0 ≤ s.1) && decide (s.1 < 6) && decide (0 ≤ s.2.1) && decide (s.2.1 < 6) && decide (0 ≤ s.2.2) && decide (s.2.2 < 6)
noncomputable def sortedLow (s : P3) : Bool := decide (0 ≤ s.1) && decide (s.1 ≤ s.2.1) && decide (s.2.1 ≤ s.2.2) && decide (s.2.2 < 6) && decide (s.1 ≤ 1)
noncomputable def chk (ts tab : List Int) (p : P3) : Bool :=
  let ms := movesF ts p.1 p.2.1 p.2.2
  ((!ms.any (zeroT tab)) == zeroT tab p) && ms.all (fun o => inBox o && decide (o.1 + o.2.1 + o.2.2 < p.1 + p.2.1 + p.2.2)) &&
    (!sortedLow p || ms.all fun o => sortedLow (sort3 o) && decide (code (sort3 o) < code p) && (zeroT tab (sort3 o) == zeroT tab o))
noncomputable def chkAll (ts tab : List Int) : Bool := (List.range 6).all fun a => (List.range 6).all fun b => (List.range 6).all fun c => chk ts tab ((a : Int), (b : Int), (c : Int))
theorem tab1 : tabOf [1, 2] = [0, 1, 2, 0, 1, 2] := by decide +kernel
theorem tab2 : tabOf [1, 3] = [0, 1, 0, 1, 0, 1] := by decide +kernel
theorem tab3 : tabOf [1, 3, 4] = [0, 1, 0, 1, 2, 3] := by decide +kernel
theorem tab4 : tabOf [2, 3] = [0, 0, 1, 1, 2, 0] := by decide +kernel
theorem tab5 : tabOf [1, 2, 3] = [0, 1, 2, 3, 0, 1] := by decide +kernel
theorem tab6 : tabOf [1, 4] = [0, 1, 0, 1, 2, 0] := by decide +kernel
theorem chk1 : chkAll [1, 2] [0, 1, 2, 0, 1, 2] = true := by decide +kernel
theorem chk2 : chkAll [1, 3] [0, 1, 0, 1, 0, 1] = true := by decide +kernel
theorem chk3 : chkAll [1, 3, 4] [0, 1, 0, 1, 2, 3] = true := by decide +kernel
theorem chk4 : chkAll [2, 3] [0, 0, 1, 1, 2, 0] = true := by decide +kernel
theorem chk5 : chkAll [1, 2, 3] [0, 1, 2, 3, 0, 1] = true := by decide +kernel
theorem chk6 : chkAll [1, 4] [0, 1, 0, 1, 2, 0] = true := by decide +kernel
theorem chk_all {ts : List Int} (h : ts ∈ menus) : chkAll ts (tabOf ts) = true := by
  simp only [menus, List.mem_cons, List.not_mem_nil, or_false] at h
  rcases h with rfl | rfl | rfl | rfl | rfl | rfl
  · rw [tab1]; exact chk1
  · rw [tab2]; exact chk2
  · rw [tab3]; exact chk3
  · rw [tab4]; exact chk4
  · rw [tab5]; exact chk5
  · rw [tab6]; exact chk6
theorem chk_at {ts : List Int} (h : ts ∈ menus) {a b c : Int} (ha : 0 ≤ a ∧ a < 6) (hb : 0 ≤ b ∧ b < 6) (hc : 0 ≤ c ∧ c < 6) : chk ts (tabOf ts) (a, b, c) = true := by
  have h1 := List.all_eq_true.mp (chk_all h) a.toNat (List.mem_range.mpr (by omega))
  have h2 := List.all_eq_true.mp h1 b.toNat (List.mem_range.mpr (by omega))
  have h3 := List.all_eq_true.mp h2 c.toNat (List.mem_range.mpr (by omega))
  rw [Int.toNat_of_nonneg ha.1, Int.toNat_of_nonneg hb.1, Int.toNat_of_nonneg hc.1] at h3
  exact h3
section
variable {ts : List Int} (h : ts ∈ menus) {a b c : Int} (ha : 0 ≤ a ∧ a < 6) (hb : 0 ≤ b ∧ b < 6) (hc : 0 ≤ c ∧ c < 6)
include h ha hb hc
theorem moves_any : (!(movesF ts a b c).any (zeroB ts)) = zeroB ts (a, b, c) := by
  have e := chk_at h ha hb hc
  unfold chk at e
  simp only [Bool.and_eq_true, beq_iff_eq] at e
  exact e.1.1
theorem moves_box {o : P3} (ho : o ∈ movesF ts a b c) : (0 ≤ o.1 ∧ o.1 < 6) ∧ (0 ≤ o.2.1 ∧ o.2.1 < 6) ∧ (0 ≤ o.2.2 ∧ o.2.2 < 6) ∧ o.1 + o.2.1 + o.2.2 < a + b + c := by
  have e := chk_at h ha hb hc
  unfold chk at e
  simp only [Bool.and_eq_true, beq_iff_eq] at e
  have e2 := List.all_eq_true.mp e.1.2 o ho
  simp only [inBox, Bool.and_eq_true, decide_eq_true_eq] at e2
  omega
theorem moves_low (hs : sortedLow (a, b, c) = true) {o : P3} (ho : o ∈ movesF ts a b c) : sortedLow (sort3 o) = true ∧ code (sort3 o) < code (a, b, c) ∧ zeroB ts (sort3 o) = zeroB ts o := by
  have e := chk_at h ha hb hc
  unfold chk at e
  simp only [Bool.and_eq_true, beq_iff_eq, hs, Bool.not_true, Bool.false_or] at e
  have e2 := List.all_eq_true.mp e.2 o ho
  simp only [Bool.and_eq_true, beq_iff_eq, decide_eq_true_eq] at e2
  exact ⟨e2.1.1, e2.1.2, e2.2⟩
end
theorem low_iff {s : P3} (h : sortedLow s = true) : 0 ≤ s.1 ∧ s.1 ≤ s.2.1 ∧ s.2.1 ≤ s.2.2 ∧ s.2.2 < 6 ∧ s.1 ≤ 1 := by
  simp only [sortedLow, Bool.and_eq_true, decide_eq_true_eq] at h
  exact ⟨h.1.1.1.1, h.1.1.1.2, h.1.1.2, h.1.2, h.2⟩
noncomputable abbrev keyD (s : P3) : PyData := encTuple PyData.int (listP s)
def Done (ts : List Int) (T : List (PyData × PyData)) (n : Int) : Prop := ∀ s : P3, sortedLow s = true → code s < n → PySem.Spec.lookup (keyD s) T = some (.bool (zeroB ts s))
theorem code_inj {s p : P3} (hs : sortedLow s = true) (hp : sortedLow p = true) (e : code s = code p) : s = p := by
  have a := low_iff hs
  have b := low_iff hp
  obtain ⟨x, y, z⟩ := s
  obtain ⟨l, m, h⟩ := p
  unfold code at e
  dsimp only at a b e
  have e1 : x = l := by omega
  have e2 : y = m := by omega
  have e3 : z = h := by omega
  rw [e1, e2, e3]
theorem listP_inj {s p : P3} (e : listP s = listP p) : s = p := by
  obtain ⟨x, y, z⟩ := s
  obtain ⟨l, m, h⟩ := p
  injection e with e1 e
  injection e with e2 e
  injection e with e3 e
  dsimp only at e1 e2 e3
  rw [e1, e2, e3]
theorem Done.put {ts : List Int} {T : List (PyData × PyData)} {p : P3} (hp : sortedLow p = true) (d : Done ts T (code p)) : Done ts (PyProof.V.putD (keyD p) (.bool (zeroB ts p)) T) (code p + 1) := by
  intro s hs hl
  have ke := keyEnc_tuple PyProof.V.keyEnc_int
  by_cases he : listP s = listP p
  · rw [listP_inj he]
    exact PyProof.V.lookup_putK_same ke _ _ _
  · refine (PyProof.V.lookup_putK_other ke he _ _).trans (d s hs ?_)
    have : code s ≠ code p := fun e => he (congrArg listP (code_inj hs hp e))
    omega
theorem Done.weaken {ts : List Int} {T : List (PyData × PyData)} {n k : Int} (d : Done ts T n) (hpq : ∀ s, sortedLow s = true → code s < k → code s < n) : Done ts T k := fun s hs hl => d s hs (hpq s hs hl)
theorem Done.zero {ts : List Int} : Done ts [] 0 := by
  intro s hs hl
  have a := low_iff hs
  unfold code at hl
  omega
theorem Done.mid {ts : List Int} {T : List (PyData × PyData)} {l : Int} (d : Done ts T (36 * l)) : Done ts T (36 * l + 6 * l) := d.weaken fun s hs hl => by
  have a := low_iff hs
  unfold code at hl ⊢
  omega
theorem Done.high {ts : List Int} {T : List (PyData × PyData)} {l m : Int} (h0 : 0 ≤ m) (h6 : m < 6) (d : Done ts T (36 * l + 6 * m)) : Done ts T (36 * l + 6 * m + m) := d.weaken fun s hs hl => by
  have a := low_iff hs
  unfold code at hl ⊢
  omega
theorem sorted_low {l m h : Int} (h0 : 0 ≤ l) (h1 : l ≤ 1) (h2 : l ≤ m) (h3 : m ≤ h) (h4 : h < 6) : sortedLow (l, m, h) = true := by
  unfold sortedLow
  rw [decide_eq_true h0, decide_eq_true h1, decide_eq_true h2, decide_eq_true h3, decide_eq_true h4]
  rfl
theorem Done.moves {ts : List Int} (hm : ts ∈ menus) {T : List (PyData × PyData)} {l m h : Int} (d : Done ts T (code (l, m, h))) (h0 : 0 ≤ l) (h1 : l ≤ 1) (h2 : l ≤ m) (h3 : m ≤ h) (h4 : h < 6) :
    ∀ o ∈ movesF ts l m h, ∀ ks : List Int, ks.Perm (listP o) → ks.Pairwise (· ≤ ·) → PySem.Spec.lookup (encTuple PyData.int ks) T = some (.bool (zeroB ts o)) := by
  intro o ho ks p s
  rw [perm_sort p s]
  have q := moves_low hm (a := l) (b := m) (c := h) (by omega) (by omega) (by omega) (sorted_low h0 h1 h2 h3 h4) ho
  rw [← q.2.2]
  exact d (sort3 o) q.1 q.2.1
end

section
/-- a ledger without the entry at an address -/
noncomputable def offI (I : Addr) (l : Led) : Led := l.filter fun p => decide (p.1 ≠ I)
theorem mem_offI {I : Addr} {l : Led} {p : Addr × Obj} : p ∈ offI I l ↔ p ∈ l ∧ p.1 ≠ I := by simp [offI]
theorem cls_ne {o o' : Obj} {c c' : String} (h : o.cls = .type c) (h' : o'.cls = .type c') (hc : c ≠ c') : o ≠ o' := fun e => by
  rw [e, h'] at h
  injection h with h
  exact hc h.symm
theorem LostTab.dict {w : World} {nw : Led} {D : Addr} {T : List (PyData × PyData)} (t : LostTab w nw D T) : ∃ o, (D, o) ∈ nw ∧ o.cls = .type "dict" := by
  obtain ⟨_, o, _, _, _, hm, hc, -⟩ := t
  exact ⟨o, hm, hc.1⟩
theorem LostTab.off {w : World} {nw : Led} {D I : Addr} {T : List (PyData × PyData)} {it : Obj} {c : String} {h₀ h : Heap} {L : Addr} (t : LostTab w nw D T) (N : News h₀ L h nw) (hI : (I, it) ∈ nw) (hcI : it.cls = .type c)
    (h1 : c ≠ "tuple") (h2 : c ≠ "dict") : LostTab w (offI I nw) D T := by
  obtain ⟨lo, o, es, ep, xs, hm, hc, hd, he, hn, hk, hf⟩ := t
  exact ⟨lo, o, es, ep, xs, mem_offI.mpr ⟨hm, News.apart N hm hI (cls_ne hc.1 hcI h2.symm)⟩, hc, hd, he, hn, fun x hx => (hk x hx).imp fun _ h => ⟨mem_offI.mpr ⟨h.1, News.apart N h.1 hI (cls_ne h.2.1 hcI h1.symm)⟩, h.2⟩, hf⟩
/-- what stands between the turns of the table's loops -/
inductive TabJ (w : World) (ts : List Int) (D : Addr) (base : Led) (n : Int) (nx : Led) : Prop
  | mk (T : List (PyData × PyData)) (hs : ∀ q ∈ base, q ∈ nx) (hT : LostTab w nx D T) (hd : Done ts T n) (hl : (T.length : Int) ≤ n) : TabJ w ts D base n nx
section
variable {w : World} {ts : List Int} {D I Tk : Addr} {base nx : Led} {n k : Int} {it : Obj} {c : String} {h₀ h : Heap} {L : Addr} {m : Str → Option Value}
theorem TabJ.sub (t : TabJ w ts D base n nx) : ∀ q ∈ base, q ∈ nx := by
  cases t with | mk T hs hT hd hl => exact hs
theorem TabJ.off (t : TabJ w ts D ((I, it) :: base) n nx) (N : News h₀ L h nx) (hcI : it.cls = .type c) (h1 : c ≠ "tuple") (h2 : c ≠ "dict") (hb : ∀ q ∈ base, q.1 ≠ I) : TabJ w ts D base n (offI I nx) := by
  cases t with
  | mk T hs hT hd hl => exact .mk T (fun q hq => mem_offI.mpr ⟨hs q (List.mem_cons_of_mem _ hq), hb q hq⟩) (hT.off N (hs _ List.mem_cons_self) hcI h1 h2) hd hl
theorem TabJ.imp (t : TabJ w ts D base n nx) (hd : ∀ T, Done ts T n → Done ts T k) (hm : n ≤ k) : TabJ w ts D base k nx := by
  cases t with
  | mk T hs hT d hl => exact .mk T hs hT (hd T d) (Int.le_trans hl hm)
theorem TabJ.eq (t : TabJ w ts D base n nx) (e : n = k) : TabJ w ts D base k nx := e ▸ t
theorem TabJ.put (t : TabJ w ts D base n nx) : TabJ w ts D ((I, it) :: base) n ((I, it) :: nx) := by
  cases t with
  | mk T hs hT d hl =>
    refine .mk T (fun q hq => ?_) (hT.mono fun q hq => List.mem_cons_of_mem _ hq) d hl
    rcases List.mem_cons.mp hq with rfl | hq
    · exact List.mem_cons_self
    · exact List.mem_cons_of_mem _ (hs q hq)
theorem TabJ.offD (t : TabJ w ts D base n nx) (hoff : ∀ q ∈ nx, q.1 ≠ I) : @Ne Nat I D := by
  cases t with
  | mk T hs hT d hl =>
    obtain ⟨o, ho, -⟩ := hT.dict
    exact Ne.symm (hoff _ ho)
end
inductive LowJ (w : World) (ts : List Int) (D Tk : Addr) (base : Led) (i : Nat) (m : Str → Option Value) (nx : Led) : Prop
  | mk (h1 : m (Str.ofString "lost") = some (.ref D)) (h2 : m (Str.ofString "takes") = some (.ref Tk)) (hJ : TabJ w ts D base (36 * (i : Int)) nx) : LowJ w ts D Tk base i m nx
inductive MidJ (w : World) (ts : List Int) (D Tk : Addr) (base : Led) (i : Int) (j : Nat) (m : Str → Option Value) (nx : Led) : Prop
  | mk (t : Tok) (h1 : m (Str.ofString "lost") = some (.ref D)) (h2 : m (Str.ofString "takes") = some (.ref Tk)) (h3 : m (Str.ofString "low") = some (.int i t)) (hJ : TabJ w ts D base (36 * i + 6 * (i + (j : Int))) nx) : MidJ w ts D Tk base i j m nx
inductive HighJ (w : World) (ts : List Int) (D Tk : Addr) (base : Led) (i md : Int) (k : Nat) (m : Str → Option Value) (nx : Led) : Prop
  | mk (t t' : Tok) (h1 : m (Str.ofString "lost") = some (.ref D)) (h2 : m (Str.ofString "takes") = some (.ref Tk)) (h3 : m (Str.ofString "low") = some (.int i t)) (h4 : m (Str.ofString "middle") = some (.int md t')) (hJ : TabJ w ts D base (36 * i + 6 * md + (md + (k : Int))) nx) : HighJ w ts D Tk base i md k m nx
inductive DrawJ (B S : Addr) (rest : Led) (i : Nat) (ys : List Value) (nz : Led) : Prop
  | mk (tb : Tok) (nb : Nat) (ns : List Int) (hz : nz = (B, listOf [.ref S, .int (1 + (i : Int)) tb].toArray nb) :: rest) (hy : IntsAre ys ns) (hl : ns.length = i) (hn : ∀ x ∈ ns, 0 ≤ x ∧ x < 6) : DrawJ B S rest i ys nz
inductive GameJ (ts : List Int) (B S Tk : Addr) (rest : Led) (i : Nat) (m : Str → Option Value) (nx : Led) : Prop
  | mk (H : Addr) (a b c : Int) (ta tb tc : Tok) (nh : Nat) (k : Int) (tB : Tok) (nB : Nat) (h1 : m (Str.ofString "takes") = some (.ref Tk)) (h2 : m (Str.ofString "heaps") = some (.ref H)) (h3 : m (Str.ofString "is_rule") = some (.bool (!zeroB ts (a, b, c))))
    (hx : nx = (H, listOf [.int a ta, .int b tb, .int c tc].toArray nh) :: (B, listOf [.ref S, .int k tB].toArray nB) :: rest) (ha : 0 ≤ a ∧ a < 6) (hb : 0 ≤ b ∧ b < 6) (hc : 0 ≤ c ∧ c < 6) (hs : a + b + c ≤ 15 - (i : Int)) (hk0 : 0 ≤ k) (hk1 : k ≤ 4 + (i : Int)) : GameJ ts B S Tk rest i m nx
theorem dec_bne2 (x : Int) : (x != 0) = !decide (x = 0) := by
  by_cases h : x = 0 <;> simp [h]
theorem dec_beq2 (x : Int) : (x == 0) = decide (x = 0) := by
  by_cases h : x = 0 <;> simp [h]
theorem ListsAre.refs {nw : Led} {vs : List Value} {ps : List P3} (x : ListsAre nw vs ps) (v : Value) (h : v ∈ vs) : ∃ X, v = .ref X := by
  obtain ⟨i, e⟩ := List.mem_iff_getElem?.mp h
  cases x.2 i v e
  exact ⟨_, rfl⟩
theorem ListsAre.ne_bag {nw : Led} {vs : List Value} {ps : List P3} (hl : ListsAre nw vs ps) {n n' : Nat} {x : Value} {k : Int} {t : Tok} : listOf vs.toArray n ≠ listOf [x, .int k t].toArray n' := fun e => by
  have e1 : (Data.seq vs.toArray n) = Data.seq [x, .int k t].toArray n' := congrArg Obj.data e
  injection e1 with e2 _
  have e3 : vs = [x, .int k t] := by simpa using congrArg Array.toList e2
  obtain ⟨X, hX⟩ := hl.refs (.int k t) (by rw [e3]; simp)
  exact nomatch hX
theorem ListsAre.offI {h₀ h : Heap} {L : Addr} {big nw : Led} {B : Addr} {n' : Nat} {x y : Value} (N : News h₀ L h big) (hB : (B, listOf [x, y].toArray n') ∈ big) (hs : ∀ p ∈ nw, p ∈ big)
    {vs : List Value} {ps : List P3} (l : ListsAre nw vs ps) : ListsAre (offI B nw) vs ps :=
  ⟨l.1, fun i v e => by
    cases l.2 i v e with
    | mk X p t1 t2 t3 n ho m => exact .mk X p t1 t2 t3 n ho (mem_offI.mpr ⟨m, News.apart N (hs _ m) hB (listO_ne (by simp))⟩)⟩
theorem moves_few {ts : List Int} (h : ts.length ≤ 3) {a b c : Int} : (movesF ts a b c).length ≤ 9 := by
  unfold movesF
  simp only [List.length_append, List.length_map]
  have h1 := List.length_filter_le (fun x => decide (x ≤ a)) ts
  have h2 := List.length_filter_le (fun x => decide (x ≤ b)) ts
  have h3 := List.length_filter_le (fun x => decide (x ≤ c)) ts
  omega
theorem three_ints {ys : List Value} {ns : List Int} (h : IntsAre ys ns) (h3 : ns.length = 3) : ∃ (a b c : Int) (ta tb tc : Tok), ns = [a, b, c] ∧ ys = [.int a ta, .int b tb, .int c tc] := by
  have e3 : ∃ a b c, ns = [a, b, c] := by
    clear h
    rcases ns with _ | ⟨a, _ | ⟨b, _ | ⟨c, _ | ⟨d, ns⟩⟩⟩⟩ <;> first | exact ⟨_, _, _, rfl⟩ | cases h3
  obtain ⟨a, b, c, e3⟩ := e3
  rw [e3] at h
  obtain ⟨t1, t2, t3, e⟩ := ints3 h
  exact ⟨a, b, c, t1, t2, t3, e3, e⟩
theorem less_by_one {x y : Int} {i : Nat} (h : y ≤ 15 - (i : Int)) (h' : x < y) : x ≤ 15 - ((i + 1 : Nat) : Int) := by omega
end

section
theorem tab_small (ts : List Int) : ∀ x ∈ tabOf ts, 0 ≤ x ∧ x < 16 := fun x hx => ⟨(worthsPre_small ts 6 x hx).1, Int.lt_trans (worthsPre_small ts 6 x hx).2 (by decide)⟩
theorem cast_one {i : Nat} (h : i < 2) : (i : Int) ≤ 1 := by omega
theorem turn_le {a md : Int} {j : Nat} (e : md = a + (j : Int)) : a ≤ md := by omega
theorem turn_lt {a md : Int} {j : Nat} (e : md = a + (j : Int)) (h : j < (6 - a).toNat) : md < 6 := by omega
theorem n_low0 : (0 : Int) = 36 * ((0 : Nat) : Int) := by omega
theorem n_mid0 (i : Int) : 36 * i + 6 * i = 36 * i + 6 * (i + ((0 : Nat) : Int)) := by omega
theorem n_high0 (i md : Int) : 36 * i + 6 * md + md = 36 * i + 6 * md + (md + ((0 : Nat) : Int)) := by omega
theorem le_mid {i : Int} (h : 0 ≤ i) : 36 * i ≤ 36 * i + 6 * i := by omega
theorem le_high {i md : Int} (h : 0 ≤ md) : 36 * i + 6 * md ≤ 36 * i + 6 * md + md := by omega
theorem n_mid {i md : Int} {j : Nat} (e : md = i + (j : Int)) : 36 * i + 6 * (i + (j : Int)) = 36 * i + 6 * md := by omega
theorem n_step {i md hg : Int} {k : Nat} (e : hg = md + (k : Int)) : code (i, md, hg) + 1 = 36 * i + 6 * md + (md + ((k + 1 : Nat) : Int)) := by
  unfold code
  dsimp only
  omega
theorem n_high_end {i md : Int} {j : Nat} (e : md = i + (j : Int)) (h6 : md < 6) : 36 * i + 6 * md + (md + (((6 - md).toNat : Nat) : Int)) = 36 * i + 6 * (i + ((j + 1 : Nat) : Int)) := by omega
theorem n_mid_end {i : Nat} (h1 : (i : Int) ≤ 1) : 36 * (i : Int) + 6 * ((i : Int) + (((6 - (i : Int)).toNat : Nat) : Int)) = 36 * ((i + 1 : Nat) : Int) := by omega
theorem small63 {r : Int} {n : Nat} (h : r < (n : Int)) (hn : n ≤ 9) : r < 2 ^ 63 := by omega
theorem six63 {r : Int} (h : r < 6) : r < 2 ^ 63 := by omega
theorem few_size {n : Nat} (h : n ≤ 9) : n ≤ sizeLine := by rw [sizeLine_eq]; omega
theorem tab_size {T : List (PyData × PyData)} {i md hg : Int} (h : (T.length : Int) ≤ code (i, md, hg)) (h1 : i ≤ 1) (h2 : md < 6) (h3 : hg < 6) : T.length ≤ sizeLine := by
  unfold code at h
  dsimp only at h
  rw [sizeLine_eq]
  omega
theorem draw_lo (i : Nat) : (0 : Int) ≤ 1 + (i : Int) := by omega
theorem draw_hi {i : Nat} (h : i < 3) : 1 + (i : Int) < 1000 := by omega
theorem draw_next (i : Nat) : (1 : Int) + (i : Int) + 1 = 1 + ((i + 1 : Nat) : Int) := by omega
theorem sum15 {a b c : Int} (ha : 0 ≤ a ∧ a < 6) (hb : 0 ≤ b ∧ b < 6) (hc : 0 ≤ c ∧ c < 6) : a + b + c ≤ 15 - ((0 : Nat) : Int) := by omega
theorem spot_keep {k : Int} {i : Nat} (h : k ≤ 4 + (i : Int)) : k ≤ 4 + ((i + 1 : Nat) : Int) := by omega
theorem spot_next {k : Int} {i : Nat} (h : k ≤ 4 + (i : Int)) : k + 1 ≤ 4 + ((i + 1 : Nat) : Int) := by omega
theorem spot_lt {k : Int} {i : Nat} (h : k ≤ 4 + (i : Int)) (hi : i < 16) : k < 1000 := by omega
theorem spot_pos {k : Int} (h : 0 ≤ k) : 0 ≤ k + 1 := by omega
theorem len_pos {α : Type} {l : List α} (h : ¬ l = []) : (0 : Int) < (l.length : Int) := by
  cases l with
  | nil => exact absurd rfl h
  | cons x y => simp only [List.length_cons]; omega
theorem len_lt {n : Nat} (h : n ≤ 9) : (n : Int) < 1000 := by omega
theorem nat_lt {r : Int} {n : Nat} (h0 : 0 ≤ r) (h : r < (n : Int)) : r.toNat < n := by omega
theorem all_taken {a b c : Int} (ha : 0 ≤ a ∧ a < 6) (hb : 0 ≤ b ∧ b < 6) (hc : 0 ≤ c ∧ c < 6) (h : a + b + c ≤ 15 - ((16 : Nat) : Int)) : False := by omega
end

section
set_option maxHeartbeats 8000000 in
theorem law_holds : PySem.Challenge.rw_xm0036_01.Holds := hd (by
  k_with_none
  k_with "mine room" => (first | decide | (refine room_of (by assumption) ?_; (try simp only [depth_under_make, depth_under_kw, depth_in1, depth_deeper, depth_ktr, Nat.add_assoc]); first | exact Nat.add_le_add_left (by decide) _ | exact Nat.le_add_right _ _))
  k_with "mine units" => (first | decide | (refine units_of (by assumption) ?_; (try simp only [units_in1, units_deeper, Around.mark_units, units_ktr, Nat.add_assoc]); first | exact Nat.add_le_add_left (by decide) _ | exact Nat.le_add_right _ _))
  k_with "mine enter" => (refine' code_def ?k1 ?k2 ?k3 ?k4 ?k5 ?kA ?kF ?kK ?k6 ?k7 ?k8 ?k9 ?kB ?_ ?c2 ?c3 ?c4 ?c5; (case kA => exact rfl); (case kF => exact rfl); (case kK => first | assumption | exact rfl); (case k1 => k_asm); (case k2 => k_asm); (case k3 => k_asm); (case k4 => k_asm); (case k5 => k_asm); (case k6 => k_is); (case k7 => k_is); (case k8 => walk_at "mine room"); (case k9 => first | exact BindsTo.of_eq rfl | exact binds_K (by k_in) rfl (by k_is) rfl rfl rfl); (case c5 => decide); (case kB => exact locs rfl); (case c2 => exact rfl); (case c3 => exact rfl); (case c4 => exact rfl); k_whole; intro _ _ _ _ _ _ _ _ _; (try dsimp only); (try k_fold))
  k_with "mine args" => ((case k1 => k_asm); (case k2 => k_asm); (case k3 => k_asm); (case k4 => k_asm); (case k5 => k_asm); (case kK => first | exact rfl | assumption); (case kd => walk_at "mine room"); (case ku => walk_at "mine units"))
  k_with "mine pure" => (intro _ _ _ _ _ N' hok'; obtain ⟨ee', hok'⟩ := hok'; subst ee'; (first | (obtain ⟨t', ee'⟩ := hok'; subst ee') | subst hok'); (simp only [List.nil_append] at N'); (try dsimp only); (try k_fold))
  k_with "mine use" => (walk_at "mine args"; k_whole; walk_at "mine pure")
  k_with "call ref" => (k_here; k_dflt (refine wpAny_call ?_; walk_at "mine enter"))
  k_with "mine all" => (first | exact all_app (OwnOff.ne (by assumption) (by k_memK)) (Lo.ne (by assumption) (by omega)) | exact Lo.ne (by assumption) (by omega))
  k_with "pyIter ref" => ((with_reducible show wpAny _ _ (pyIter _) _ _ _); refine Stop.out ?_)
  k_with "subscriptTail" => (refine Stop.out ?_)
  k_with "setItem ref ref" => (refine Stop.out ?_)
  k_with "call ref" => (refine Stop.out ?_)
  k_with "exec Assign cons ListComp" => (refine Stop.out ?_)
  k_with "call builtin:len" => (refine Stop.out ?_)
  k_with "CompSrc" => (refine Stop.out ?_)
  k_with "CompSrcT" => (refine Stop.out ?_)
  k_with "compareOp Eq ref ref" => (refine Stop.out ?_)
  k_with "exec For Name Tuple cons nil" => (k_here; (rename Fr _ _ _ _ => lF'); (with_unfolding_all refine' For_invVF lF' ?k1 ?k2 ?_; (case k1 => exact rfl); (case k2 => exact rfl); k_whole))
  k_with "exec For Name Call cons nil" => (k_here; (rename Fr _ _ _ _ => lF'); (with_unfolding_all refine' For_invVF lF' ?k1 ?k2 ?_; (case k1 => exact rfl); (case k2 => exact rfl); k_whole))
  k_go0
  all_goals try k_fold
  k_steps
  refine Stop.mk ?_
  rename_i oT oB0 dT dB0 cX0 Sl wsS hS1 hiS hCS hLS lS Bg hB1 lB Dd hD1 oD loD hsD fsD hiD fiD lD Tp hT1 lTp hx1 hx2 oB dB hx3 T1 hy1 l1 T2 hy2 l2 T3 hy3 l3 T4 hy4 l4 T5 hy5 l5 T6 hy6 l6 Ls hz F0 N0 lL
  rename ¬ ((63 : Nat) : Int) < _ => h63
  rename Shared => s₁
  rename World => w
  obtain ⟨xT, dT⟩ : ∃ x, oT.data = Data.cell x := ⟨_, dT⟩
  clear dB0 cX0
  have N1 := News.front (a := [_, _, _, _, _, _, _, _, _]) N0
  simp only [List.cons_append, List.nil_append] at N1
  clear N0
  try k_fold
  refine' drawn_walk _ _ _ _ Bg Sl 0 6 _ _ _ _ _ _ _ ?off ?hl hiS ?len ?h0 ?h1 ?hb ?hb2 _ _ _ _ _ _ _ _ _ _ _ _ _ _ _ _ _ ?k1 ?k2 ?k3 ?k4 ?k5 ?kK ?kd ?ku ?_
  walk_at "mine args"
  case off =>
    intro p hp b hb
    rw [List.mem_singleton.mp hb]
    simp only [List.mem_cons, List.not_mem_nil, or_false] at hp
    rcases hp with rfl | rfl | rfl | rfl | rfl | rfl | rfl | rfl | rfl | rfl | rfl | rfl <;> exact neN (by dsimp only; omega)
  case hl => k_mem
  case len => exact Nat.le_trans (List.length_take_le 14 _) (by decide)
  case h0 => decide
  case h1 => decide
  case hb => decide
  case hb2 => decide
  intro r tr tb nb h2 tk2 hr0 hr6 F1 N2
  clear N1 F0 lL
  try dsimp only
  try k_unfold
  try dsimp only
  try k_fold
  obtain ⟨Tk, hx9, us, nt, ts, hTk, hus, hts, hlt⟩ := menu_pick6 (T1 := T1) (T2 := T2) (T3 := T3) (T4 := T4) (T5 := T5) (T6 := T6) (d := Dd) N2 hr0 hr6 (by k_memK) (by k_memK) (by k_memK) (by k_memK) (by k_memK) (by k_memK) (by omega)
  refine item_temp (News.isList N2 (List.mem_cons_of_mem _ List.mem_cons_self)) hr0 (six63 hr6) hx9 ?_ (by with_unfolding_all rfl)
  replace F1 : Fr s₁.heap s₁.heap.objs.size h2 _ := F1
  have N3 : News s₁.heap s₁.heap.objs.size h2 [(Bg, listOf [.ref Sl, .int 1 tb].toArray nb), (Tk, tupO us nt), (Dd, oD), (Sl, listOf (List.toArray wsS) 0), (s₁.heap.objs.size + 1 + 1, oT), (s₁.heap.objs.size + 1, oB)] := by
    refine News.sub N2 (fun p hp => ?_)
    simp only [List.mem_cons, List.not_mem_nil, or_false] at hp
    rcases hp with rfl | rfl | rfl | rfl | rfl | rfl <;> first | exact hTk | k_memK
  clear hTk N2 l1 l2 l3 l4 l5 l6 lTp
  clear hx9
  repeat' (first | (k_unfold; (try dsimp only)) | (k_end; wrow_close) | (walk1; all_goals (try dsimp only)) | (leave1; walk_say "STEP leave1"; try dsimp only) | fail "no step")
  refine Stop.mk ?_
  try k_fold
  refine' Says.use (worths_ok _ _ _ _ Tk nt us ts _ ?hT hus hts) ?k1 ?k2 ?k3 ?k4 ?k5 ?kK ?kd ?ku ?_
  walk_at "mine args"
  case hT => k_mem
  rintro r5 tl5 h5 tk5 F5 N5 ⟨W, ws, nw, rfl, rfl, hws⟩
  simp only [List.cons_append, List.nil_append] at N5
  have hWB : @Ne Nat W Bg := News.apart N5 (by k_memK) (by k_memK) (listO_ne (by rw [hws.length, worthsPre_len]; exact (by decide : (6 : Nat) ≠ 2)))
  have hWc : @Ne Nat W (s₁.heap.objs.size + 1 + 1) := News.apart N5 (by k_memK) (by k_memK) (listO_cell dT)
  dsimp only
  k_steps
  refine Stop.mk ?_
  rename_i hq1 oT' dT' P0 hq2 F6 N6 lP
  replace F6 : Fr s₁.heap s₁.heap.objs.size hq2 _ := F6
  replace N6 : News s₁.heap s₁.heap.objs.size hq2 _ := N6
  obtain ⟨base, hbase⟩ : ∃ b : Led, b = [(P0, tupO [.int 0 tk, .int 1 (tk + 1)] 0), (W, listOf (List.toArray ws) nw), (Bg, listOf [.ref Sl, .int 1 tb].toArray nb), (Tk, tupO us nt), (Sl, listOf (List.toArray wsS) 0), (s₁.heap.objs.size + 1 + 1, oT'), (s₁.heap.objs.size + 1, oB)] := ⟨_, rfl⟩
  have hbD : ∀ p ∈ base, p.1 ≠ Dd := by
    have hWD : @Ne Nat W Dd := News.apart N6 (by k_memK) (by k_memK) (listO_cls (fsD_cls hsD) (by decide))
    intro p hp
    rw [hbase] at hp
    simp only [List.mem_cons, List.not_mem_nil, or_false] at hp
    rcases hp with rfl | rfl | rfl | rfl | rfl | rfl | rfl <;> exact neN (by dsimp only; omega)
  have hbP : (P0, tupO [.int 0 tk, .int 1 (tk + 1)] 0) ∈ base := by rw [hbase]; k_memK
  have hbW : (W, listOf (List.toArray ws) nw) ∈ base := by rw [hbase]; k_memK
  have hbK : (Tk, tupO us nt) ∈ base := by rw [hbase]; k_memK
  have hbT : (s₁.heap.objs.size + 1 + 1, oT') ∈ base := by rw [hbase]; k_memK
  have hbB : (s₁.heap.objs.size + 1, oB) ∈ base := by rw [hbase]; k_memK
  have hbG : (Bg, listOf [.ref Sl, .int 1 tb].toArray nb) ∈ base := by rw [hbase]; k_memK
  have hbS : (Sl, listOf (List.toArray wsS) 0) ∈ base := by rw [hbase]; k_memK
  obtain ⟨rest, hrest⟩ : ∃ r : Led, r = [(W, listOf (List.toArray ws) nw), (Tk, tupO us nt), (Sl, listOf (List.toArray wsS) 0), (s₁.heap.objs.size + 1 + 1, oT'), (s₁.heap.objs.size + 1, oB)] := ⟨_, rfl⟩
  have hrB : ∀ p ∈ rest, p.1 ≠ Bg := by
    intro p hp
    rw [hrest] at hp
    simp only [List.mem_cons, List.not_mem_nil, or_false] at hp
    rcases hp with rfl | rfl | rfl | rfl | rfl <;> exact neN (by dsimp only; omega)
  have hrW : (W, listOf (List.toArray ws) nw) ∈ rest := by rw [hrest]; k_memK
  have hrK : (Tk, tupO us nt) ∈ rest := by rw [hrest]; k_memK
  have hrS : (Sl, listOf (List.toArray wsS) 0) ∈ rest := by rw [hrest]; k_memK
  have hrT : (s₁.heap.objs.size + 1 + 1, oT') ∈ rest := by rw [hrest]; k_memK
  have hrC : (s₁.heap.objs.size + 1, oB) ∈ rest := by rw [hrest]; k_memK
  have hrs : ∀ p ∈ rest, p ∈ base := by
    rw [hrest, hbase]
    exact List.forall_mem_cons.mpr ⟨by k_memK, List.forall_mem_cons.mpr ⟨by k_memK, List.forall_mem_cons.mpr ⟨by k_memK, List.forall_mem_cons.mpr ⟨by k_memK, List.forall_mem_cons.mpr ⟨by k_memK, List.forall_mem_nil _⟩⟩⟩⟩⟩
  clear hrest
  have hJ0 : TabJ w ts Dd base 0 ((Dd, oD) :: base) := .mk [] (fun q hq => List.mem_cons_of_mem _ hq) (TupTab.ofEmpty List.mem_cons_self loD hsD) Done.zero (Int.le_refl _)
  have N7 : News s₁.heap s₁.heap.objs.size hq2 ((Dd, oD) :: base) := by
    refine News.sub N6 (fun p hp => ?_)
    rw [hbase] at hp
    simp only [List.mem_cons, List.not_mem_nil, or_false] at hp
    rcases hp with rfl | rfl | rfl | rfl | rfl | rfl | rfl | rfl <;> k_memK
  clear N6 hbase lS lB lD lP hlt hr0 hr6 hCS hLS h63 hWB hWc
  try k_fold
  refine iter_tup (LowJ w ts Dd Tk base) (by rfl) (List.mem_cons_of_mem _ hbP) rfl rfl F6 N7 (.mk (by rfl) (by rfl) (hJ0.eq n_low0)) ?_ ?_
  · intro i v m₁ nx h8 tk8 I1 it1 hc1 hv hoff1 hP8 hJJ F8 N8
    try k_fold
    obtain ⟨hi2, t8, rfl⟩ := pair01 hv
    obtain ⟨hm1, hm2, hJ⟩ := hJJ
    replace F8 : Fr s₁.heap s₁.heap.objs.size h8 _ := F8
    rw [← map2 hm1 hm2] at F8
    repeat' (first | (k_unfold; (try dsimp only)) | (k_end; wrow_close) | (walk1; all_goals (try dsimp only)) | (leave1; walk_say "STEP leave1"; try dsimp only) | fail "no step")
    refine Stop.mk ?_
    rename_i h9 t9 u9 v9 hr9 F9 N9 k9
    have hi0 : (0 : Int) ≤ (i : Int) := Int.natCast_nonneg i
    have hi1 : (i : Int) ≤ 1 := cast_one hi2
    have hi6 : (i : Int) < 6 := Int.lt_of_le_of_lt hi1 (by decide)
    have hbI1 : ∀ q ∈ base, q.1 ≠ I1 := fun q hq => hoff1 q (hJ.sub q hq)
    have hI1D := hJ.offD hoff1
    clear hm1 hm2 hv hP8
    refine iter_range (a₀ := (i : Int)) (b₀ := 6) (n := (6 - (i : Int)).toNat) (MidJ w ts Dd Tk ((I1, it1) :: base) (i : Int))
      (by rfl) hr9 (range_small hi0 hi6) (range_size hi0 hi6) F9 N9 (.mk _ (by rfl) (by rfl) (by rfl) ((hJ.put.imp (fun T d => d.mid) (le_mid hi0)).eq (n_mid0 _))) ?_ ?_
    · intro j t10 m₂ nx2 h10 tk10 I2 it2 hc2 hj hoff2 hJJ F10 N10
      try k_fold
      obtain ⟨t3, hm1, hm2, hm3, hJ2⟩ := hJJ
      obtain ⟨md, hmd⟩ : ∃ md : Int, md = (i : Int) + (j : Int) := ⟨_, rfl⟩
      rw [← hmd] at F10 hJ2
      replace F10 : Fr s₁.heap s₁.heap.objs.size h10 _ := F10
      rw [← map3 hm1 hm2 hm3] at F10
      clear hm1 hm2 hm3 F9 N9
      have hmd0 : (i : Int) ≤ md := turn_le hmd
      have hmd6 : md < 6 := turn_lt hmd hj
      have hmdz : 0 ≤ md := Int.le_trans hi0 hmd0
      repeat' (first | (k_unfold; (try dsimp only)) | (k_end; wrow_close) | (walk1; all_goals (try dsimp only)) | (leave1; walk_say "STEP leave1"; try dsimp only) | fail "no step")
      refine Stop.mk ?_
      rename_i h11 t11 u11 v11 hr11 F11 N11 k11
      have hbI2 : ∀ q ∈ (I1, it1) :: base, q.1 ≠ I2 := fun q hq => hoff2 q (hJ2.sub q hq)
      have hI2D := hJ2.offD hoff2
      refine iter_range (a₀ := md) (b₀ := 6) (n := (6 - md).toNat) (HighJ w ts Dd Tk ((I2, it2) :: (I1, it1) :: base) (i : Int) md)
        (by rfl) hr11 (range_small hmdz hmd6) (range_size hmdz hmd6) F11 N11 (.mk _ _ (by rfl) (by rfl) (by rfl) (by rfl) ((hJ2.put.imp (fun T d => d.high hmdz hmd6) (le_high hmdz)).eq (n_high0 _ _))) ?_ ?_
      · intro k t12 m₃ nx3 h12 tk12 I3 it3 hc3 hk hoff3 hJJ F12 N12
        try k_fold
        obtain ⟨t3, t4, hm1, hm2, hm3, hm4, hJ3⟩ := hJJ
        obtain ⟨hg, hhg⟩ : ∃ hg : Int, hg = md + (k : Int) := ⟨_, rfl⟩
        rw [← hhg] at F12 hJ3
        replace hJ3 : TabJ w ts Dd ((I2, it2) :: (I1, it1) :: base) (code ((i : Int), md, hg)) nx3 := hJ3
        replace F12 : Fr s₁.heap s₁.heap.objs.size h12 _ := F12
        replace N12 : News s₁.heap s₁.heap.objs.size h12 _ := N12
        rw [← map4 hm1 hm2 hm3 hm4] at F12
        clear hm1 hm2 hm3 hm4 F11 N11 hr11 k11 hr9 k9
        have hhg0 : md ≤ hg := turn_le hhg
        have hhg6 : hg < 6 := turn_lt hhg hk
        have bi : 0 ≤ (i : Int) ∧ (i : Int) < 6 := ⟨hi0, hi6⟩
        have bm : 0 ≤ md ∧ md < 6 := ⟨hmdz, hmd6⟩
        have bh : 0 ≤ hg ∧ hg < 6 := ⟨Int.le_trans hmdz hhg0, hhg6⟩
        have hI3D := hJ3.offD hoff3
        have hbI3 : ∀ q ∈ (I2, it2) :: (I1, it1) :: base, q.1 ≠ I3 := fun q hq => hoff3 q (hJ3.sub q hq)
        obtain ⟨T3, hsub, hT3, hD3, hL3⟩ := hJ3
        have hL3' : (T3.length : Int) ≤ 36 * (i : Int) + 6 * md + hg := hL3
        have hK3 : (Tk, tupO us nt) ∈ nx3 := hsub _ (List.mem_cons_of_mem _ (List.mem_cons_of_mem _ hbK))
        have hW3 : (W, listOf (List.toArray ws) nw) ∈ nx3 := hsub _ (List.mem_cons_of_mem _ (List.mem_cons_of_mem _ hbW))
        have hTb3 : (s₁.heap.objs.size + 1 + 1, oT') ∈ nx3 := hsub _ (List.mem_cons_of_mem _ (List.mem_cons_of_mem _ hbT))
        repeat' (first | (k_unfold; (try dsimp only)) | (k_end; wrow_close) | (walk1; all_goals (try dsimp only)) | (leave1; walk_say "STEP leave1"; try dsimp only) | fail "no step")
        refine Stop.mk ?_
        rename_i H h13 lH h14 F14 N14
        have hHD : @Ne Nat H Dd := by
          obtain ⟨od, hod, -⟩ := hT3.dict
          exact Nat.ne_of_gt (allLt_mem lH.2 _ hod)
        try k_fold
        refine' Says.use (lost_ok _ _ _ _ H Tk Dd (i : Int) md hg _ _ _ _ nt us ts T3 (zeroB ts) _ ?hH ?hT hus hts ?ha ?hb ?hc ?hD ?hf) ?k1 ?k2 ?k3 ?k4 ?k5 ?kK ?kd ?ku ?_
        walk_at "mine args"
        case hH => k_mem
        case hT => k_mem
        case ha => exact bi
        case hb => exact bm
        case hc => exact bh
        case hD => exact hT3.mono fun q hq => List.mem_cons_of_mem _ (List.mem_cons_of_mem _ hq)
        case hf => exact hD3.moves hts hi0 hi1 hmd0 hhg0 hhg6
        rintro r15 tl15 h15 tk15 F15 N15 ⟨rfl, rfl⟩
        simp only [List.nil_append] at N15
        generalize hz0 : (!(movesF ts (i : Int) md hg).any (zeroB ts)) = z
        have hz : z = zeroB ts ((i : Int), md, hg) := by
          rw [← hz0]
          exact moves_any hts bi bm bh
        dsimp only
        repeat' (first | (k_unfold; (try dsimp only)) | (k_end; wrow_close) | (walk1; all_goals (try dsimp only)) | (leave1; walk_say "STEP leave1"; try dsimp only) | fail "no step")
        refine Stop.mk ?_
        rename Fr _ _ _ _ => F16
        rename News _ _ _ _ => N16
        try k_fold
        refine setItem_tupTab (knd := intKind _ _) (enc := PyData.int) (ks := listP ((i : Int), md, hg)) (dv := .bool z) PyProof.V.same_int (by units_room) (PyProof.V.Flat.bool z) F16 N16 (hT3.mono fun q hq => List.mem_cons_of_mem _ (List.mem_cons_of_mem _ (List.mem_cons_of_mem _ hq))) List.mem_cons_self (TupKeyObj.made (itemsAre_of (.cons _ _ (.cons _ _ (.cons _ _ .nil))))) ?_ (tab_size hL3 hi1 hmd6 hhg6)
        intro h17 nx4 F17 N17 T17 hKy keep17
        replace F17 : Fr s₁.heap s₁.heap.objs.size h17 _ := F17
        replace N17 : News s₁.heap s₁.heap.objs.size h17 _ := N17
        clear F16 N16
        have hH4 := keep17 _ (List.mem_cons_of_mem _ List.mem_cons_self) hHD
        have hI4 : (I3, it3) ∈ nx4 := keep17 _ (List.mem_cons_of_mem _ (List.mem_cons_of_mem _ List.mem_cons_self)) hI3D
        have hb4 : ∀ q ∈ (I2, it2) :: (I1, it1) :: base, q ∈ nx4 := fun q hq => keep17 q (List.mem_cons_of_mem _ (List.mem_cons_of_mem _ (List.mem_cons_of_mem _ (hsub q hq)))) (by
          rcases List.mem_cons.mp hq with rfl | hq
          · exact hI2D
          · rcases List.mem_cons.mp hq with rfl | hq
            · exact hI1D
            · exact hbD q hq)
        have hW4 : (W, listOf (List.toArray ws) nw) ∈ nx4 := hb4 _ (List.mem_cons_of_mem _ (List.mem_cons_of_mem _ hbW))
        have hTb4 : (s₁.heap.objs.size + 1 + 1, oT') ∈ nx4 := hb4 _ (List.mem_cons_of_mem _ (List.mem_cons_of_mem _ hbT))
        clear keep17 hKy
        dsimp only
        repeat' (first | (k_unfold; (try dsimp only)) | (k_end; wrow_close) | (walk1; all_goals (try dsimp only)) | (leave1; walk_say "STEP leave1"; try dsimp only) | fail "no step")
        refine Stop.mk ?_
        rename Fr _ _ _ _ => F18
        rename News _ _ _ _ => N18
        try k_fold
        refine item_tupTab (knd := intKind _ _) (enc := PyData.int) (ks := listP ((i : Int), md, hg)) (dv := .bool z) PyProof.V.same_int (by units_room) N18 (LostTab.mono T17 fun q hq => List.mem_cons_of_mem _ hq) List.mem_cons_self (TupKeyObj.made (itemsAre_of (.cons _ _ (.cons _ _ (.cons _ _ .nil))))) (PyProof.V.lookup_putK_same (keyEnc_tuple PyProof.V.keyEnc_int) _ _ _) ?_
        intro v19 hv19
        obtain rfl := hv19.bool_inv
        clear hv19
        dsimp only
        repeat' (first | (k_unfold; (try dsimp only)) | (k_end; wrow_close) | (walk1; all_goals (try dsimp only)) | (leave1; walk_say "STEP leave1"; try dsimp only) | fail "no step")
        refine Stop.mk ?_
        try k_fold
        refine' Says.use (sum_ok _ _ _ _ H W (i : Int) md hg t3 t4 t12 0 nw ws (tabOf ts) _ ?hH ?hW hws (worthsPre_len ts 6) ?ht ?ha ?hb ?hc) ?k1 ?k2 ?k3 ?k4 ?k5 ?kK ?kd ?ku ?_
        walk_at "mine args"
        case hH => exact List.mem_cons_of_mem _ hH4
        case hW => exact List.mem_cons_of_mem _ hW4
        case ht => exact tab_small ts
        case ha => exact bi
        case hb => exact bm
        case hc => exact bh
        rintro r20 tl20 h20 tk20 F20 N20 ⟨rfl, t20, rfl⟩
        simp only [List.nil_append] at N20
        dsimp only
        have hz' : z = decide (sumF (tabOf ts) (i : Int) md hg = 0) := hz
        repeat' (first | (k_unfold; (try dsimp only)) | (k_end; wrow_close) | (walk1; all_goals (try dsimp only)) | (leave1; walk_say "STEP leave1"; try dsimp only) | fail "no step")
        · exfalso
          rename (_ != _) = true => hne
          rw [hz', dec_bne] at hne
          exact nomatch hne
        · refine EndX.intro (offI I3 nx4) (by k_asm) N20 (List.mem_cons_of_mem _ hI4) (fun q hq => List.mem_cons_of_mem _ (mem_offI.mp hq).1) (fun q hq => (mem_offI.mp hq).2) (fun q hq => nomatch hq) (.mk _ _ (by rfl) (by rfl) (by rfl) (by rfl) ?_)
          refine TabJ.eq (n := code ((i : Int), md, hg) + 1) (.mk _ (fun q hq => mem_offI.mpr ⟨hb4 q hq, hbI3 q hq⟩) (LostTab.off T17 (News.sub N20 fun q hq => List.mem_cons_of_mem _ hq) hI4 hc3 (by decide) (by decide)) ?_ ?_) ?_
          · rw [hz]
            exact hD3.put (sorted_low hi0 hi1 hmd0 hhg0 hhg6)
          · have := PyProof.V.putD_length_le (encTuple PyData.int (listP ((i : Int), md, hg))) (.bool z) T3
            exact Int.le_trans (Int.ofNat_le.mpr this) (Int.add_le_add_right hL3 1)
          · exact n_step hhg
      · intro m₃ nx3 h12 tk12 hJJ F12 N12
        obtain ⟨t3, t4, hm1, hm2, hm3, hm4, hJ3⟩ := hJJ
        repeat' (first | (k_unfold; (try dsimp only)) | (k_end; wrow_close) | (walk1; all_goals (try dsimp only)) | (leave1; walk_say "STEP leave1"; try dsimp only) | fail "no step")
        refine EndX.intro (offI I2 nx3) F12 N12 (hJ3.sub _ List.mem_cons_self) (fun q hq => (mem_offI.mp hq).1) (fun q hq => (mem_offI.mp hq).2) (fun q hq => nomatch hq) (.mk _ hm1 hm2 hm3 ((TabJ.off hJ3 N12 hc2 (by decide) (by decide) hbI2).eq (n_high_end hmd hmd6)))
    · intro m₂ nx2 h10 tk10 hJJ F10 N10
      obtain ⟨t3, hm1, hm2, hm3, hJ2⟩ := hJJ
      repeat' (first | (k_unfold; (try dsimp only)) | (k_end; wrow_close) | (walk1; all_goals (try dsimp only)) | (leave1; walk_say "STEP leave1"; try dsimp only) | fail "no step")
      refine EndX.intro (offI I1 nx2) F10 N10 (hJ2.sub _ List.mem_cons_self) (fun q hq => (mem_offI.mp hq).1) (fun q hq => (mem_offI.mp hq).2) (fun q hq => ?_) (.mk hm1 hm2 ((TabJ.off hJ2 N10 hc1 (by decide) (by decide) hbI1).eq (n_mid_end hi1)))
      rw [List.mem_singleton.mp hq]
      exact mem_offI.mpr ⟨hJ2.sub _ (List.mem_cons_of_mem _ hbP), hbI1 _ hbP⟩
  · intro m₁ nx h8 tk8 hP8 hJJ F8 N8
    obtain ⟨hm1, hm2, hJ⟩ := hJJ
    replace F8 : Fr s₁.heap s₁.heap.objs.size h8 _ := F8
    rw [← map2 hm1 hm2] at F8
    have N9 : News s₁.heap s₁.heap.objs.size h8 ((Bg, listOf [.ref Sl, .int 1 tb].toArray nb) :: rest) :=
      News.sub N8 fun p hp => hJ.sub p (List.forall_mem_cons.mpr ⟨hbG, hrs⟩ p hp)
    clear N8 hJ hJ0 N7 hP8 hbD hbP hbW hbK hbT hbB hbG hbS hm1 hm2
    dsimp only
    repeat' (first | (k_unfold; (try dsimp only)) | (k_end; wrow_close) | (walk1; all_goals (try dsimp only)) | (leave1; walk_say "STEP leave1"; try dsimp only) | fail "no step")
    refine Stop.mk ?_
    refine LCg.Assign_ListComp_U (F₀ := by k_asm) (by rfl) (by with_unfolding_all rfl) (by with_unfolding_all rfl) (by decide) (by rfl) (by decide) (by rfl) (by rfl) (by rfl) ?_
    repeat' (first | (k_unfold; (try dsimp only)) | (k_end; wrow_close) | (walk1; all_goals (try dsimp only)) | (leave1; walk_say "STEP leave1"; try dsimp only) | fail "no step")
    refine Stop.mk ?_
    rename_i h10 t10 u10 v10 hr10 F10 N10 k10
    refine LCg.CompSrc.range (n := 3) (by rfl) F10 N10 hr10 (by rfl) (by rfl) (Nat.le_of_ble_eq_true rfl) ?_
    intro g10
    refine comp_inv (DrawJ Bg Sl rest) (.mk tb nb [] rfl .nil rfl fun _ hx => nomatch hx) ?_ ?_
    · intro i ys nz hi3 hJJ v I2 oI2 C2 oC2 D2 mm2 hh2 tk2 E2 hP hC2 hx2 F2 N2 off2 ne2
      try k_fold
      obtain ⟨tb2, nb2, ns, rfl, hys, hnl, hns⟩ := hJJ
      obtain ⟨tv, rfl⟩ := hP
      clear F10 N10
      repeat' (first | (k_unfold; (try dsimp only)) | (k_end; wrow_close) | (walk1; all_goals (try dsimp only)) | (leave1; walk_say "STEP leave1"; try dsimp only) | fail "no step")
      refine Stop.mk ?_
      have hIB : @Ne Nat I2 Bg ∧ @Ne Nat C2 Bg ∧ @Ne Nat D2 Bg := by
        obtain ⟨a1, a2, a3⟩ := off2.mem _ List.mem_cons_self
        exact ⟨Ne.symm a1, Ne.symm a2, Ne.symm a3⟩
      have N3 := News.front (a := [_, _, _]) N2
      simp only [List.cons_append, List.nil_append] at N3
      clear N2
      try k_fold
      refine' drawn_walk _ _ _ _ Bg Sl (1 + (i : Int)) 6 _ _ _ 0 wsS _ _ ?off ?hl hiS ?len ?h0 ?h1 ?hb ?hb2 _ _ _ _ _ _ _ _ _ _ _ _ _ _ _ _ _ ?k1 ?k2 ?k3 ?k4 ?k5 ?kK ?kd ?ku ?_
      walk_at "mine args"
      case off =>
        intro p hp b hb
        rw [List.mem_singleton.mp hb]
        simp only [List.mem_cons] at hp
        rcases hp with rfl | rfl | rfl | hp
        · exact hIB.1
        · exact hIB.2.1
        · exact hIB.2.2
        · exact hrB p hp
      case hl => exact List.mem_cons_of_mem _ (List.mem_cons_of_mem _ (List.mem_cons_of_mem _ hrS))
      case len => exact Nat.le_trans (List.length_take_le 14 _) (by decide)
      case h0 => exact draw_lo i
      case h1 => exact draw_hi hi3
      case hb => decide
      case hb2 => decide
      intro r tr tb3 nb3 h11 tk11 hr0 hr6 F11 N11
      have N12 : News s₁.heap s₁.heap.objs.size h11 ((I2, oI2) :: (C2, oC2) :: (D2, lst ys) :: (Bg, listOf [.ref Sl, .int (1 + (i : Int) + 1) tb3].toArray nb3) :: rest) := News.sub N11 (fun p hp => by
        simp only [List.mem_cons] at hp ⊢
        grind)
      have ei := draw_next i
      rw [ei] at N12
      exact compEnd_same F11 N12 off2 trivial (.mk tb3 nb3 (ns ++ [r]) rfl (hys.append (.cons _ _ .nil)) (by rw [List.length_append, hnl]; rfl) fun x hx => by
        rcases List.mem_append.mp hx with hx | hx
        · exact hns x hx
        · rw [List.mem_singleton.mp hx]; exact ⟨hr0, hr6⟩)
    · intro ys nz hJJ
      obtain ⟨tb2, nb2, ns, rfl, hys, hnl, hns⟩ := hJJ
      unfold LCg.FinA
      intro H h11 tk11 F11 N11 oH
      dsimp only
      try k_fold
      obtain ⟨a, b, c, ta, tb9, tc, rfl, rfl⟩ := three_ints hys hnl
      have ha := hns a List.mem_cons_self
      have hb := hns b (List.mem_cons_of_mem _ List.mem_cons_self)
      have hc := hns c (List.mem_cons_of_mem _ (List.mem_cons_of_mem _ List.mem_cons_self))
      clear hns hnl hys F10 N10 hr10 k10
      repeat' (first | (k_unfold; (try dsimp only)) | (k_end; wrow_close) | (walk1; all_goals (try dsimp only)) | (leave1; walk_say "STEP leave1"; try dsimp only) | fail "no step")
      refine Stop.mk ?_
      try k_fold
      refine' Says.use (sum_ok _ _ _ _ H W a b c ta tb9 tc 3 nw ws (tabOf ts) _ ?hH ?hW hws (worthsPre_len ts 6) ?ht ha hb hc) ?k1 ?k2 ?k3 ?k4 ?k5 ?kK ?kd ?ku ?_
      walk_at "mine args"
      case hH => exact List.mem_cons_self
      case hW => exact List.mem_cons_of_mem _ (List.mem_cons_of_mem _ hrW)
      case ht => exact tab_small ts
      rintro r20 tl20 h20 tk20 F20 N20 ⟨rfl, t20, rfl⟩
      simp only [List.nil_append] at N20
      replace N20 : News s₁.heap s₁.heap.objs.size h20 ((H, listOf [.int a ta, .int b tb9, .int c tc].toArray 3) :: (Bg, listOf [.ref Sl, .int 4 tb2].toArray nb2) :: rest) := N20
      replace F20 : Fr s₁.heap s₁.heap.objs.size h20 _ := F20
      clear F11 N11
      dsimp only
      repeat' (first | (k_unfold; (try dsimp only)) | (k_end; wrow_close) | (walk1; all_goals (try dsimp only)) | (leave1; walk_say "STEP leave1"; try dsimp only) | fail "no step")
      refine Stop.mk ?_
      rename_i h21 tk21 t21 u21 v21 hr21 F21 N21 k21
      refine iter_range (a₀ := 0) (b₀ := 16) (n := 16) (GameJ ts Bg Sl Tk rest)
        (by rfl) hr21 (by rfl) (by rfl) F21 N21 (.mk H a b c ta tb9 tc 3 4 tb2 nb2 (by rfl) (by rfl) (by rw [show (!zeroB ts (a, b, c)) = (sumF (tabOf ts) a b c != 0) from (dec_bne2 _).symm]; rfl) rfl ha hb hc (sum15 ha hb hc) (by decide) (by decide)) ?_ ?_
      · clear F21 N21 hr21 k21 ha hb hc
        intro i ti m₁ nx h22 tk22 I it hcI hi16 hoff hJJ F22 N22
        try k_fold
        obtain ⟨H, a, b, c, ta, tb, tc, nh, k, tB, nB, hm1, hm2, hm3, rfl, ha, hb, hc, hsum, hk0, hk1⟩ := hJJ
        replace F22 : Fr s₁.heap s₁.heap.objs.size h22 _ := F22
        replace N22 : News s₁.heap s₁.heap.objs.size h22 _ := N22
        rw [← map3 hm1 hm2 hm3] at F22
        have hlen3 := (menu_facts ts hts).1
        have hts3 := (menu_facts ts hts).2
        repeat' (first | (k_unfold; (try dsimp only)) | (k_end; wrow_close) | (walk1; all_goals (try dsimp only)) | (leave1; walk_say "STEP leave1"; try dsimp only) | fail "no step")
        refine Stop.mk ?_
        try k_fold
        refine' Says.use (moves_ok _ _ _ _ H Tk a b c ta tb tc nh nt us ts _ ?hH ?hT hus hlen3 hts3 ha hb hc) ?k1 ?k2 ?k3 ?k4 ?k5 ?kK ?kd ?ku ?_
        walk_at "mine args"
        case hH => k_mem
        case hT => k_mem
        rintro r23 tl h23 tk23 F23 N23 ⟨R, rs, nR, rfl, hRm, hls⟩
        replace F23 : Fr s₁.heap s₁.heap.objs.size h23 _ := F23
        replace N23 : News s₁.heap s₁.heap.objs.size h23 _ := N23
        have hIB : @Ne Nat I Bg := Ne.symm (hoff _ (List.mem_cons_of_mem _ List.mem_cons_self))
        have hBm : (Bg, listOf [.ref Sl, .int k tB].toArray nB) ∈ tl ++ (I, it) :: (H, listOf [.int a ta, .int b tb, .int c tc].toArray nh) :: (Bg, listOf [.ref Sl, .int k tB].toArray nB) :: rest := List.mem_append_right _ (by k_mem)
        have hHB : @Ne Nat H Bg := News.apart N23 (o := listOf [.int a ta, .int b tb, .int c tc].toArray nh) (List.mem_append_right _ (by k_mem)) hBm (listO_ne (by simp))
        have hRB : @Ne Nat R Bg := News.apart N23 (List.mem_append_left _ hRm) hBm hls.ne_bag
        obtain ⟨LX, hLX⟩ : ∃ l : Led, l = offI Bg tl ++ (I, it) :: rest := ⟨_, rfl⟩
        have hlX : ListsAre LX rs (movesF ts a b c) := (hls.offI N23 hBm fun p hp => List.mem_append_left _ hp).mono fun p hp => by rw [hLX]; exact List.mem_append_left _ hp
        have hRX : (R, listOf (List.toArray rs) nR) ∈ LX := by rw [hLX]; exact List.mem_append_left _ (mem_offI.mpr ⟨hRm, hRB⟩)
        have hIX : (I, it) ∈ LX := by rw [hLX]; exact List.mem_append_right _ List.mem_cons_self
        have hrX : ∀ p ∈ rest, p ∈ LX := fun p hp => by rw [hLX]; exact List.mem_append_right _ (List.mem_cons_of_mem _ hp)
        have hXB : ∀ p ∈ LX, p.1 ≠ Bg := by
          intro p hp
          rw [hLX] at hp
          rcases List.mem_append.mp hp with hp | hp
          · exact (mem_offI.mp hp).2
          · rcases List.mem_cons.mp hp with rfl | hp
            · exact hIB
            · exact hrB p hp
        have N24 : News s₁.heap s₁.heap.objs.size h23 ((Bg, listOf [.ref Sl, .int k tB].toArray nB) :: LX) := News.sub N23 fun p hp => by
          rcases List.mem_cons.mp hp with rfl | hp
          · exact hBm
          · rw [hLX] at hp
            rcases List.mem_append.mp hp with hp | hp
            · exact List.mem_append_left _ (mem_offI.mp hp).1
            · rcases List.mem_cons.mp hp with rfl | hp
              · exact List.mem_append_right _ List.mem_cons_self
              · exact List.mem_append_right _ (List.mem_cons_of_mem _ (List.mem_cons_of_mem _ (List.mem_cons_of_mem _ hp)))
        have hrI : ∀ p ∈ rest, p.1 ≠ I := fun p hp => hoff p (List.mem_cons_of_mem _ (List.mem_cons_of_mem _ hp))
        clear hLX N23 hBm hls hRm hoff hHB
        clear hm1 hm2 hm3
        have hWX := hrX _ hrW
        have hTX := hrX _ hrT
        have hCX := hrX _ hrC
        have hml := hlX.len
        dsimp only
        repeat' (first | (k_unfold; (try dsimp only)) | (k_end; wrow_close) | (walk1; all_goals (try dsimp only)) | (leave1; walk_say "STEP leave1"; try dsimp only) | fail "no step")
        refine Stop.mk ?_
        rename_i h24 E0 h25 F25 N25 lE
        by_cases hrs : rs = []
        · subst hrs
          have hmv : movesF ts a b c = [] := List.length_eq_zero_iff.mp hml.symm
          have hz : zeroB ts (a, b, c) = true := by rw [← moves_any hts ha hb hc, hmv]; rfl
          rw [hz] at F25
          refine eq_intsK (News.isList N25 (List.mem_cons_of_mem _ (List.mem_cons_of_mem _ hRX))) .nil (News.isList N25 List.mem_cons_self) .nil (by units_room) ?_
          repeat' (first | (k_unfold; (try dsimp only)) | (k_end; wrow_close) | (walk1; all_goals (try dsimp only)) | (leave1; walk_say "STEP leave1"; try dsimp only) | fail "no step")
          refine PostX.ret ?_
          dsimp only
          repeat' (first | (k_unfold; (try dsimp only)) | (k_end; wrow_close) | (walk1; all_goals (try dsimp only)) | (leave1; walk_say "STEP leave1"; try dsimp only) | fail "no step")
        · refine P.eq_list_lengths (N25.get (List.mem_cons_of_mem _ (List.mem_cons_of_mem _ hRX))) (N25.get List.mem_cons_self) (by cases rs with | nil => exact absurd rfl hrs | cons x y => simp) (by units_room) ?_
          have hmany : rs.length ≤ 9 := by
            rw [hml]
            exact moves_few hlen3
          cases hz : zeroB ts (a, b, c)
          · rw [hz] at F25
            repeat' (first | (k_unfold; (try dsimp only)) | (k_end; wrow_close) | (walk1; all_goals (try dsimp only)) | (leave1; walk_say "STEP leave1"; try dsimp only) | fail "no step")
            refine Stop.mk ?_
            refine LCt.Assign_ListComp_T (F₀ := by k_asm) (by rfl) (by with_unfolding_all rfl) (by with_unfolding_all rfl) (by decide) (by rfl) (by decide) (by rfl) (by rfl) (by rfl) ?_
            repeat' (first | (k_unfold; (try dsimp only)) | (k_end; wrow_close) | (walk1; all_goals (try dsimp only)) | (leave1; walk_say "STEP leave1"; try dsimp only) | fail "no step")
            refine Stop.mk ?_
            rename Fr _ _ _ _ => F26
            rename News _ _ _ _ => N26
            refine LCt.CompSrcT.ledger (by rfl) F26 (drop_one N26) (List.mem_cons_of_mem _ hRX) (by rw [List.size_toArray]; exact few_size hmany) ?_
            intro g26
            refine compT_inv (fun j ys nz => nz = (Bg, listOf [.ref Sl, .int k tB].toArray nB) :: LX ∧ ListsAre LX ys (((movesF ts a b c).take j).filter (zeroB ts))) ⟨rfl, .nil⟩ ?_ ?_
            · intro j ys nz hj hJJ v I2 oI2 C2 oC2 D2 mm2 hh2 tk2 E2 hP hC2 hx2 F2 N2 off2 ne2
              try k_fold
              obtain ⟨rfl, hys⟩ := hJJ
              obtain ⟨X, o, t1, t2, t3, n8, ho, hX⟩ := hlX.item j v (by simpa using hP)
              have hbox := moves_box hts ha hb hc (List.mem_of_getElem? ho)
              clear F26 N26
              repeat' (first | (k_unfold; (try dsimp only)) | (k_end; wrow_close) | (walk1; all_goals (try dsimp only)) | (leave1; walk_say "STEP leave1"; try dsimp only) | fail "no step")
              refine Stop.mk ?_
              try k_fold
              refine' Says.use (sum_ok _ _ _ _ X W o.1 o.2.1 o.2.2 t1 t2 t3 n8 nw ws (tabOf ts) _ ?hH ?hW hws (worthsPre_len ts 6) ?ht hbox.1 hbox.2.1 hbox.2.2.1) ?k1 ?k2 ?k3 ?k4 ?k5 ?kK ?kd ?ku ?_
              walk_at "mine args"
              case hH => k_mem
              case hW => k_mem
              case ht => exact tab_small ts
              rintro r20 tl20 h20 tk20 F20 N20 ⟨rfl, t20, rfl⟩
              simp only [List.nil_append] at N20
              dsimp only
              have hSx : LCg.SrcAt s₁.heap R rs.toArray ((Bg, listOf [.ref Sl, .int k tB].toArray nB) :: LX) := Or.inr ⟨_, List.mem_cons_of_mem _ hRX, rfl, _, rfl⟩
              have hnext : (((movesF ts a b c).take (j + 1)).filter (zeroB ts)) = ((movesF ts a b c).take j).filter (zeroB ts) ++ (if zeroB ts o = true then [o] else []) := by
                rw [List.take_add_one, ho, List.filter_append]
                congr 1
                simp only [Option.toList_some, List.filter_cons, List.filter_nil]
              repeat' (first | (k_unfold; (try dsimp only)) | (k_end; wrow_close) | (walk1; all_goals (try dsimp only)) | (leave1; walk_say "STEP leave1"; try dsimp only) | fail "no step")
              · rename sumF (tabOf ts) o.1 o.2.1 o.2.2 = 0 => hso
                have hzo : zeroB ts o = true := decide_eq_true hso
                refine compEnd_same F20 N20 off2 hSx ⟨rfl, ?_⟩
                rw [hnext, if_pos hzo]
                exact hys.append (.one hX)
              · rename sumF (tabOf ts) o.1 o.2.1 o.2.2 ≠ 0 => hso
                have hzo : zeroB ts o = false := decide_eq_false hso
                refine compEnd_same F20 N20 off2 hSx ⟨rfl, ?_⟩
                rw [hnext, if_neg (by rw [hzo]; exact Bool.false_ne_true), List.append_nil]
                exact hys
            · rintro ys nz ⟨rfl, hys⟩
              rw [List.size_toArray, hml, List.take_length] at hys
              unfold LCg.FinA
              intro Gd h26 tk26 F27 N27 oG
              have hany : (movesF ts a b c).any (zeroB ts) = true := by
                have e := moves_any hts ha hb hc
                rw [hz] at e
                simpa using e
              have hyn : ys ≠ [] := by
                rintro rfl
                obtain ⟨o, ho, hzo⟩ := List.any_eq_true.mp hany
                have : o ∈ (movesF ts a b c).filter (zeroB ts) := List.mem_filter.mpr ⟨ho, hzo⟩
                rw [List.length_eq_zero_iff.mp hys.len.symm] at this
                exact nomatch this
              obtain ⟨y0, yr, rfl⟩ : ∃ y0 yr, ys = y0 :: yr := by
                cases ys with
                | nil => exact absurd rfl hyn
                | cons y0 yr => exact ⟨y0, yr, rfl⟩
              try k_fold
              obtain ⟨X, o, t1, t2, t3, n8, ho, hX⟩ := hys.item 0 y0 rfl
              have hmo := (List.mem_filter.mp (List.mem_of_getElem? ho)).1
              have hzo := (List.mem_filter.mp (List.mem_of_getElem? ho)).2
              have hbox := moves_box hts ha hb hc hmo
              clear F26 N26
              dsimp only
              repeat' (first | (k_unfold; (try dsimp only)) | (k_end; wrow_close) | (walk1; all_goals (try dsimp only)) | (leave1; walk_say "STEP leave1"; try dsimp only) | fail "no step")
              refine Stop.mk ?_
              rename Fr _ _ _ _ => F28
              rename News _ _ _ _ => N28
              refine P.eq_list_lengths (N28.get (List.mem_cons_of_mem _ List.mem_cons_self)) (N28.get List.mem_cons_self) (by simp) (by units_room) ?_
              repeat' (first | (k_unfold; (try dsimp only)) | (k_end; wrow_close) | (walk1; all_goals (try dsimp only)) | (leave1; walk_say "STEP leave1"; try dsimp only) | fail "no step")
              refine Stop.mk ?_
              refine item_list (News.isList N28 (List.mem_cons_of_mem _ List.mem_cons_self)) (by decide) (by decide) (show (Value.ref X :: yr).toArray[Int.toNat 0]? = some (Value.ref X) from rfl) ?_
              have hXI : @Ne Nat X I := News.apart N28 (o := listOf [.int o.1 t1, .int o.2.1 t2, .int o.2.2 t3].toArray n8) (o' := it) (by k_mem) (by k_mem) (listO_cls hcI (by decide))
              repeat' (first | (k_unfold; (try dsimp only)) | (k_end; wrow_close) | (walk1; all_goals (try dsimp only)) | (leave1; walk_say "STEP leave1"; try dsimp only) | fail "no step")
              rename Fr _ _ _ _ => F29
              rename News _ _ _ _ => N29
              refine EndX.intro ((X, listOf [.int o.1 t1, .int o.2.1 t2, .int o.2.2 t3].toArray n8) :: (Bg, listOf [.ref Sl, .int k tB].toArray nB) :: rest) F29 N29 (by k_mem) (fun p hp => ?_) (fun p hp => ?_) (fun p hp => nomatch hp)
                (.mk X o.1 o.2.1 o.2.2 t1 t2 t3 n8 k tB nB (by rfl) (by rfl) (by rw [show zeroB ts (o.1, o.2.1, o.2.2) = true from hzo]; rfl) rfl hbox.1 hbox.2.1 hbox.2.2.1 (less_by_one hsum hbox.2.2.2) hk0 (spot_keep hk1))
              · rcases List.mem_cons.mp hp with rfl | hp
                · k_mem
                · rcases List.mem_cons.mp hp with rfl | hp
                  · k_mem
                  · have hq := hrX p hp
                    k_mem
              · rcases List.mem_cons.mp hp with rfl | hp
                · exact hXI
                · rcases List.mem_cons.mp hp with rfl | hp
                  · exact Ne.symm hIB
                  · exact hrI p hp
          · rw [hz] at F25
            repeat' (first | (k_unfold; (try dsimp only)) | (k_end; wrow_close) | (walk1; all_goals (try dsimp only)) | (leave1; walk_say "STEP leave1"; try dsimp only) | fail "no step")
            refine Stop.mk ?_
            refine len_list (News.isList (by k_asm) (by k_mem)) (by simp only [List.size_toArray]; omega) ?_
            simp only [List.size_toArray]
            k_steps
            refine Stop.mk ?_
            have N26 := drop_one N25
            clear N25
            try k_fold
            refine' drawn_walk _ _ _ _ Bg Sl k (rs.length : Int) _ _ _ 0 wsS _ _ ?off ?hl hiS ?len ?h0 ?h1 ?hBel ?hBel2 _ _ _ _ _ _ _ _ _ _ _ _ _ _ _ _ _ ?k1 ?k2 ?k3 ?k4 ?k5 ?kK ?kd ?ku ?_
            walk_at "mine args"
            case off =>
              intro p hp b hb
              rw [List.mem_singleton.mp hb]
              exact hXB p hp
            case hl => exact hrX _ hrS
            case len => exact Nat.le_trans (List.length_take_le 14 _) (by decide)
            case h0 => exact hk0
            case h1 => exact spot_lt hk1 hi16
            case hBel => exact len_pos hrs
            case hBel2 => exact len_lt hmany
            intro r tr tb3 nb3 h27 tk27 hr0 hr6 F27 N27
            dsimp only
            try k_fold
            obtain ⟨v, hv⟩ : ∃ v, rs[r.toNat]? = some v := ⟨rs[r.toNat]'(nat_lt hr0 hr6), List.getElem?_eq_getElem _⟩
            obtain ⟨X, o, t1, t2, t3, n8, ho, hX⟩ := hlX.item _ v hv
            have hmo := List.mem_of_getElem? ho
            have hbox := moves_box hts ha hb hc hmo
            refine item_list (News.isList N27 (List.mem_cons_of_mem _ hRX)) hr0 (small63 hr6 hmany) (by simpa using hv) ?_
            repeat' (first | (k_unfold; (try dsimp only)) | (k_end; wrow_close) | (walk1; all_goals (try dsimp only)) | (leave1; walk_say "STEP leave1"; try dsimp only) | fail "no step")
            refine Stop.mk ?_
            try k_fold
            refine' Says.use (sum_ok _ _ _ _ X W o.1 o.2.1 o.2.2 t1 t2 t3 n8 nw ws (tabOf ts) _ ?hH ?hW hws (worthsPre_len ts 6) ?ht hbox.1 hbox.2.1 hbox.2.2.1) ?k1 ?k2 ?k3 ?k4 ?k5 ?kK ?kd ?ku ?_
            walk_at "mine args"
            case hH => k_mem
            case hW => k_mem
            case ht => exact tab_small ts
            rintro r28 tl28 h28 tk28 F28 N28 ⟨rfl, t28, rfl⟩
            simp only [List.nil_append] at N28
            have hzo : zeroB ts o = false := by
              have e := moves_any hts ha hb hc
              rw [hz] at e
              have e2 : (movesF ts a b c).any (zeroB ts) = false := by simpa using e
              exact Bool.eq_false_iff.mpr (fun hq => by
                have := List.any_eq_true.mpr ⟨o, hmo, hq⟩
                rw [e2] at this
                exact nomatch this)
            have hso : sumF (tabOf ts) o.1 o.2.1 o.2.2 ≠ 0 := fun e => by
              have : zeroB ts o = true := decide_eq_true e
              rw [hzo] at this
              exact nomatch this
            dsimp only
            have hXI : @Ne Nat X I := News.apart N28 (o := listOf [.int o.1 t1, .int o.2.1 t2, .int o.2.2 t3].toArray n8) (o' := it) (by k_mem) (by k_mem) (listO_cls hcI (by decide))
            repeat' (first | (k_unfold; (try dsimp only)) | (k_end; wrow_close) | (walk1; all_goals (try dsimp only)) | (leave1; walk_say "STEP leave1"; try dsimp only) | fail "no step")
            · exact absurd (by assumption) hso
            · rename Fr _ _ _ _ => F29
              rename News _ _ _ _ => N29
              refine EndX.intro ((X, listOf [.int o.1 t1, .int o.2.1 t2, .int o.2.2 t3].toArray n8) :: (Bg, listOf [.ref Sl, .int (k + 1) tb3].toArray nb3) :: rest) F29 N29 (by k_mem) (fun p hp => ?_) (fun p hp => ?_) (fun p hp => nomatch hp)
                (.mk X o.1 o.2.1 o.2.2 t1 t2 t3 n8 (k + 1) tb3 nb3 (by rfl) (by rfl) (by rw [show zeroB ts (o.1, o.2.1, o.2.2) = false from hzo]; rfl) rfl hbox.1 hbox.2.1 hbox.2.2.1 (less_by_one hsum hbox.2.2.2) (spot_pos hk0) (spot_next hk1))
              · rcases List.mem_cons.mp hp with rfl | hp
                · k_mem
                · rcases List.mem_cons.mp hp with rfl | hp
                  · k_mem
                  · have hq := hrX p hp
                    k_mem
              · rcases List.mem_cons.mp hp with rfl | hp
                · exact hXI
                · rcases List.mem_cons.mp hp with rfl | hp
                  · exact Ne.symm hIB
                  · exact hrI p hp
      · intro m₁ nx h22 tk22 hJJ F22 N22
        obtain ⟨H, a, b, c, ta, tb, tc, nh, k, tB, nB, hm1, hm2, hm3, rfl, ha, hb, hc, hsum, hk0, hk1⟩ := hJJ
        exact (all_taken ha hb hc hsum).elim)
end

end Mine

theorem PySem.Challenge.cw_xm0036_01_holds : PySem.Challenge.rw_xm0036_01.Holds := by
  exact Mine.law_holds
