import PyProof.Rows.All
import Wide.All
import OpenK.AllK
import Wide.FinOn
import Lean
import PySem.Challenge.RW_nn0302_01
open PySem PySem.W PyProof.Rows
set_option Elab.async false
set_option maxRecDepth 100000
set_option maxHeartbeats 8000000
set_option compiler.extract_closed false
namespace Mine
set_option synthInstance.maxSize 1 in
open_top hd for PySem.Challenge.rw_nn0302_01
/-- what a turn of a loop owes: `It` is the iterator's own entry -/
noncomputable def TEnd (h₀ : Heap) (L : Addr) (It : Addr × Obj) (J : (Str → Option Value) → List (Addr × Obj) → Prop) (s : Shared) (Q : Flow → Shared → Prop) (f : Flow) (s₂ : Shared) : Prop :=
  match f with
  | .ret v => Q (.ret v) s₂
  | .brk => Q .next s₂
  | _ => ∃ h' tk m' nw, s₂ = { s with heap := h', toks := tk } ∧ Fr h₀ L h' m' ∧ News h₀ L h' (It :: nw) ∧ (∀ p ∈ nw, p.1 ≠ It.1) ∧ J m' nw
theorem TEnd.next {h₀ : Heap} {L : Addr} {It : Addr × Obj} {J : (Str → Option Value) → List (Addr × Obj) → Prop} {s : Shared} {Q : Flow → Shared → Prop} {h' : Heap} {tk : Nat} {m' : Str → Option Value} {all nw : List (Addr × Obj)}
    (F : Fr h₀ L h' m') (N : News h₀ L h' all) (sub : ∀ p ∈ It :: nw, p ∈ all) (off : ∀ p ∈ nw, p.1 ≠ It.1) (hj : J m' nw) : TEnd h₀ L It J s Q .next { s with heap := h', toks := tk } := ⟨h', tk, m', nw, rfl, F, fun p hp => N p (sub p hp), off, hj⟩
theorem TEnd.cont {h₀ : Heap} {L : Addr} {It : Addr × Obj} {J : (Str → Option Value) → List (Addr × Obj) → Prop} {s : Shared} {Q : Flow → Shared → Prop} {h' : Heap} {tk : Nat} {m' : Str → Option Value} {all nw : List (Addr × Obj)}
    (F : Fr h₀ L h' m') (N : News h₀ L h' all) (sub : ∀ p ∈ It :: nw, p ∈ all) (off : ∀ p ∈ nw, p.1 ≠ It.1) (hj : J m' nw) : TEnd h₀ L It J s Q .cont { s with heap := h', toks := tk } := ⟨h', tk, m', nw, rfl, F, fun p hp => N p (sub p hp), off, hj⟩

section
variable {prog : Program} {w : World} {A : Around} {E : Value → Shared → Prop} {s : Shared} {env : Env} {h₀ : Heap} {x : Str} {body : List Stmt} {Q : Flow → Shared → Prop}

theorem loop_any {I : Addr} {fp : List Addr} {n : Nat} {P : Nat → Value → Prop} {St : Nat → Heap → Prop} {m : Str → Option Value} {news : List (Addr × Obj)} (J : Nat → (Str → Option Value) → List (Addr × Obj) → Prop)
    (W : Walks prog w A I fp [I] n P St) (hLf : env.locals ∉ fp) (hI : h₀.get? I = none) (hIo : ∀ i h, St i h → ∃ o, h.get? I = some o)
    (hfp : ∀ b ∈ fp, b ≠ I → h₀.get? b = none → ∃ o, ∀ i m nw, J i m nw → (b, o) ∈ nw)
    (hoff : ∀ p ∈ news, p.1 ≠ I) (hst : St 0 s.heap) (F : Fr h₀ env.locals s.heap m) (N : News h₀ env.locals s.heap news) (h0 : J 0 m news)
    (turn : ∀ i v m₁ nw oI h tk, i < n → P i v → J i m₁ nw → (∀ p ∈ nw, p.1 ≠ I) → Fr h₀ env.locals h (fun y => if y = x then some v else m₁ y) → News h₀ env.locals h ((I, oI) :: nw) →
      wpAny (model prog w) A (execs body env) (TEnd h₀ env.locals (I, oI) (J (i + 1)) { s with heap := h, toks := tk } Q) E { s with heap := h, toks := tk })
    (done : ∀ m₁ nw h tk, J n m₁ nw → Fr h₀ env.locals h m₁ → News h₀ env.locals h nw → Q .next { s with heap := h, toks := tk }) :
    LoopAtV prog w A h₀ env x body Q E (.ref I) s := by
  have hIf : I ∈ fp := W.sub I (List.mem_singleton.mpr rfl)
  refine ⟨I, fp, [I], n, P, St, m, news, J, rfl, W, hLf, ?_, ?_, hst, F, N, h0, ?_, ?_⟩
  · intro b hb
    rw [List.mem_singleton.mp hb]; exact hI
  · intro p hp hm
    exact hoff p hp (List.mem_singleton.mp hm)
  · rintro i v m₁ nw s₁ own ⟨h, tk, rfl⟩ hi hP hJ hnw hown hown2 hown3 hst₁ F₁ N₁
    obtain ⟨oI, hoI⟩ := hIo _ _ hst₁
    have hIn : (I, oI) ∈ own := hown3 I hIf hI oI hoI
    have hnw' : ∀ p ∈ nw, p.1 ≠ I := fun p hp e => hnw p hp (List.mem_singleton.mpr e)
    have N₂ : News h₀ env.locals h ((I, oI) :: nw) := fun p hp => N₁ p (by
      rcases List.mem_cons.mp hp with rfl | hp
      · exact List.mem_append_left _ hIn
      · exact List.mem_append_right _ hp)
    refine wpAny_mono (turn i v m₁ nw oI h tk hi hP hJ hnw' F₁ N₂) (fun f s₂ p => ?_) fun _ _ e => e
    have fin : (∃ h' tk' m' nw', s₂ = ({ s with heap := h', toks := tk' } : Shared) ∧ Fr h₀ env.locals h' m' ∧ News h₀ env.locals h' ((I, oI) :: nw') ∧ (∀ p ∈ nw', p.1 ≠ I) ∧ J (i + 1) m' nw') →
        LoopStepU h₀ env.locals [I] own (J (i + 1)) { s with heap := h, toks := tk } .next s₂ := by
      rintro ⟨h', tk', m', nw', rfl, F', N', ho, hj⟩
      refine ⟨rfl, h', tk', m', nw', rfl, F', fun p hp => ?_, fun p hp hm => ho p hp (List.mem_singleton.mp hm), hj⟩
      rcases List.mem_append.mp hp with hp | hp
      · refine N' p ?_
        have hg := hown2 p hp
        by_cases hpI : p.1 = I
        · have : p.2 = oI := by
            rw [hpI, show (({ s with heap := h, toks := tk } : Shared).heap.get? I) = some oI from hoI] at hg
            exact (Option.some.inj hg).symm
          have e : p = (I, oI) := by rw [← hpI, ← this]
          rw [e]; exact .head _
        · obtain ⟨o, ho'⟩ := hfp p.1 (hown p hp) hpI (N₁ p (List.mem_append_left _ hp)).2.2
          have hb := (N₁ (p.1, o) (List.mem_append_right _ (ho' i m₁ nw hJ))).1
          have hg' : h.get? p.1 = some p.2 := hg
          have : p.2 = o := by
            rw [show h.get? (p.1, o).1 = some p.2 from hg'] at hb
            exact Option.some.inj hb
          have e : p = (p.1, o) := by rw [← this]
          rw [e]
          exact .tail _ (ho' (i + 1) m' nw' hj)
      · exact N' p (.tail _ hp)
    cases f with
    | ret v => exact .ret p
    | brk => exact .brk p
    | next => exact .next (fin p)
    | cont => exact .cont (fin p)
  · rintro h' tk m' nw' F' N' _ hJ
    exact done m' nw' h' tk hJ F' N'

theorem loop_range {r : Addr} {a b : Int} {t u v : Tok} {n : Nat} {m : Str → Option Value} {news : List (Addr × Obj)} (J : Nat → (Str → Option Value) → List (Addr × Obj) → Prop)
    (hh : A.handled = none) (hr : IsRange s.heap r a b 1 t u v) (hsmall : Builtin.Range.small a b 1 = true) (hn : Builtin.Range.rangeSize a b 1 = (n : Int))
    (F : Fr h₀ env.locals s.heap m) (N : News h₀ env.locals s.heap news) (h0 : J 0 m news)
    (turn : ∀ i t m₁ nw I oI h tk, i < n → J i m₁ nw → (∀ p ∈ nw, p.1 ≠ I) → Fr h₀ env.locals h (fun y => if y = x then some (.int (a + (i : Int)) t) else m₁ y) → News h₀ env.locals h ((I, oI) :: nw) →
      wpAny (model prog w) A (execs body env) (TEnd h₀ env.locals (I, oI) (J (i + 1)) { s with heap := h, toks := tk } Q) E { s with heap := h, toks := tk })
    (done : ∀ m₁ nw h tk, J n m₁ nw → Fr h₀ env.locals h m₁ → News h₀ env.locals h nw → Q .next { s with heap := h, toks := tk }) :
    wpAny (model prog w) A (pyIter (.ref r)) (fun it s₂ => LoopAtV prog w A h₀ env x body Q E it s₂) E s := by
  refine wpAny_pyIter_range hr hsmall ?_
  refine loop_any J (LCg.range_walks (I := s.heap.objs.size) hh a n) ?_ (next_is_new F) (fun i h st => ⟨_, st⟩) ?_ (fun p hp => Nat.ne_of_lt (Heap.lt_size (N p hp).1)) ?_ (F.push _) (N.grown fun _ _ e => Heap.get?_push_of_some _ e) h0 ?_ ?_
  · intro hm
    exact absurd F.ns.lt ((List.mem_singleton.mp hm) ▸ Nat.lt_irrefl _)
  · intro b hb hne
    exact absurd (List.mem_singleton.mp hb) hne
  · show IsRangeIter _ _ _ _ _
    rw [hn]; simpa using Heap.get?_push_size _ rfl
  · rintro i v m₁ nw oI h tk hi ⟨t, rfl⟩ hJ ho F' N'
    exact turn i t m₁ nw _ oI h tk hi hJ ho F' N'
  · exact done

theorem loop_list {l : Addr} {vs : List Value} {k : Nat} {m : Str → Option Value} {news : List (Addr × Obj)} (J : Nat → (Str → Option Value) → List (Addr × Obj) → Prop)
    (hh : A.handled = none) (hl : ∀ i m nw, J i m nw → (l, listOf vs.toArray k) ∈ nw)
    (F : Fr h₀ env.locals s.heap m) (N : News h₀ env.locals s.heap news) (h0 : J 0 m news)
    (turn : ∀ i v m₁ nw I oI h tk, vs[i]? = some v → J i m₁ nw → (∀ p ∈ nw, p.1 ≠ I) → Fr h₀ env.locals h (fun y => if y = x then some v else m₁ y) → News h₀ env.locals h ((I, oI) :: nw) →
      wpAny (model prog w) A (execs body env) (TEnd h₀ env.locals (I, oI) (J (i + 1)) { s with heap := h, toks := tk } Q) E { s with heap := h, toks := tk })
    (done : ∀ m₁ nw h tk, J vs.length m₁ nw → Fr h₀ env.locals h m₁ → News h₀ env.locals h nw → Q .next { s with heap := h, toks := tk }) :
    wpAny (model prog w) A (pyIter (.ref l)) (fun it s₂ => LoopAtV prog w A h₀ env x body Q E it s₂) E s := by
  have hm := hl 0 m news h0
  have hls : s.heap.IsList l vs.toArray := ⟨_, (N _ hm).1, rfl, _, rfl⟩
  have hlt : l < s.heap.objs.size := Heap.lt_size (N _ hm).1
  have up : ∀ b o, s.heap.get? b = some o → (s.heap.push { cls := .type "list_iterator", data := .fields #[.ref l, .int 0 0] }).get? b = some o := fun b o e => Heap.get?_push_of_some _ e
  refine wpAny_pyIter_list hls ?_
  have W := Walks.list (prog := prog) (w := w) hh s.heap.objs.size l (Nat.ne_of_lt hlt) vs.toArray
  rw [List.size_toArray] at W
  refine loop_any J W ?_ (next_is_new F) (fun i h st => by obtain ⟨o, e, _⟩ := st.1; exact ⟨o, e⟩) ?_ (fun p hp => Nat.ne_of_lt (Heap.lt_size (N p hp).1)) ⟨⟨_, Heap.get?_push_size _ rfl, rfl, rfl⟩, hls.at fun o e => up _ o e⟩ (F.push _) (N.grown up) h0 ?_ ?_
  · intro hm'
    rcases List.mem_cons.mp hm' with e | hm'
    · exact absurd F.ns.lt (e ▸ Nat.lt_irrefl _)
    · exact (N _ hm).2.1 (List.mem_singleton.mp hm').symm
  · intro b hb hne _
    rcases List.mem_cons.mp hb with e | hb
    · exact absurd e hne
    · rw [List.mem_singleton.mp hb]; exact ⟨_, hl⟩
  · rintro i v m₁ nw oI h tk hi hP hJ ho F' N'
    exact turn i v m₁ nw _ oI h tk (by simpa using hP) hJ ho F' N'
  · exact done

theorem loop_tuple {l : Addr} {vs : List Value} {k : Nat} {m : Str → Option Value} {news : List (Addr × Obj)} (J : Nat → (Str → Option Value) → List (Addr × Obj) → Prop)
    (hh : A.handled = none) (hl : ∀ i m nw, J i m nw → (l, ({ cls := .type "tuple", data := .seq vs.toArray k } : Obj)) ∈ nw)
    (F : Fr h₀ env.locals s.heap m) (N : News h₀ env.locals s.heap news) (h0 : J 0 m news)
    (turn : ∀ i v m₁ nw I oI h tk, vs[i]? = some v → J i m₁ nw → (∀ p ∈ nw, p.1 ≠ I) → Fr h₀ env.locals h (fun y => if y = x then some v else m₁ y) → News h₀ env.locals h ((I, oI) :: nw) →
      wpAny (model prog w) A (execs body env) (TEnd h₀ env.locals (I, oI) (J (i + 1)) { s with heap := h, toks := tk } Q) E { s with heap := h, toks := tk })
    (done : ∀ m₁ nw h tk, J vs.length m₁ nw → Fr h₀ env.locals h m₁ → News h₀ env.locals h nw → Q .next { s with heap := h, toks := tk }) :
    wpAny (model prog w) A (pyIter (.ref l)) (fun it s₂ => LoopAtV prog w A h₀ env x body Q E it s₂) E s := by
  have hm := hl 0 m news h0
  have hls : s.heap.IsTuple l vs.toArray := ⟨_, (N _ hm).1, rfl, _, rfl⟩
  have hlt : l < s.heap.objs.size := Heap.lt_size (N _ hm).1
  refine wpAny_pyIter_tuple hls ?_
  have up : ∀ b o, s.heap.get? b = some o → (s.heap.push { cls := .type "tuple_iterator", data := .fields #[.ref l, .int 0 0] }).get? b = some o := fun b o e => Heap.get?_push_of_some _ e
  have W := Walks.tuple (prog := prog) (w := w) hh s.heap.objs.size l (Nat.ne_of_lt hlt) vs.toArray
  rw [List.size_toArray] at W
  refine loop_any J W ?_ (next_is_new F) (fun i h st => by obtain ⟨o, e, _⟩ := st.1; exact ⟨o, e⟩) ?_ (fun p hp => Nat.ne_of_lt (Heap.lt_size (N p hp).1)) ⟨⟨_, Heap.get?_push_size _ rfl, rfl, rfl⟩, hls.at fun o e => up _ o e⟩ (F.push _) (N.grown up) h0 ?_ ?_
  · intro hm'
    rcases List.mem_cons.mp hm' with e | hm'
    · exact absurd F.ns.lt (e ▸ Nat.lt_irrefl _)
    · exact (N _ hm).2.1 (List.mem_singleton.mp hm').symm
  · intro b hb hne _
    rcases List.mem_cons.mp hb with e | hb
    · exact absurd e hne
    · rw [List.mem_singleton.mp hb]; exact ⟨_, hl⟩
  · rintro i v m₁ nw oI h tk hi hP hJ ho F' N'
    exact turn i v m₁ nw _ oI h tk (by simpa using hP) hJ ho F' N'
  · exact done
end

section
variable {prog : Program} {w : World} {A : Around} {h₀ : Heap} {L : Addr} {m : Str → Option Value} {env : Env} {ct elt : Expr} {x : Str} {scope : Scope} {cl : List (Str × Addr)} {s : Shared} {S : List (Addr × Obj) → Prop} {P : Nat → Value → Prop} {Fin : List Value → List (Addr × Obj) → Prop} {news : List (Addr × Obj)}

theorem comp_inv {n : Nat} (J : Nat → List Value → List (Addr × Obj) → Prop) (h0 : J 0 [] news)
    (turn : ∀ i v ys nw I oI C oC D m₂ h tk (E' : Value → Shared → Prop), i < n → J i ys nw → P i v → LCg.NsObj oC m₂ → m₂ x = some v → Fr h₀ L h m → News h₀ L h ((I, oI) :: (C, oC) :: (D, LCg.lst ys) :: nw) → LCg.Off3 I C D nw → ((@Ne Nat I C) ∧ (@Ne Nat I D) ∧ (@Ne Nat C D)) →
      wpAny (model prog w) A (eval elt (compEnvC scope cl C env)) (LCg.CompEnd h₀ L m { s with heap := h, toks := tk } I oI C oC D (LCg.lst ys) S (fun y nw' => J (i + 1) (ys ++ [y]) nw')) E' { s with heap := h, toks := tk })
    (fin : ∀ ys nw, J n ys nw → Fin ys nw) : LCg.CompRest prog w A h₀ L m env elt x scope cl s S P Fin n 0 [] news := by
  have key : ∀ (j i : Nat) (ys : List Value) (nw : List (Addr × Obj)), i + j = n → J i ys nw → LCg.CompRest prog w A h₀ L m env elt x scope cl s S P Fin j i ys nw := by
    intro j
    induction j with
    | zero =>
      intro i ys nw hi hy
      obtain rfl : i = n := by omega
      exact LCg.CompRest.zero (fin ys nw hy)
    | succ j ih =>
      intro i ys nw hi hy
      refine LCg.CompRest.succ ?_
      intro v I oI C oC D m₂ h tk E' hv hC hx F N off ne
      refine wpAny_mono (turn i v ys nw I oI C oC D m₂ h tk E' (by omega) hy hv hC hx F N off ne) (fun y s₂ hq => ?_) fun _ _ e => e
      obtain ⟨h', tk', nw', e, F', N', off', hS, hj⟩ := hq
      exact ⟨h', tk', nw', e, F', N', off', hS, ih (i + 1) _ nw' (by omega) hj⟩
  exact key n 0 [] news (by omega) h0

theorem comp_invT {n : Nat} (J : Nat → List Value → List (Addr × Obj) → Prop) (h0 : J 0 [] news)
    (turn : ∀ i v ys nw I oI C oC D m₂ h tk (E' : Value → Shared → Prop), i < n → J i ys nw → P i v → LCg.NsObj oC m₂ → m₂ x = some v → Fr h₀ L h m → News h₀ L h ((I, oI) :: (C, oC) :: (D, LCg.lst ys) :: nw) → LCg.Off3 I C D nw → ((@Ne Nat I C) ∧ (@Ne Nat I D) ∧ (@Ne Nat C D)) →
      wpAny (model prog w) A (isTrue ct (compEnvC scope cl C env) (eval ct (compEnvC scope cl C env))) (fun ok s' => if ok = true then
        wpAny (model prog w) A (eval elt (compEnvC scope cl C env)) (LCg.CompEnd h₀ L m { s with heap := h, toks := tk } I oI C oC D (LCg.lst ys) S (fun y nw' => J (i + 1) (ys ++ [y]) nw')) E' s'
        else LCg.CompEnd h₀ L m { s with heap := h, toks := tk } I oI C oC D (LCg.lst ys) S (fun _ nw' => J (i + 1) ys nw') Value.none s') E' { s with heap := h, toks := tk })
    (fin : ∀ ys nw, J n ys nw → Fin ys nw) : LCt.CompRestT prog w A h₀ L m env ct elt x scope cl s S P Fin n 0 [] news := by
  have key : ∀ (j i : Nat) (ys : List Value) (nw : List (Addr × Obj)), i + j = n → J i ys nw → LCt.CompRestT prog w A h₀ L m env ct elt x scope cl s S P Fin j i ys nw := by
    intro j
    induction j with
    | zero =>
      intro i ys nw hi hy
      obtain rfl : i = n := by omega
      exact LCt.CompRestT.zero (fin ys nw hy)
    | succ j ih =>
      intro i ys nw hi hy
      refine LCt.CompRestT.succ ?_
      intro v I oI C oC D m₂ h tk E' hv hC hx F N off ne
      have up : ∀ (y : Value) (s₂ : Shared) (ys' : List Value), LCg.CompEnd h₀ L m { s with heap := h, toks := tk } I oI C oC D (LCg.lst ys) S (fun _ nw' => J (i + 1) ys' nw') y s₂ →
          LCg.CompEnd h₀ L m { s with heap := h, toks := tk } I oI C oC D (LCg.lst ys) S (fun _ nw' => LCt.CompRestT prog w A h₀ L m env ct elt x scope cl s S P Fin j (i + 1) ys' nw') y s₂ := by
        rintro y s₂ ys' ⟨h', tk', nw', e, F', N', off', hS, hj⟩
        exact ⟨h', tk', nw', e, F', N', off', hS, ih (i + 1) _ nw' (by omega) hj⟩
      refine wpAny_mono (turn i v ys nw I oI C oC D m₂ h tk E' (by omega) hy hv hC hx F N off ne) (fun ok s₂ hq => ?_) fun _ _ e => e
      cases ok with
      | true =>
        rw [if_pos rfl] at hq ⊢
        refine wpAny_mono hq (fun y s₃ hq => ?_) fun _ _ e => e
        exact up y s₃ (ys ++ [y]) hq
      | false =>
        rw [if_neg (by decide)] at hq ⊢
        exact up .none s₂ ys hq
  exact key n 0 [] news (by omega) h0
end
section
variable {prog : Program} {w : World} {A : Around} {h₀ : Heap} {L : Addr} {m : Str → Option Value} {env : Env} {ct elt : Expr} {x : Str} {scope : Scope} {cl : List (Str × Addr)} {s₁ : Shared} {Fin : Shared → List Value → List (Addr × Obj) → Prop} {news : List (Addr × Obj)}
theorem comp_range {r : Addr} {a b : Int} {t u v : Tok} {n : Nat} (J : Nat → List Value → List (Addr × Obj) → Prop)
    (hh : A.handled = none) (F : Fr h₀ L s₁.heap m) (N : News h₀ L s₁.heap news) (hr : IsRange s₁.heap r a b 1 t u v) (hsm : Builtin.Range.small a b 1 = true) (hn : Builtin.Range.rangeSize a b 1 = ((n : Nat) : Int)) (hsz : n ≤ sizeLine) (h0 : J 0 [] news)
    (turn : ∀ i t ys nw I oI C oC D m₂ h tk (E' : Value → Shared → Prop), i < n → J i ys nw → LCg.NsObj oC m₂ → m₂ x = some (.int (a + (i : Int)) t) → Fr h₀ L h m → News h₀ L h ((I, oI) :: (C, oC) :: (D, LCg.lst ys) :: nw) → LCg.Off3 I C D nw → ((@Ne Nat I C) ∧ (@Ne Nat I D) ∧ (@Ne Nat C D)) →
      wpAny (model prog w) A (eval elt (compEnvC scope cl C env)) (LCg.CompEnd h₀ L m { s₁ with heap := h, toks := tk } I oI C oC D (LCg.lst ys) (fun _ => True) (fun y nw' => J (i + 1) (ys ++ [y]) nw')) E' { s₁ with heap := h, toks := tk })
    (fin : ∀ g ys nw, J n ys nw → Fin { s₁ with heap := g } ys nw) : LCg.CompSrc prog w A h₀ L m env elt x scope cl Fin (.ref r) s₁ :=
  LCg.CompSrc.range hh F N hr hsm hn hsz fun g => comp_inv J h0 (fun i v ys nw I oI C oC D m₂ h tk E' hi hj ⟨t, hv⟩ hC hx F' N' off ne => turn i t ys nw I oI C oC D m₂ h tk E' hi hj hC (hv ▸ hx) F' N' off ne) (fin g)
theorem comp_list {ax : Addr} {vs : List Value} {k : Nat} (J : Nat → List Value → List (Addr × Obj) → Prop)
    (hh : A.handled = none) (F : Fr h₀ L s₁.heap m) (N : News h₀ L s₁.heap news) (hm : (ax, listOf vs.toArray k) ∈ news) (hsz : vs.length ≤ sizeLine) (h0 : J 0 [] news)
    (turn : ∀ i v ys nw I oI C oC D m₂ h tk (E' : Value → Shared → Prop), vs[i]? = some v → J i ys nw → LCg.NsObj oC m₂ → m₂ x = some v → Fr h₀ L h m → News h₀ L h ((I, oI) :: (C, oC) :: (D, LCg.lst ys) :: nw) → LCg.Off3 I C D nw → ((@Ne Nat I C) ∧ (@Ne Nat I D) ∧ (@Ne Nat C D)) →
      wpAny (model prog w) A (eval elt (compEnvC scope cl C env)) (LCg.CompEnd h₀ L m { s₁ with heap := h, toks := tk } I oI C oC D (LCg.lst ys) (LCg.SrcAt h₀ ax vs.toArray) (fun y nw' => J (i + 1) (ys ++ [y]) nw')) E' { s₁ with heap := h, toks := tk })
    (fin : ∀ g ys nw, J vs.length ys nw → Fin { s₁ with heap := g } ys nw) : LCg.CompSrc prog w A h₀ L m env elt x scope cl Fin (.ref ax) s₁ :=
  LCg.CompSrc.ledger hh F N hm (by simpa using hsz) fun g => comp_inv J h0 (fun i v ys nw I oI C oC D m₂ h tk E' hi hj hv hC hx F' N' off ne => turn i v ys nw I oI C oC D m₂ h tk E' (by simpa using hv) hj hC hx F' N' off ne) (by simpa using fin g)
theorem compT_range {r : Addr} {a b : Int} {t u v : Tok} {n : Nat} (J : Nat → List Value → List (Addr × Obj) → Prop)
    (hh : A.handled = none) (F : Fr h₀ L s₁.heap m) (N : News h₀ L s₁.heap news) (hr : IsRange s₁.heap r a b 1 t u v) (hsm : Builtin.Range.small a b 1 = true) (hn : Builtin.Range.rangeSize a b 1 = ((n : Nat) : Int)) (hsz : n ≤ sizeLine) (h0 : J 0 [] news)
    (turn : ∀ i t ys nw I oI C oC D m₂ h tk (E' : Value → Shared → Prop), i < n → J i ys nw → LCg.NsObj oC m₂ → m₂ x = some (.int (a + (i : Int)) t) → Fr h₀ L h m → News h₀ L h ((I, oI) :: (C, oC) :: (D, LCg.lst ys) :: nw) → LCg.Off3 I C D nw → ((@Ne Nat I C) ∧ (@Ne Nat I D) ∧ (@Ne Nat C D)) →
      wpAny (model prog w) A (isTrue ct (compEnvC scope cl C env) (eval ct (compEnvC scope cl C env))) (fun ok s' => if ok = true then
        wpAny (model prog w) A (eval elt (compEnvC scope cl C env)) (LCg.CompEnd h₀ L m { s₁ with heap := h, toks := tk } I oI C oC D (LCg.lst ys) (fun _ => True) (fun y nw' => J (i + 1) (ys ++ [y]) nw')) E' s'
        else LCg.CompEnd h₀ L m { s₁ with heap := h, toks := tk } I oI C oC D (LCg.lst ys) (fun _ => True) (fun _ nw' => J (i + 1) ys nw') Value.none s') E' { s₁ with heap := h, toks := tk })
    (fin : ∀ g ys nw, J n ys nw → Fin { s₁ with heap := g } ys nw) : LCt.CompSrcT prog w A h₀ L m env ct elt x scope cl Fin (.ref r) s₁ :=
  LCt.CompSrcT.range hh F N hr hsm hn hsz fun g => comp_invT J h0 (fun i v ys nw I oI C oC D m₂ h tk E' hi hj ⟨t, hv⟩ hC hx F' N' off ne => turn i t ys nw I oI C oC D m₂ h tk E' hi hj hC (hv ▸ hx) F' N' off ne) (fin g)
theorem compT_list {ax : Addr} {vs : List Value} {k : Nat} (J : Nat → List Value → List (Addr × Obj) → Prop)
    (hh : A.handled = none) (F : Fr h₀ L s₁.heap m) (N : News h₀ L s₁.heap news) (hm : (ax, listOf vs.toArray k) ∈ news) (hsz : vs.length ≤ sizeLine) (h0 : J 0 [] news)
    (turn : ∀ i v ys nw I oI C oC D m₂ h tk (E' : Value → Shared → Prop), vs[i]? = some v → J i ys nw → LCg.NsObj oC m₂ → m₂ x = some v → Fr h₀ L h m → News h₀ L h ((I, oI) :: (C, oC) :: (D, LCg.lst ys) :: nw) → LCg.Off3 I C D nw → ((@Ne Nat I C) ∧ (@Ne Nat I D) ∧ (@Ne Nat C D)) →
      wpAny (model prog w) A (isTrue ct (compEnvC scope cl C env) (eval ct (compEnvC scope cl C env))) (fun ok s' => if ok = true then
        wpAny (model prog w) A (eval elt (compEnvC scope cl C env)) (LCg.CompEnd h₀ L m { s₁ with heap := h, toks := tk } I oI C oC D (LCg.lst ys) (LCg.SrcAt h₀ ax vs.toArray) (fun y nw' => J (i + 1) (ys ++ [y]) nw')) E' s'
        else LCg.CompEnd h₀ L m { s₁ with heap := h, toks := tk } I oI C oC D (LCg.lst ys) (LCg.SrcAt h₀ ax vs.toArray) (fun _ nw' => J (i + 1) ys nw') Value.none s') E' { s₁ with heap := h, toks := tk })
    (fin : ∀ g ys nw, J vs.length ys nw → Fin { s₁ with heap := g } ys nw) : LCt.CompSrcT prog w A h₀ L m env ct elt x scope cl Fin (.ref ax) s₁ :=
  LCt.CompSrcT.ledger hh F N hm (by simpa using hsz) fun g => comp_invT J h0 (fun i v ys nw I oI C oC D m₂ h tk E' hi hj hv hC hx F' N' off ne => turn i v ys nw I oI C oC D m₂ h tk E' (by simpa using hv) hj hC hx F' N' off ne) (by simpa using fin g)
theorem compEnd {I C D : Addr} {oI oC oD : Obj} {S : List (Addr × Obj) → Prop} {rest : Value → List (Addr × Obj) → Prop} {y : Value} {h' : Heap} {tk : Nat} {all : List (Addr × Obj)} (nw : List (Addr × Obj))
    (F : Fr h₀ L h' m) (N : News h₀ L h' all) (sub : ∀ p ∈ (I, oI) :: (C, oC) :: (D, oD) :: nw, p ∈ all) (off : LCg.Off3 I C D nw) (hS : S nw) (r : rest y nw) :
    LCg.CompEnd h₀ L m s₁ I oI C oC D oD S rest y { s₁ with heap := h', toks := tk } := LCg.CompEnd.intro F N nw sub off hS r
end
noncomputable def Hold (P : Prop) : Prop := P
theorem hold_of {P : Prop} (h : Hold P) : P := h
theorem hold_in {P : Prop} (h : P) : Hold P := h
theorem allLt_mem {d : Nat} : ∀ {l : List (Addr × Obj)}, AllLt d l → ∀ p ∈ l, p.1 ≠ d
  | [], _, _, h => nomatch h
  | _ :: _, ⟨h1, h2⟩, p, h => by
    rcases List.mem_cons.mp h with rfl | h
    · exact Nat.ne_of_lt h1
    · exact allLt_mem h2 p h
theorem range_size {n : Int} {k : Nat} (h : n = (k : Int)) : Builtin.Range.rangeSize 0 n 1 = ((k : Nat) : Int) := by
  subst h
  rw [rangeSize_nat]; omega
theorem fits_long {n : Int} (h0 : 0 ≤ n) (h1 : n ≤ 1000000) : Builtin.Range.rangeFitsLong n = true := by
  unfold Builtin.Range.rangeFitsLong
  rw [Bool.and_eq_true]
  exact ⟨decide_eq_true (by omega), decide_eq_true (by omega)⟩
theorem range_small {n : Int} (h0 : 0 ≤ n) (h1 : n ≤ 1000000) : Builtin.Range.small 0 n 1 = true := by
  have e : Builtin.Range.rangeSize 0 n 1 = ((n.toNat : Nat) : Int) := range_size (by omega)
  simp only [Builtin.Range.small, e, fits_long h0 h1, fits_long (n := 0) (by omega) (by omega), fits_long (n := 1) (by omega) (by omega), fits_long (n := (n.toNat : Int)) (by omega) (by omega), Bool.and_true, Bool.true_and]
  rw [if_pos (by decide), show n + (1 - 1) = n by omega, fits_long h0 h1, Bool.or_true]
theorem off1_mem {D : Addr} : ∀ {l : List (Addr × Obj)}, LCg.Off1 D l → ∀ p ∈ l, p.1 ≠ D
  | [], _, _, h => nomatch h
  | _ :: _, ⟨h1, h2⟩, p, h => by
    rcases List.mem_cons.mp h with rfl | h
    · exact h1
    · exact off1_mem h2 p h
theorem off1_of {D : Addr} : ∀ {l : List (Addr × Obj)}, (∀ p ∈ l, p.1 ≠ D) → LCg.Off1 D l
  | [], _ => trivial
  | p :: _, h => ⟨h p (.head _), off1_of fun q hq => h q (.tail _ hq)⟩
theorem updF_focus {d : Addr} {o : Obj} {news : List (Addr × Obj)} {g : Obj → List (Addr × Obj)} (U : UpdF d o news g) :
    ∃ rest, (∀ p ∈ rest, p.1 ≠ d) ∧ (∀ p, p ∈ (d, o) :: rest ↔ p ∈ news) ∧ ∀ o' p, p ∈ g o' ↔ p ∈ (d, o') :: rest := by
  obtain ⟨pre, post, rfl, hg, ha, hb⟩ := U.split
  refine ⟨pre ++ post, fun p hp => (List.mem_append.mp hp).elim (ha p) (hb p), fun p => ?_, fun o' p => ?_⟩
  · simp only [List.mem_cons, List.mem_append]
    constructor
    · rintro (h | h | h)
      · exact .inr (.inl h)
      · exact .inl h
      · exact .inr (.inr h)
    · rintro (h | h | h)
      · exact .inr (.inl h)
      · exact .inl h
      · exact .inr (.inr h)
  · rw [hg]
    simp only [List.mem_cons, List.mem_append]
    constructor
    · rintro (h | h | h)
      · exact .inr (.inl h)
      · exact .inl h
      · exact .inr (.inr h)
    · rintro (h | h | h)
      · exact .inr (.inl h)
      · exact .inl h
      · exact .inr (.inr h)
/-- an entry that is not the turned one stands in the rest -/
theorem focus_rest {d b : Addr} {o ob : Obj} {news rest : List (Addr × Obj)} (h : ∀ p, p ∈ (d, o) :: rest ↔ p ∈ news) (hm : (b, ob) ∈ news) (hne : @Ne Nat b d) : (b, ob) ∈ rest := by
  rcases List.mem_cons.mp ((h _).mpr hm) with h | h
  · exact absurd (congrArg Prod.fst h) hne
  · exact h
theorem list_addK {prog : Program} {w : World} {A : Around} {E : Value → Shared → Prop} {s : Shared} {h₀ : Heap} {L l1 l2 : Addr} {m : Str → Option Value} {news : List (Addr × Obj)} {a b : List Value} {n1 n2 : Nat} {Q : Value → Shared → Prop} (F : Fr h₀ L s.heap m) (N : News h₀ L s.heap news)
    (hm1 : (l1, listOf a.toArray n1) ∈ news) (hm2 : (l2, listOf b.toArray n2) ∈ news)
    (h : ∀ D h', Fr h₀ L h' m → News h₀ L h' ((D, listOf (a ++ b).toArray 0) :: news) → (∀ p ∈ news, p.1 < D) → Q (.ref D) { s with heap := h' })
    (hsz : a.length + b.length ≤ sizeLine) : wpAny (model prog w) A (binaryOp .Add (.ref l1) (.ref l2)) Q E s :=
  add_arrays (its := a.toArray) (its2 := b.toArray) (hsz := by simpa using hsz) F N ⟨_, (N _ hm1).1, rfl, _, rfl⟩ ⟨_, (N _ hm2).1, rfl, _, rfl⟩ fun h' F' N' => h _ h' F' N' fun p hp => Heap.lt_size (N p hp).1
noncomputable abbrev tupObj (l : List Value) (n : Nat) : Obj := { cls := .type "tuple", data := .seq l.toArray n }
section
variable {prog : Program} {w : World} {A : Around} {E : Value → Shared → Prop} {s : Shared} {h₀ : Heap} {L l : Addr} {vs : List Value} {n : Nat} {news : List (Addr × Obj)} {Q : Value → Shared → Prop}
theorem len_led (N : News h₀ L s.heap news) (hm : (l, listOf vs.toArray n) ∈ news) (hz : vs.length ≤ 1000000) (h : ∀ tk', Q (.int (vs.length : Int) (s.toks + 1)) { s with toks := tk' }) :
    wpAny (model prog w) A (call (.builtin "len") [.ref l]) Q E s := by
  refine PySem.Calls.call_len_list (items := vs.toArray) ⟨_, (N _ hm).1, rfl, _, rfl⟩ ?_ ?_
  · rw [List.size_toArray]; omega
  · have := h (s.toks + 1 + 1)
    simpa using this
theorem item_led {value slice : PySem.Expr} {k : Int} {u : Tok} {v : Value} (N : News h₀ L s.heap news) (hm : (l, listOf vs.toArray n) ∈ news) (h0 : 0 ≤ k) (h1 : k ≤ 1000000) (hx : vs[k.toNat]? = some v) (h : Q v s)
    (hs : subscripted slice false (.ref l) (.int k u) = operate [.ref l, .int k u] (getItem (.ref l) (.int k u)) := by with_unfolding_all rfl) :
    wpAny (model prog w) A (subscriptTail value slice (.ref l) (.int k u)) Q E s := by
  have hl : s.heap.IsList l vs.toArray := ⟨_, (N _ hm).1, rfl, _, rfl⟩
  exact tail_any hl.typeIs slot_list_getitem.lookup (wpAny_getItem_list hl h0 (by omega) (by simpa using hx) h) hs
theorem item_tup {value slice : PySem.Expr} {k : Nat} {u : Tok} {v : Value} (N : News h₀ L s.heap news) (hm : (l, tupObj vs n) ∈ news) (h1 : k ≤ 1000000) (hx : vs[k]? = some v) (h : Q v s)
    (hs : subscripted slice false (.ref l) (.int (k : Int) u) = operate [.ref l, .int (k : Int) u] (getItem (.ref l) (.int (k : Int) u)) := by with_unfolding_all rfl) :
    wpAny (model prog w) A (subscriptTail value slice (.ref l) (.int (k : Int) u)) Q E s := by
  have hl : PyProof.Rows.IsTup s.heap l vs.toArray := ⟨_, (N _ hm).1, rfl, _, rfl⟩
  refine item_tupleT hl (by omega) (by omega) (j := k) ?_ hx h hs
  have : k < vs.length := (List.getElem?_eq_some_iff.mp hx).1
  have e : ¬ ((k : Int) < 0) := by omega
  have e' : (k : Int) < (vs.length : Int) := by omega
  simp [seqIndex?, e, this]
end
theorem above_ne {rest : List (Addr × Obj)} {b d : Addr} (h : ∀ p ∈ rest, @LT.lt Nat _ b p.1) (hd : @LE.le Nat _ d b) : ∀ p ∈ rest, p.1 ≠ d := fun p hp => Nat.ne_of_gt (Nat.lt_of_le_of_lt hd (h p hp))
theorem off_upd {d I : Addr} {o o' : Obj} {r : List (Addr × Obj)} (h : ∀ p ∈ (d, o) :: r, p.1 ≠ I) : ∀ p ∈ (d, o') :: r, p.1 ≠ I := fun p hp => by
  rcases List.mem_cons.mp hp with rfl | hp
  · exact h (d, o) (.head _)
  · exact h p (.tail _ hp)
section
variable {prog : Program} {w : World} {A : Around} {E : Value → Shared → Prop} {s : Shared} {h₀ : Heap} {L l : Addr} {r : List Value} {n : Nat} {news : List (Addr × Obj)} {Q : Value → Shared → Prop} {value slice : PySem.Expr} {u : Tok} {v a b c : Value}
theorem item_tup0 (N : News h₀ L s.heap news) (hm : (l, tupObj (v :: r) n) ∈ news) (h : Q v s)
    (hs : subscripted slice false (.ref l) (.int 0 u) = operate [.ref l, .int 0 u] (getItem (.ref l) (.int 0 u))) :
    wpAny (model prog w) A (subscriptTail value slice (.ref l) (.int 0 u)) Q E s := item_tup (k := 0) N hm (by omega) rfl h hs
theorem item_tup1 (N : News h₀ L s.heap news) (hm : (l, tupObj (a :: v :: r) n) ∈ news) (h : Q v s)
    (hs : subscripted slice false (.ref l) (.int 1 u) = operate [.ref l, .int 1 u] (getItem (.ref l) (.int 1 u))) :
    wpAny (model prog w) A (subscriptTail value slice (.ref l) (.int 1 u)) Q E s := item_tup (k := 1) N hm (by omega) rfl h hs
theorem item_tup2 (N : News h₀ L s.heap news) (hm : (l, tupObj (a :: b :: v :: r) n) ∈ news) (h : Q v s)
    (hs : subscripted slice false (.ref l) (.int 2 u) = operate [.ref l, .int 2 u] (getItem (.ref l) (.int 2 u))) :
    wpAny (model prog w) A (subscriptTail value slice (.ref l) (.int 2 u)) Q E s := item_tup (k := 2) N hm (by omega) rfl h hs
theorem item_tup3 (N : News h₀ L s.heap news) (hm : (l, tupObj (a :: b :: c :: v :: r) n) ∈ news) (h : Q v s)
    (hs : subscripted slice false (.ref l) (.int 3 u) = operate [.ref l, .int 3 u] (getItem (.ref l) (.int 3 u))) :
    wpAny (model prog w) A (subscriptTail value slice (.ref l) (.int 3 u)) Q E s := item_tup (k := 3) N hm (by omega) rfl h hs
end
theorem lt_allLt {d : Nat} : ∀ {l : List (Addr × Obj)}, AllLt d l → ∀ p ∈ l, p.1 < d
  | [], _, _, h => nomatch h
  | _ :: _, ⟨h1, h2⟩, p, h => by
    rcases List.mem_cons.mp h with rfl | h
    · exact h1
    · exact lt_allLt h2 p h
theorem off_fst {I : Addr} {l l' : List (Addr × Obj)} (e : l'.map (·.1) = l.map (·.1)) (h : ∀ p ∈ l, p.1 ≠ I) : ∀ p ∈ l', p.1 ≠ I := fun p hp => by
  have : p.1 ∈ l.map (·.1) := e ▸ List.mem_map.mpr ⟨p, hp, rfl⟩
  obtain ⟨q, hq, hqp⟩ := List.mem_map.mp this
  rw [← hqp]
  exact h q hq
theorem ints_at {vs : List Value} {ns : List Int} (h : IntsAre vs ns) : ∀ {i : Nat} {v : Value} (hi : i < ns.length), vs[i]? = some v → ∃ t, v = .int ns[i] t := by
  induction h with
  | nil => intro i v hi; exact absurd hi (Nat.not_lt_zero _)
  | cons n t _ ih =>
    intro i v hi hv
    cases i with
    | zero => exact ⟨t, by simpa using hv.symm⟩
    | succ i => exact ih (by simpa using hi) (by simpa using hv)
theorem off_tail {I : Addr} {e e' l l' : List (Addr × Obj)} (he : e'.map (·.1) = e.map (·.1)) (h : ∀ p ∈ e ++ l, p.1 ≠ I) (hl : ∀ p ∈ l', p.1 ≠ I) : ∀ p ∈ e' ++ l', p.1 ≠ I := fun p hp => by
  rcases List.mem_append.mp hp with hp | hp
  · have : p.1 ∈ e.map (·.1) := he ▸ List.mem_map.mpr ⟨p, hp, rfl⟩
    obtain ⟨q, hq, hqp⟩ := List.mem_map.mp this
    rw [← hqp]
    exact h q (List.mem_append_left _ hq)
  · exact hl p hp
theorem loop_empty {prog : Program} {w : World} {A : Around} {E : Value → Shared → Prop} {s : Shared} {env : Env} {h₀ : Heap} {x : Str} {body : List Stmt} {Q : Flow → Shared → Prop} {l : Addr} {k : Nat} {m : Str → Option Value} {rest : List (Addr × Obj)}
    (hh : A.handled = none) (F : Fr h₀ env.locals s.heap m) (N : News h₀ env.locals s.heap ((l, listOf #[] k) :: rest))
    (done : ∀ h tk, Fr h₀ env.locals h m → News h₀ env.locals h ((l, listOf #[] k) :: rest) → Q .next { s with heap := h, toks := tk }) :
    wpAny (model prog w) A (pyIter (.ref l)) (fun it s₂ => LoopAtV prog w A h₀ env x body Q E it s₂) E s := by
  refine loop_list (l := l) (vs := []) (k := k) (fun _ m' nw => m' = m ∧ nw = (l, listOf #[] k) :: rest) hh ?_ F N ⟨rfl, rfl⟩ ?_ ?_
  · rintro i m nw ⟨-, rfl⟩; exact .head _
  · intro i v m₁ nw I oI h tk hv; simp at hv
  · rintro m₁ nw h tk ⟨rfl, rfl⟩ F N; exact done h tk F N
theorem ne_all1 {a D : Nat} {o : Obj} {l : List (Addr × Obj)} (h : AllLt D l) (m : (a, o) ∈ l) : @Ne Nat a D := Nat.ne_of_lt (lt_allLt h _ m)
theorem ne_all2 {a D : Nat} {o : Obj} {l : List (Addr × Obj)} (h : AllLt D l) (m : (a, o) ∈ l) : @Ne Nat D a := Nat.ne_of_gt (lt_allLt h _ m)
theorem lt_all {a D : Nat} {o : Obj} {l : List (Addr × Obj)} (h : AllLt D l) (m : (a, o) ∈ l) : @LT.lt Nat _ a D := lt_allLt h _ m
theorem off1_any {D : Addr} : ∀ {l : List (Addr × Obj)}, LCg.Off1 D l → ∀ p ∈ l, @Ne Nat p.1 D
  | [], _, _, h => nomatch h
  | _ :: _, ⟨h1, h2⟩, p, h => by
    rcases List.mem_cons.mp h with rfl | h
    · exact h1
    · exact off1_any h2 p h
theorem ne_off1 {a D : Nat} {o : Obj} {l : List (Addr × Obj)} (h : LCg.Off1 D l) (m : (a, o) ∈ l) : @Ne Nat a D := off1_any h _ m
theorem ne_off2 {a D : Nat} {o : Obj} {l : List (Addr × Obj)} (h : LCg.Off1 D l) (m : (a, o) ∈ l) : @Ne Nat D a := (off1_any h _ m).symm
theorem all_sub {D : Addr} {l t : List (Addr × Obj)} (h : AllLt D l) (s : ∀ p ∈ t, p ∈ l) : ∀ p ∈ t, p.1 ≠ D := fun p hp => Nat.ne_of_lt (lt_allLt h p (s p hp))
theorem all_off {D : Addr} {l t : List (Addr × Obj)} (h : LCg.Off1 D l) (s : ∀ p ∈ t, p ∈ l) : ∀ p ∈ t, p.1 ≠ D := fun p hp => off1_any h p (s p hp)
theorem lt_all2 {a D x : Nat} {o : Obj} {l : List (Addr × Obj)} (h : AllLt D l) (t : @LT.lt Nat _ D x) (m : (a, o) ∈ l) : @LT.lt Nat _ a x := Nat.lt_trans (lt_allLt h _ m) t
theorem hideQ {α : Type} {M : Model} {A : Around} {t : Sem α} {Q : α → Shared → Prop} {E : Value → Shared → Prop} {s : Shared} (h : ∀ Q', Q' = Q → wpAny M A t Q' E s) : wpAny M A t Q E s := h Q rfl
theorem fill {w : World} {h : Heap} : (hd.heap_39 w.params).In h → Challenge.rw_nn0302_01.row.prog = Challenge.rw_nn0302_01.row.prog := by
  k_fill
  intro _; rfl
local macro_rules | `(tactic| k_all) => `(tactic| exact allLt_mem (by with_reducible assumption))
local macro_rules | `(tactic| k_all) => `(tactic| with_reducible assumption)
local macro_rules | `(tactic| k_room) => `(tactic| ktr_room)
local macro_rules | `(tactic| k_enter) => `(tactic| first
  | (refine' code_def ?k1 ?k2 ?k3 ?k4 ?k5 ?kA ?kF ?kK ?k6 ?k7 ?k8 ?k9 ?kB ?_ ?c2 ?c3 ?c4 ?c5; (case kA => exact rfl); (case kF => exact rfl); (case kK => first | exact rfl | assumption); (case k1 => k_asm); (case k2 => k_asm); (case k3 => k_asm); (case k4 => k_asm); (case k5 => k_asm); (case k6 => k_is); (case k7 => k_is); (case k8 => k_room); (case k9 => first | exact BindsTo.of_eq rfl | exact binds_K (by k_in) rfl (by k_is) rfl rfl rfl | fail "k_enter: no rule for these arguments"); (case c5 => decide); (case kB => exact locs rfl); (case c2 => exact rfl); (case c3 => exact rfl); (case c4 => exact rfl); k_whole; intro g' L' h' FG' F' N' B' X' T'; (try dsimp only); (try k_lift B'); (try k_fold))
  | (refine' code_defC ?k1 ?k2 ?k3 ?k4 ?k5 ?kA ?kF ?kK ?k6 ?k7 ?k8 ?k9 ?kB ?kD ?_ ?c2 ?c3 ?c4; (case kA => exact rfl); (case kF => exact rfl); (case kK => first | exact rfl | assumption); (case k1 => k_asm); (case k2 => k_asm); (case k3 => k_asm); (case k4 => k_asm); (case k5 => k_asm); (case k6 => k_is); (case k7 => k_is); (case k8 => k_room); (case k9 => first | exact BindsTo.of_eq rfl | exact binds_K (by k_in) rfl (by k_is) rfl rfl rfl | fail "k_enter: no rule for these arguments"); (case kB => exact rfl); (case kD => decide +kernel); (case c2 => exact rfl); (case c3 => exact rfl); (case c4 => exact rfl); k_whole; intro g' L' h' tk' cells' FG' F' N' Y' B' X' T' l1; (try k_lt l1); k_cells Y'; (try simp only [List.cons_append, List.nil_append] at N'); (try dsimp only); (try k_lift B'); (try k_fold)))
local macro_rules | `(tactic| walk_at "eval ListComp") => `(tactic| (k_here; k_dflt (first
  | ((with_reducible show wpAny _ _ (eval (Expr.ListComp _ [⟨_, _, [_], _⟩] _ _) _) _ _ _); refine LCt.ListComp_T (F₀ := by k_asm) (by with_unfolding_all rfl) (by decide) (by rfl) (by decide) (by rfl) ?_)
  | refine LCg.ListComp_U (F₀ := by k_asm) (by with_unfolding_all rfl) (by decide) (by rfl) (by decide) (by rfl) ?_)))
local macro_rules | `(tactic| walk_at "CompSrc") => `(tactic| (refine hold_of ?_))
local macro_rules | `(tactic| walk_at "CompSrcT") => `(tactic| (refine hold_of ?_))
local macro_rules | `(tactic| walk_at "CompEnd") => `(tactic| (refine hold_of ?_))
local macro_rules | `(tactic| walk_at "TEnd") => `(tactic| (refine hold_of ?_))
local macro_rules | `(tactic| walk_at "pyIter ref") => `(tactic| ((with_reducible show wpAny _ _ (pyIter (Value.ref _)) (fun it s₂ => LoopAtV _ _ _ _ _ _ _ _ _ it s₂) _ _); refine hold_of ?_))
local macro_rules | `(tactic| k_allIn) => `(tactic| (intro p hp; k_ownIn))
local macro_rules | `(tactic| k_memK) => `(tactic| with_reducible assumption)
local macro_rules | `(tactic| size_fits) => `(tactic| ((try simp only [List.size_toArray, List.length_append, List.length_cons, List.length_nil, List.length_map]); rw [sizeLine_eq]; omega))
local macro_rules | `(tactic| walk_at "storeName") => `(tactic| (k_here; k_dflt (refine' storeX_C ?k1 ?k2 ?k3 ?k4 ?k5 ?_; (case k1 => k_asm); (case k2 => k_asm); (case k3 => exact rfl); (case k4 => k_updF); (case k5 => assumption); k_whole); intro h' o' F' N' hd'; (try dsimp only at N'); (try k_sweep)))
local macro_rules | `(tactic| walk_at "binaryOp Add ref ref") => `(tactic| (k_here; (with_reducible show wpAny _ _ (binaryOp _ (Value.ref _) (Value.ref _)) _ _ _); k_dflt (refine' list_addK ?k1 ?k2 ?k3 ?k4 ?_ ?z; (case k1 => k_asm); (case k2 => k_asm); (case k3 => k_mem); (case k4 => k_mem); (case z => size_fits); k_whole); intro D' h' F' N' l1; (try k_lt l1); (try k_sweep)))
local macro_rules | `(tactic| k_steps) => `(tactic| repeat' ((fail_if_success (with_reducible refine hold_in ?_)); first | (k_unfold; (try dsimp only)) | walk1 | (dsimp only; walk1) | (leave1; walk_say "STEP leave1"; try dsimp only) | fail "no step"))
local macro_rules | `(tactic| walk_at "exec For Name Call cons nil") => `(tactic| (k_here; (rename Fr _ _ _ _ => lF'); (with_unfolding_all refine' For_invVF lF' ?k1 ?k2 ?_; (case k1 => exact rfl); (case k2 => exact rfl); k_whole)))
local macro_rules | `(tactic| walk_at "exec For Name Name cons nil") => `(tactic| (k_here; (rename Fr _ _ _ _ => lF'); (with_unfolding_all refine' For_invVF lF' ?k1 ?k2 ?_; (case k1 => exact rfl); (case k2 => exact rfl); k_whole)))
local macro_rules | `(tactic| walk_at "exec For Name Attribute cons nil") => `(tactic| (k_here; (rename Fr _ _ _ _ => lF'); (with_unfolding_all refine' For_invVF lF' ?k1 ?k2 ?_; (case k1 => exact rfl); (case k2 => exact rfl); k_whole)))
local macro_rules | `(tactic| walk_at "exec For Name Subscript cons nil") => `(tactic| (k_here; (rename Fr _ _ _ _ => lF'); (with_unfolding_all refine' For_invVF lF' ?k1 ?k2 ?_; (case k1 => exact rfl); (case k2 => exact rfl); k_whole)))
local macro_rules | `(tactic| k_lt $h) => `(tactic| replace $h := allLt_of $h)
local macro_rules | `(tactic| walk_at "call builtin:len") => `(tactic| (k_here; (with_reducible show wpAny _ _ (call (Value.builtin "len") [Value.ref _]) _ _ _); k_dflt (refine' len_led ?N ?m ?z ?_; (case N => k_asm); (case m => k_mem); (case z => omega); k_whole); intro tk'))
local macro_rules | `(tactic| walk_at "subscriptTail") => `(tactic| (k_here; (with_reducible show wpAny _ _ (subscriptTail _ _ (Value.ref _) (Value.int _ _)) _ _ _); (with_unfolding_all refine' item_led ?N ?m ?h0 ?h1 ?hx ?_ ?hs; (case N => k_asm); (case hx => with_reducible assumption); (case m => k_mem); (case h0 => omega); (case h1 => omega); (case hs => with_unfolding_all rfl); k_whole)))
local macro_rules | `(tactic| k_mem) => `(tactic| with_reducible_and_instances assumption)
local macro_rules | `(tactic| k_all) => `(tactic| exact above_ne (by with_reducible assumption) (by omega))
local macro_rules | `(tactic| walk_at "subscriptTail") => `(tactic| (k_here; (with_reducible show wpAny _ _ (subscriptTail _ (Expr.Constant _ _ _) (Value.ref _) (Value.int 0 _)) _ _ _); (refine' item_tup0 ?N ?m ?_ ?hs; (case N => k_asm); (case m => k_mem); (case hs => with_unfolding_all rfl); k_whole)))
local macro_rules | `(tactic| walk_at "subscriptTail") => `(tactic| (k_here; (with_reducible show wpAny _ _ (subscriptTail _ (Expr.Constant _ _ _) (Value.ref _) (Value.int 1 _)) _ _ _); (refine' item_tup1 ?N ?m ?_ ?hs; (case N => k_asm); (case m => k_mem); (case hs => with_unfolding_all rfl); k_whole)))
local macro_rules | `(tactic| walk_at "subscriptTail") => `(tactic| (k_here; (with_reducible show wpAny _ _ (subscriptTail _ (Expr.Constant _ _ _) (Value.ref _) (Value.int 2 _)) _ _ _); (refine' item_tup2 ?N ?m ?_ ?hs; (case N => k_asm); (case m => k_mem); (case hs => with_unfolding_all rfl); k_whole)))
local macro_rules | `(tactic| walk_at "subscriptTail") => `(tactic| (k_here; (with_reducible show wpAny _ _ (subscriptTail _ (Expr.Constant _ _ _) (Value.ref _) (Value.int 3 _)) _ _ _); (refine' item_tup3 ?N ?m ?_ ?hs; (case N => k_asm); (case m => k_mem); (case hs => with_unfolding_all rfl); k_whole)))
local macro_rules | `(tactic| walk_at "exec For Tuple Attribute cons nil") => `(tactic| (k_here; (rename Fr _ _ _ _ => lF'); (with_unfolding_all refine' For_turns lF' ?_; k_whole)))
local macro_rules | `(tactic| walk_at "pyIter ref") => `(tactic| ((with_reducible show wpAny _ _ (pyIter (Value.ref _)) (fun it s₂ => TurnsAt _ _ _ _ _ _ _ _ _ it s₂) _ _); refine hold_of ?_))
local macro_rules | `(tactic| walk_at "subscriptTail Name Name ref int") => `(tactic| (k_here; (with_reducible show wpAny _ _ (subscriptTail _ _ (Value.ref _) (Value.int _ _)) _ _ _); (with_unfolding_all refine' item_led ?N ?m ?h0 ?h1 ?hx ?_ ?hs; (case N => k_asm); (case hx => with_reducible assumption); (case m => k_mem); (case h0 => omega); (case h1 => omega); (case hs => with_unfolding_all rfl); k_whole)))
local macro_rules | `(tactic| k_ne) => `(tactic| (refine neN ?_; (try dsimp only); first
  | with_reducible_and_instances (first | assumption | exact Nat.ne_of_lt (by assumption) | exact Nat.ne_of_gt (by assumption) | exact Ne.symm (by assumption))
  | (refine Nat.ne_of_lt ?_; (repeat (first | exact Nat.lt_succ_self _ | refine Nat.lt_succ_of_lt ?_)); (try (first | with_reducible assumption | (refine' lt_all ?h ?m; (case h => with_reducible assumption); (case m => k_mem)) | (refine' lt_all2 ?h ?t ?m; (case t => with_reducible assumption); (case h => with_reducible assumption); (case m => k_mem)))); done)
  | (refine Nat.ne_of_gt ?_; (repeat (first | exact Nat.lt_succ_self _ | refine Nat.lt_succ_of_lt ?_)); (try (first | with_reducible assumption | (refine' lt_all ?h ?m; (case h => with_reducible assumption); (case m => k_mem)) | (refine' lt_all2 ?h ?t ?m; (case t => with_reducible assumption); (case h => with_reducible assumption); (case m => k_mem)))); done)
  | (refine' ne_off1 ?h ?m; (case h => with_reducible assumption); (case m => k_mem))
  | (refine' ne_off2 ?h ?m; (case h => with_reducible assumption); (case m => k_mem))))
local macro_rules | `(tactic| k_all) => `(tactic| (refine' all_sub ?h ?s; (case h => with_reducible assumption); (case s => (intro p hp; (repeat (first | exact hp | apply List.mem_cons_of_mem))))))
local macro_rules | `(tactic| k_all) => `(tactic| (refine' all_off ?h ?s; (case h => with_reducible assumption); (case s => (intro p hp; (repeat (first | exact hp | apply List.mem_cons_of_mem))))))
theorem reset_1 : True := by
  w_top off
  trivial
section
theorem fmod_lo (a : Int) {k : Int} (hk : 0 < k) : 0 ≤ a.fmod k := Int.fmod_nonneg_of_pos a hk
theorem fmod_hi (a : Int) {k : Int} (hk : 0 < k) : a.fmod k < k := Int.fmod_lt_of_pos a hk
theorem fdiv_lo {a k : Int} (ha : 0 ≤ a) (hk : 0 < k) : 0 ≤ a.fdiv k := Int.fdiv_nonneg ha (Int.le_of_lt hk)
/-- what a draw leaves of the hand -/
structure HandOk (ns : List Int) (i c sd : Int) : Prop where
  i0 : 0 ≤ i
  i1 : i ≤ ns.length
  c0 : 0 ≤ c
  s0 : 0 ≤ sd
  s1 : sd < 2147483647
theorem pick {w : World} {loose : List Str} {mean : ExcName → Option Value} {mg mb : Str → Option Value}
    {dp un : Nat} {gd : Option (List Code)} {cn : Str} {cs : Scope} {a : Addr} {ccd : Value} {cl : List (Str × Addr)} {outer : List Env} {A₀ : Around} {base h₀ : Heap} {L : Addr} {m : Str → Option Value} {rest : List (Addr × Obj)} {s : Shared}
    {Q E : Value → Shared → Prop} {H cL : Addr} {n1 n2 : Nat} {vs : List Value} {ns : List Int} {i c sd k : Int} {t1 t2 t3 t4 : Tok}
    (B : Below A₀ base outer h₀) (F : Fr h₀ L s.heap m) (X : (hd.heap_39 w.params).In h₀)
    (N : News h₀ L s.heap ((H, listOf #[.ref cL, .int i t1, .int c t2, .int sd t3] n1) :: (cL, listOf vs.toArray n2) :: rest))
    (T : Top hd.view_39 loose mean mg mb h₀) (hk : cs.kind = .function) (hI : IntsAre vs ns) (hne : ∀ p ∈ rest, p.1 ≠ H) (hne2 : cL ≠ H)
    (hO : HandOk ns i c sd) (hns : ns.length ≤ 63) (hk0 : 0 < k) (hk1 : k < 100)
    (hdp : dp < 900) (hu : un < 900)
    (ret : ∀ d td h' tk' i' c' sd' t1' t2' t3', Fr h₀ L h' m →
      News h₀ L h' ((H, listOf #[.ref cL, .int i' t1', .int c' t2', .int sd' t3'] n1) :: (cL, listOf vs.toArray n2) :: rest) → 0 ≤ d → d < k → HandOk ns i' c' sd' → Q (.int d td) { s with heap := h', toks := tk' }) :
    wpAny (model Challenge.rw_nn0302_01.row.prog w) (ktrTop dp un gd cn cs L a ccd cl outer) (call (.ref 173) [.ref H, .int k t4]) Q E s := by
  obtain ⟨hi0, hi1, hc, hs0, hs1⟩ := hO
  refine wpAny_call ?_
  k_dflt k_enter
  k_steps
  all_goals (first
    | exact ret _ _ _ _ _ _ _ _ _ _ (by k_asm) (by k_asm) (fmod_lo _ hk0) (fmod_hi _ hk0) ⟨by omega, by omega, by first | omega | exact fdiv_lo (by omega) hk0, by first | omega | exact fmod_lo _ (by omega), by first | omega | exact fmod_hi _ (by omega)⟩)
theorem pickU {w : World} {loose : List Str} {mean : ExcName → Option Value} {mg mb : Str → Option Value}
    {dp un : Nat} {gd : Option (List Code)} {cn : Str} {cs : Scope} {a : Addr} {ccd : Value} {cl : List (Str × Addr)} {outer : List Env} {A₀ : Around} {base h₀ : Heap} {L : Addr} {m : Str → Option Value} {news : List (Addr × Obj)} {g : Obj → List (Addr × Obj)} {s : Shared}
    {Q E : Value → Shared → Prop} {H cL : Addr} {n1 n2 : Nat} {vs : List Value} {ns : List Int} {i c sd k : Int} {t1 t2 t3 t4 : Tok}
    (B : Below A₀ base outer h₀) (F : Fr h₀ L s.heap m) (X : (hd.heap_39 w.params).In h₀) (N : News h₀ L s.heap news) (T : Top hd.view_39 loose mean mg mb h₀)
    (U : UpdF H (listOf #[.ref cL, .int i t1, .int c t2, .int sd t3] n1) news g) (hm : (cL, listOf vs.toArray n2) ∈ news)
    (hk : cs.kind = .function) (hI : IntsAre vs ns) (hne2 : @Ne Nat cL H)
    (hO : HandOk ns i c sd) (hns : ns.length ≤ 63) (hk0 : 0 < k) (hk1 : k < 100) (hdp : dp < 900) (hu : un < 900)
    (ret : ∀ d td h' tk' i' c' sd' t1' t2' t3', Fr h₀ L h' m →
      News h₀ L h' (g (listOf #[.ref cL, .int i' t1', .int c' t2', .int sd' t3'] n1)) → 0 ≤ d → d < k → HandOk ns i' c' sd' → Q (.int d td) { s with heap := h', toks := tk' }) :
    wpAny (model Challenge.rw_nn0302_01.row.prog w) (ktrTop dp un gd cn cs L a ccd cl outer) (call (.ref 173) [.ref H, .int k t4]) Q E s := by
  obtain ⟨rest, hne, hin, hout⟩ := updF_focus U
  have hm' := focus_rest hin hm hne2
  have N1 : News h₀ L s.heap ((H, listOf #[.ref cL, .int i t1, .int c t2, .int sd t3] n1) :: (cL, listOf vs.toArray n2) :: rest) := fun p hp => N p (by
    rcases List.mem_cons.mp hp with rfl | hp
    · exact (hin _).mp (.head _)
    · rcases List.mem_cons.mp hp with rfl | hp
      · exact hm
      · exact (hin p).mp (.tail _ hp))
  refine pick B F X N1 T hk hI hne hne2 hO hns hk0 hk1 hdp hu fun d td h' tk' i' c' sd' t1' t2' t3' F' N' h0 h1 hO' => ret d td h' tk' i' c' sd' t1' t2' t3' F' (fun p hp => N' p ?_) h0 h1 hO'
  rcases List.mem_cons.mp ((hout _ p).mp hp) with rfl | hp
  · exact .head _
  · exact .tail _ (.tail _ hp)
theorem handOk0 (ns : List Int) (x : Int) : HandOk ns 0 0 (x.fmod 100003 * 7) := by
  have h0 := fmod_lo x (k := 100003) (by omega)
  have h1 := fmod_hi x (k := 100003) (by omega)
  exact ⟨by omega, by omega, by omega, by omega, by omega⟩
end
theorem reset_2 : True := by
  w_top off
  trivial
section
/-- the netlist's own dict: name, count, inputs, outputs, cells -/
noncomputable abbrev netD (w : World) (k1 k2 k3 k4 k5 : Tok) (nv : Value) (c : Int) (tc : Tok) (inL outL ceL : Addr) : Obj :=
  dictOf [⟨PyData.keyHash w.params (Str.ofString "name"), .str (Str.ofString "name") k1, nv⟩, ⟨PyData.keyHash w.params (Str.ofString "count"), .str (Str.ofString "count") k2, .int c tc⟩,
    ⟨PyData.keyHash w.params (Str.ofString "inputs"), .str (Str.ofString "inputs") k3, .ref inL⟩, ⟨PyData.keyHash w.params (Str.ofString "outputs"), .str (Str.ofString "outputs") k4, .ref outL⟩,
    ⟨PyData.keyHash w.params (Str.ofString "cells"), .str (Str.ofString "cells") k5, .ref ceL⟩] 5
theorem ints_snoc {ys : List Value} {ns : List Int} {k : Int} {t : Tok} (h : IntsAre ys ns) : IntsAre (ys ++ [.int k t]) (ns ++ [k]) := IntsAre.append h (.cons _ _ .nil)

theorem new_nets {w : World} {loose : List Str} {mean : ExcName → Option Value} {mg mb : Str → Option Value}
    {dp un : Nat} {gd : Option (List Code)} {cn : Str} {cs : Scope} {a : Addr} {ccd : Value} {cl : List (Str × Addr)} {outer : List Env} {A₀ : Around} {base h₀ : Heap} {L : Addr} {m : Str → Option Value} {rest : List (Addr × Obj)} {s : Shared}
    {Q E : Value → Shared → Prop} {nt nd inL outL ceL : Addr} {k1 k2 k3 k4 k5 tc t : Tok} {nv : Value} {c : Int} {wd : Nat}
    (B : Below A₀ base outer h₀) (F : Fr h₀ L s.heap m) (X : (hd.heap_39 w.params).In h₀)
    (N : News h₀ L s.heap ((nt, instObj 134 nd) :: (nd, netD w k1 k2 k3 k4 k5 nv c tc inL outL ceL) :: rest))
    (T : Top hd.view_39 loose mean mg mb h₀) (hk : cs.kind = .function) (hne : ∀ p ∈ rest, p.1 ≠ nd) (hne2 : @Ne Nat nt nd)
    (hw : wd ≤ 12) (hc : 0 ≤ c) (hc2 : c < 1000)
    (hdp : dp < 900) (hu : un < 900)
    (ret : ∀ D ys tc' h' tk', Fr h₀ L h' m → News h₀ L h' ((D, LCg.lst ys) :: (nt, instObj 134 nd) :: (nd, netD w k1 k2 k3 k4 k5 nv (c + wd) tc' inL outL ceL) :: rest) →
      IntsAre ys ((List.range wd).map (fun (i : Nat) => c + (i : Int))) → LCg.Off1 D rest → @Ne Nat nt D → @Ne Nat nd D → Q (.ref D) { s with heap := h', toks := tk' }) :
    wpAny (model Challenge.rw_nn0302_01.row.prog w) (ktrTop dp un gd cn cs L a ccd cl outer) (call (.ref 87) [.ref nt, .int wd t]) Q E s := by
  refine wpAny_call ?_
  k_dflt k_enter
  k_steps
  rename_i g1 L1 h1 tk1 FG1 F1 B1 X1 T1 l1 o1 d1 N1 h2 tk2 t1 u1 v1 hr F2 N2 K2
  show LCg.CompSrc _ _ _ _ _ _ _ _ _ _ _ _ _ _
  refine comp_range (n := wd) (fun i ys nw => ∃ tc' cc, cc = c + (i : Int) ∧ nw = (L1 + 1, o1) :: (nt, instObj 134 nd) :: (nd, netD w k1 k2 k3 k4 k5 nv cc tc' inL outL ceL) :: rest ∧ IntsAre ys ((List.range i).map (fun (i : Nat) => c + (i : Int)))) (by rfl) (by k_asm) (by k_asm) hr (range_small (by omega) (by omega)) (range_size (by omega)) (by rw [sizeLine_eq]; omega) ⟨tc, c, by simp, rfl, .nil⟩ ?_ ?_
  · rintro i t1 ys nw I oI C oC D m₂ h tk E' hi ⟨tc', cc, hcc, rfl, hy⟩ hC hx F1 N1 off ne
    have off2 := off
    simp only [LCg.Off3] at off2
    k_steps
    refine hold_in ?_
    try k_unmd
    try k_unfold
    refine compEnd ((L1 + 1, o1) :: (nt, instObj 134 nd) :: (nd, netD w k1 k2 k3 k4 k5 nv (cc + 1) _ inL outL ceL) :: rest) (by k_asm) (by k_asm) (by k_allIn) off trivial ⟨_, _, by omega, rfl, ?_⟩
    rw [List.range_succ, List.map_append, hcc]
    exact ints_snoc hy
  · rintro g ys nw ⟨tc', cc, rfl, rfl, hy⟩
    k_steps
    rename_i D' h' tk' F' N' o1' kF kN Tc' kX
    exact ret _ _ _ _ _ kF (fun p hp => kN p (by revert p; k_allIn)) hy o1'.2.2.2 o1'.2.1 o1'.2.2.1
/-- the nets from c on, k of them -/
noncomputable def netsFrom (c k : Int) : List Int := (List.range k.toNat).map (fun (i : Nat) => c + (i : Int))
theorem netsFrom_length (c k : Int) : (netsFrom c k).length = k.toNat := by simp [netsFrom]

theorem new_netsU {w : World} {loose : List Str} {mean : ExcName → Option Value} {mg mb : Str → Option Value}
    {dp un : Nat} {gd : Option (List Code)} {cn : Str} {cs : Scope} {a : Addr} {ccd : Value} {cl : List (Str × Addr)} {outer : List Env} {A₀ : Around} {base h₀ : Heap} {L : Addr} {m : Str → Option Value} {news : List (Addr × Obj)} {g : Obj → List (Addr × Obj)} {s : Shared}
    {Q E : Value → Shared → Prop} {nt nd inL outL ceL : Addr} {k1 k2 k3 k4 k5 tc t : Tok} {nv : Value} {c wd : Int}
    (B : Below A₀ base outer h₀) (F : Fr h₀ L s.heap m) (X : (hd.heap_39 w.params).In h₀)
    (N : News h₀ L s.heap news) (T : Top hd.view_39 loose mean mg mb h₀)
    (hm : (nt, instObj 134 nd) ∈ news) (U : UpdF nd (netD w k1 k2 k3 k4 k5 nv c tc inL outL ceL) news g) (hk : cs.kind = .function)
    (hne2 : @Ne Nat nt nd) (hw0 : 0 ≤ wd) (hw : wd ≤ 12) (hc : 0 ≤ c) (hc2 : c < 1000)
    (hdp : dp < 900) (hu : un < 900)
    (ret : ∀ D ys tc' h' tk', Fr h₀ L h' m → News h₀ L h' ((D, LCg.lst ys) :: g (netD w k1 k2 k3 k4 k5 nv (c + wd) tc' inL outL ceL)) →
      IntsAre ys (netsFrom c wd) → (ys.length : Int) = wd → LCg.Off1 D news → Q (.ref D) { s with heap := h', toks := tk' }) :
    wpAny (model Challenge.rw_nn0302_01.row.prog w) (ktrTop dp un gd cn cs L a ccd cl outer) (call (.ref 87) [.ref nt, .int wd t]) Q E s := by
  obtain ⟨rest, hne, hin, hout⟩ := updF_focus U
  obtain ⟨wn, rfl⟩ := Int.eq_ofNat_of_zero_le hw0
  have hm' := focus_rest hin hm hne2
  have N1 : News h₀ L s.heap ((nt, instObj 134 nd) :: (nd, netD w k1 k2 k3 k4 k5 nv c tc inL outL ceL) :: rest) := fun p hp => N p (by
    rcases List.mem_cons.mp hp with rfl | hp
    · exact hm
    · exact (hin p).mp hp)
  refine new_nets B F X N1 T hk hne hne2 (by omega) hc hc2 hdp hu fun D ys tc' h' tk' F' N' hy ho h1 h2 => ?_
  refine ret D ys tc' h' tk' F' (fun p hp => N' p ?_) (by unfold netsFrom; simpa using hy) (by have := hy.length; simp at this; omega) (off1_of fun p hp => ?_)
  · rcases List.mem_cons.mp hp with rfl | hp
    · exact .head _
    · exact .tail _ (.tail _ ((hout _ p).mp hp))
  · rcases List.mem_cons.mp ((hin p).mpr hp) with rfl | hp
    · exact h2
    · exact off1_mem ho p hp
end
local macro_rules | `(tactic| walk_at "call ref") => `(tactic| (k_here; (with_reducible show wpAny _ _ (call (Value.ref 87) [Value.ref _, Value.int _ _]) _ _ _); k_dflt (refine' new_netsU ?k1 ?k2 ?k3 ?k4 ?k5 ?k6 ?k7 ?k8 ?k9 ?k10 ?k11 ?k12 ?k13 ?k14 ?k15 ?_; (case k1 => k_asm); (case k2 => k_asm); (case k3 => k_asm); (case k4 => k_asm); (case k5 => k_asm); (case k6 => k_mem); (case k7 => k_updF); (case k8 => first | exact rfl | assumption); (case k9 => k_ne); (case k10 => omega); (case k11 => omega); (case k12 => omega); (case k13 => omega); (case k14 => ((try simp only [depth_under_make, depth_under_kw, depth_in1, depth_deeper, depth_caller]); (try dsimp only [ktrTop]); first | omega | decide)); (case k15 => ((try simp only [units_in1, units_deeper, Around.mark_units, units_caller]); (try dsimp only [ktrTop]); first | omega | decide)); k_whole; intro D' ys' tc' h' tk' F' N' hy' hl' o1'; (try dsimp only at N'); (try k_sweep))))
local macro_rules | `(tactic| walk_at "call ref") => `(tactic| (k_here; (with_reducible show wpAny _ _ (call (Value.ref 173) [Value.ref _, Value.int _ _]) _ _ _); k_dflt (refine' pickU ?k1 ?k2 ?k3 ?k4 ?k5 ?k6 ?k7 ?k8 ?k9 ?k10 ?k11 ?k12 ?k13 ?k14 ?k15 ?k16 ?_; (case k1 => k_asm); (case k2 => k_asm); (case k3 => k_asm); (case k4 => k_asm); (case k5 => k_asm); (case k6 => k_updF); (case k7 => k_mem); (case k8 => first | exact rfl | assumption); (case k9 => assumption); (case k10 => k_ne); (case k11 => first | assumption | exact handOk0 _ _); (case k12 => omega); (case k13 => omega); (case k14 => omega); (case k15 => ((try simp only [depth_under_make, depth_under_kw, depth_in1, depth_deeper, depth_caller]); (try dsimp only [ktrTop]); first | omega | decide)); (case k16 => ((try simp only [units_in1, units_deeper, Around.mark_units, units_caller]); (try dsimp only [ktrTop]); first | omega | decide)); k_whole; intro d' td' h' tk' i' c' sd' t1' t2' t3' F' N' hd0' hd1' hO'; (try dsimp only at N'); (try k_sweep))))
theorem reset_3 : True := by
  w_top off
  trivial
section
noncomputable def lookBody {K : Frag} {f : Addr} {oc dV kV doc pm cdv ct : Value} {od an : Option Addr} {sl : Array (Option Value)} {name qual : Str} {params : Arguments} {body : List Stmt} {scope : Scope}
    (_ : K.lookup f = some ⟨oc, od, .func (fnOf name qual params body scope dV kV doc pm an cdv ct), sl⟩) : List Stmt := body
noncomputable def lookScope {K : Frag} {f : Addr} {oc dV kV doc pm cdv ct : Value} {od an : Option Addr} {sl : Array (Option Value)} {name qual : Str} {params : Arguments} {body : List Stmt} {scope : Scope}
    (_ : K.lookup f = some ⟨oc, od, .func (fnOf name qual params body scope dV kV doc pm an cdv ct), sl⟩) : Scope := scope
noncomputable def lawBody (w : World) : List Stmt := by refine' lookBody (K := hd.heap_39 w.params) (f := 178) ?h; (case h => k_dflt k_is)
noncomputable def lawScope (w : World) : Scope := by refine' lookScope (K := hd.heap_39 w.params) (f := 178) ?h; (case h => k_dflt k_is)
/-- what surrounds the law's frame -/
structure Cx where
  dp : Nat
  un : Nat
  gd : Option (List Code)
  cn : Str
  a : Addr
  ccd : Value
  outer : List Env
noncomputable abbrev lawEnv (cx : Cx) (w : World) (L : Addr) : Env := envX cx.cn (lawScope w) L cx.a cx.ccd (cellsFrom (L + 1) (lawScope w).names [])
/-- a frame's map: what is written first, then the rest -/
noncomputable def lm (l : List (Str × Value)) (m : Str → Option Value) : Str → Option Value := fun y => match l.lookup y with | some v => some v | none => m y
theorem lm_eq {m : Str → Option Value} : ∀ {l : List (Str × Value)}, (∀ p ∈ l, m p.1 = some p.2) → lm l m = m
  | [], _ => rfl
  | p :: r, h => by
    have ih := lm_eq (m := m) (l := r) fun q hq => h q (.tail _ hq)
    funext y
    have ihy := congrFun ih y
    unfold lm at ihy ⊢
    rw [List.lookup_cons]
    by_cases e : (y == p.1) = true
    · rw [e]
      have : y = p.1 := eq_of_beq e
      subst this
      exact (h p (.head _)).symm
    · have e' : (y == p.1) = false := by simpa using e
      rw [e']
      exact ihy
/-- n statements of the law's body from the i-th on -/
noncomputable def piece (w : World) (i n : Nat) : List Stmt := ((lawBody w).drop i).take n
noncomputable abbrev lawAt (cx : Cx) (w : World) (L : Addr) : Around := { handled := none, depth := cx.dp, frames := some (lawEnv cx w L :: cx.outer), guards := cx.gd, units := cx.un }
theorem execs_append {M : Model} {A : Around} {E : Value → Shared → Prop} {env : Env} {Q : Flow → Shared → Prop} {a b : List Stmt} {s : Shared}
    (h : wpAny M A (execs a env) (fun f s' => match f with | .next => wpAny M A (execs b env) Q E s' | f => Q f s') E s) : wpAny M A (execs (a ++ b) env) Q E s := fun Γ p hΓ => by
  have key : ∀ (a : List Stmt) (p : Pos) (s : Shared), Sem.wp M Γ (execs a env) (fun f _ s' => match f with | .next => wpAny M A (execs b env) Q E s' | f => Q f s') (fun e _ s' => E e s') p s →
      Sem.wp M Γ (execs (a ++ b) env) (fun f _ s' => Q f s') (fun e _ s' => E e s') p s := by
    intro a
    induction a with
    | nil =>
      intro p s h
      rw [execs_nil, Sem.wp_pure'] at h
      exact h Γ p hΓ
    | cons x a ih =>
      intro p s h
      rw [List.cons_append, execs_cons, Sem.wp_bind']
      rw [execs_cons, Sem.wp_bind'] at h
      refine Sem.wp_mono M Γ _ (fun f p' s' h' => ?_) (fun _ _ _ h' => h') _ _ h
      cases f with
      | next => exact ih _ _ h'
      | _ => exact h'
  exact key a p s (h Γ p hΓ)
theorem piece_split {M : Model} {A : Around} {E : Value → Shared → Prop} {env : Env} {Q : Flow → Shared → Prop} {w : World} {i k n : Nat} {s : Shared} (hk : k ≤ n)
    (h : wpAny M A (execs (piece w i k) env) (fun f s' => match f with | .next => wpAny M A (execs (piece w (i + k) (n - k)) env) Q E s' | f => Q f s') E s) : wpAny M A (execs (piece w i n) env) Q E s := by
  have e : piece w i n = piece w i k ++ piece w (i + k) (n - k) := by
    unfold piece
    rw [← List.drop_drop]
    conv => lhs; rw [show n = k + (n - k) by omega]
    exact List.take_add
  rw [e]
  exact execs_append h
theorem law_piece (w : World) : lawBody w = piece w 0 25 := by rfl
theorem lmF {h₀ h : Heap} {L : Addr} {l : List (Str × Value)} {m : Str → Option Value} (F : Fr h₀ L h m) (e : ∀ p ∈ l, m p.1 = some p.2) : Fr h₀ L h (lm l m) := (lm_eq e).symm ▸ F
end
theorem reset_4 : True := by
  w_top off
  trivial
section
theorem lawA {w : World} {loose : List Str} {mean : ExcName → Option Value} {mg mb : Str → Option Value}
    {cx : Cx} {A₀ : Around} {base h₀ : Heap} {L : Addr} {m : Str → Option Value} {s : Shared}
    {Q : Flow → Shared → Prop} {sl : Addr} {vs : List Value} {ns : List Int} {o1 o2 o3 o4 o5 o6 : Obj}
    (B : Below A₀ base cx.outer h₀) (F : Fr h₀ L s.heap (lm [(Str.ofString "script", .ref sl)] m)) (X : (hd.heap_39 w.params).In h₀)
    (N : News h₀ L s.heap [(L + 1 + 1 + 1 + 1 + 1 + 1, o6), (L + 1 + 1 + 1 + 1 + 1, o5), (L + 1 + 1 + 1 + 1, o4), (L + 1 + 1 + 1, o3), (L + 1 + 1, o2), (L + 1, o1)])
    (T : Top hd.view_39 loose mean mg mb h₀) (hsl : h₀.IsList sl vs.toArray) (hI : IntsAre vs ns) (hns : ns.length ≤ 63)
    (d1 : o1.data = .cell none) (d2 : o2.data = .cell none) (d3 : o3.data = .cell none) (d4 : o4.data = .cell none) (d5 : o5.data = .cell none) (d6 : o6.data = .cell none)
    (hdp : cx.dp < 800) (hu : cx.un < 800)
    (ret : ∀ (H rL ceL nt nd inL ouL tI gl2 gL oL pL cL : Addr) (k1 k2 k3 k4 k5 tc ta tkm t1 t2 t3 tz1 tz2 : Tok) (nv : Value) (g many c i cc sd : Int) (sp : Bool) (gv ov wv : List Value) (n1 n2 n3 : Nat) (o : Obj) (tl : List (Addr × Obj)) (m' : Str → Option Value) (h' : Heap) (tk' : Nat),
      Fr h₀ L h' (lm [(Str.ofString "hand", .ref H), (Str.ofString "net", .ref nt), (Str.ofString "given", .ref gL), (Str.ofString "spoiled", .bool sp), (Str.ofString "many", .int many tkm), (Str.ofString "outs", .ref oL), (Str.ofString "pool", .ref pL)] m') →
      News h₀ L h' ((H, listOf #[.ref cL, .int i t1, .int cc t2, .int sd t3] 0) :: (rL, listOf #[] 0) :: (ceL, listOf #[] 0) :: (L + 1 + 1 + 1 + 1 + 1 + 1, o6) :: (L + 1 + 1 + 1 + 1 + 1, o5) :: (L + 1 + 1 + 1 + 1, o4) :: (L + 1 + 1 + 1, o3) :: (L + 1 + 1, o2) :: (L + 1, o) :: tl) → o.data = .cell (some (.ref rL)) →
      (nt, instObj 134 nd) ∈ tl → (nd, netD w k1 k2 k3 k4 k5 nv c tc inL ouL ceL) ∈ tl → (inL, listOf [Value.ref tI].toArray n1) ∈ tl → (tI, tupObj [.str (Str.ofString "a") ta, .ref gl2] n2) ∈ tl → (gl2, listOf gv.toArray n3) ∈ tl → (gL, LCg.lst gv) ∈ tl → (oL, LCg.lst ov) ∈ tl →
      (pL, listOf ([Value.int 0 tz1, Value.int 1 tz2] ++ gv ++ ov).toArray 0) ∈ tl → (cL, listOf wv.toArray 0) ∈ tl →
      IntsAre gv (netsFrom 2 (1 + g)) → IntsAre ov (netsFrom (2 + (1 + g)) many) → IntsAre wv (ns.take 63) → 0 ≤ g → g < 4 → 0 ≤ many → many < 13 → HandOk (ns.take 63) i cc sd →
      (∀ p ∈ tl, p.1 ≠ H) → (∀ p ∈ tl, p.1 ≠ rL) → (∀ p ∈ tl, p.1 ≠ ceL) → (∀ p ∈ tl, p.1 ≠ L + 1) → (∀ p ∈ tl, p.1 ≠ L + 1 + 1) → (∀ p ∈ tl, p.1 ≠ L + 1 + 1 + 1) → (∀ p ∈ tl, p.1 ≠ L + 1 + 1 + 1 + 1) → (∀ p ∈ tl, p.1 ≠ L + 1 + 1 + 1 + 1 + 1) → (∀ p ∈ tl, p.1 ≠ L + 1 + 1 + 1 + 1 + 1 + 1) → @LT.lt Nat _ (L + 1 + 1 + 1 + 1 + 1 + 1) H → @LT.lt Nat _ (L + 1 + 1 + 1 + 1 + 1 + 1) rL → @LT.lt Nat _ (L + 1 + 1 + 1 + 1 + 1 + 1) ceL → @LT.lt Nat _ H ceL → @LT.lt Nat _ ceL rL → @Ne Nat cL H →
      Q .next { s with heap := h', toks := tk' }) :
    wpAny (model Challenge.rw_nn0302_01.row.prog w) (lawAt cx w L) (execs (piece w 0 9) (lawEnv cx w L)) Q (fun _ _ => False) s := by
  unfold piece lawBody lookBody
  dsimp only [List.drop, List.take]
  k_steps
  rename_i v0D v1ws v2h v3hI v4hC v5hL v6l1 v7h v8h v9tk v10t v11l v12h v13l1 v14h v15tk v16x v17d v18h v19l1 v20l2 v21g v22L v23h v24B v25X v26T v27qk v28ek v29tk v30h v31h v32l v33h v34l1 v35h v36tk v37l v38h v39l1 v40h v41tk v42l v43h v44l1 v45h v46F v47N v48tk v49Tc v50kX v51h v52tk v53d v54td v55h v56tk v57i v58c v59sd v60t1 v61t2 v62t3 v63hd0 v64hd1 v65hO v66g v67L v68h v69B v70X v71T v72tk v73D v74ys v75tc v76h v77tk v78hy v79hl v80o1 v81h v82tk v83D v84c v85h v86l1 v87D v88h v89l1 v90h v91F v92N v93tk v94Tc v95kX v96h v97tk v98d v99td v100h v101tk v102i v103c v104sd v105t1 v106t2 v107t3 v108hd0 v109hd1 v110hO v111h v112tk v113d v114td v115h v116tk v117i v118c v119sd v120t1 v121t2 v122t3 v123hd0 v124hd1 v125hO v126h v127tk v128D v129ys v130tc v131h v132tk v133hy v134hl v135o1 v136h v137tk v138l v139h v140l1 v141D v142h v143l1 v144D v145h v146l1 v147h v148tk v149l v150h v151l1 v152h v153o v154F v155N v156hd
  refine' ret v11l v149l v42l v16x v17d v32l v37l v87D v83D v73D v128D v144D v0D _ _ _ _ _ _ _ _ _ _ _ _ _ _ _ _ _ _ _ _ _ v74ys v129ys v1ws _ _ _ _
    [(v144D, _), (v128D, _), (v87D, _), (v83D, _), (v73D, _), (v32l, _), (v16x, _), (v17d, _), (v0D, _)] _ _ _ (lmF v154F (by repeat (first | exact List.forall_mem_nil _ | refine List.forall_mem_cons.mpr ⟨rfl, ?_⟩))) ?N v156hd ?m1 ?m2 ?m3 ?m4 ?m5 ?m6 ?m7 ?m8 ?m9 v78hy v133hy v3hI v63hd0 v64hd1 v123hd0 v124hd1 v125hO ?a1 ?a2 ?a3 ?a4 ?a5 ?a6 ?a7 ?a8 ?a9 ?b1 ?b2 ?b3 ?b4 ?b5 ?b6
  case N => exact fun p hp => v155N p (by revert p; k_allIn)
  case m1 => k_mem
  case m2 => k_mem
  case m3 => k_mem
  case m4 => k_mem
  case m5 => k_mem
  case m6 => k_mem
  case m7 => k_mem
  case m8 => k_mem
  case m9 => k_mem
  case b1 => exact lt_all (by with_reducible assumption) (by k_mem)
  case b2 => exact lt_all (by with_reducible assumption) (by k_mem)
  case b3 => exact lt_all (by with_reducible assumption) (by k_mem)
  case b4 => exact lt_all (by with_reducible assumption) (by k_mem)
  case b5 => exact lt_all (by with_reducible assumption) (by k_mem)
  case b6 => k_ne
  all_goals repeat (first | exact List.forall_mem_nil _ | refine List.forall_mem_cons.mpr ⟨by k_ne, ?_⟩)
end
theorem reset_5 : True := by
  w_top off
  trivial
section
/-- the raised object e of the class C, its own dict at dx, its traceback T standing at fl -/
noncomputable def ExcAt (h base : Heap) (e C dx : Addr) (fl : Value) : Prop :=
  ∃ oe vs T oT ts, h.get? e = some oe ∧ oe.cls = .ref C ∧ oe.dict = some dx ∧ oe.data = .fields vs ∧ vs[1]? = some (.ref T) ∧ base.get? T = none ∧ T ≠ e ∧ h.get? T = some oT ∧ oT.data = .fields ts ∧ ts[3]? = some fl
theorem dict_mapFields (o : Obj) (f : Array Value → Array Value) : (o.mapFields f).dict = o.dict := by
  obtain ⟨c, d, dt, sl⟩ := o; cases dt <;> rfl
section
variable {M : Model} {A : Around} {E : Value → Shared → Prop} {s : Shared} {base : Heap} {env : Env} {outer : List Env} {L e C dx : Addr} {oe : Obj} {vs : Array Value} {Q : Unit → Shared → Prop}

theorem entryD {head : Value} {hadNext : Bool}
    (hfr : A.frames = some (env :: outer)) (hl : s.heap.FunFrames base (env :: outer)) (hf : env.frame = some L)
    (he : s.heap.get? e = some oe) (hkb : base.StaysIn s.heap) (hen : base.get? e = none) (hd : oe.data = .fields vs) (hsz : 1 < vs.size) (hc : oe.cls = .ref C) (hx : oe.dict = some dx)
    (h : ∀ h', base.StaysIn h' → h'.FunFrames base (env :: outer) → ExcAt h' base e C dx (rawInt L) → s.heap.UpToSlots h' → Q () { s with heap := h' }) :
    wpAny M A (do let a ← frameOf env; let pl ← entryPlaceOf L hadNext; let b ← EntryCells.newEntry head a .none (rawInt L) .none pl; setField (.ref e) 1 b) Q E s := by
  have rec_ne : ∀ {b o}, s.heap.get? b = some o → (∀ ws, o.data ≠ .fields ws) → b ≠ e := by
    intro b o hb hn q
    subst q
    rw [he] at hb
    exact hn vs (Option.some.inj hb ▸ hd)
  have out : e ∉ (env :: outer).filterMap (·.frame) := by
    intro hm
    obtain ⟨_, o, ho, hn⟩ := hl.mem hm
    exact rec_ne ho hn rfl
  refine wpAny_bind (wpAny_frameOf_fun hfr hl hf fun g gs => wpAny_bind (wpAny_entryPlaceOf fun pl hpl => ?_))
  obtain ⟨-, gsame, gslots⟩ := gs
  have ge : g.get? e = some oe := (gsame e out).trans he
  have gk : base.StaysIn g := by
    intro b o hb
    refine (gsame b fun hm => ?_).trans (hkb b o hb)
    rw [(hl.mem hm).1] at hb
    cases hb
  unfold EntryCells.newEntry newFields
  refine wpAny_bind (wpAny_newObj_type ?_ (hpl.sizeOk5 _ _ _ _ _))
  generalize ho : ({ cls := .type "traceback", dict := none, data := .fields ([head, .ref L, .none, rawInt L, .none] ++ (if pl.isEmpty then List.replicate 6 Value.none else pl)).toArray } : Obj) = oT
  have hoT : oT.data = .fields ([head, .ref L, .none, rawInt L, .none] ++ (if pl.isEmpty then List.replicate 6 Value.none else pl)).toArray := by rw [← ho]
  have pe := Heap.get?_push_of_some oT ge
  have ne : g.objs.size ≠ e := Nat.ne_of_gt (Heap.lt_size ge)
  refine wpAny_setField pe hd hsz ?_
  have keep : ∀ b o, b ≠ e → g.get? b = some o → ((g.push oT).update e (Obj.mapFields (·.setIfInBounds 1 (Value.ref g.objs.size)))).get? b = some o := by
    intro b o hbe hb
    rw [Heap.get?_update_other _ _ (Ne.symm hbe)]
    exact Heap.get?_push_of_some _ hb
  refine h _ (fun b o hb => keep b o (fun q => by rw [q, hen] at hb; cases hb) (gk b o hb)) ?_ ?_ ?_
  · refine hl.of_keeps fun b o hb hn => ?_
    obtain ⟨sl, hs⟩ := gslots b o hb
    exact ⟨_, keep b _ (rec_ne hb hn) hs, rfl⟩
  · have hd' := Obj.data_mapFields hd (·.setIfInBounds 1 (Value.ref g.objs.size))
    refine ⟨_, _, g.objs.size, oT, _, Heap.get?_update_self _ pe (Obj.isFreed_of_fields hd'), (Obj.cls_mapFields _ _).trans hc, (dict_mapFields _ _).trans hx, hd', by simp [hsz], gk.fresh, ne, ?_, hoT, ?_⟩
    · rw [Heap.get?_update_other _ _ (Ne.symm ne)]
      exact Heap.get?_push_size g (by rw [← ho]; rfl)
    · simp
  · intro b o hb hn
    obtain ⟨sl, hs⟩ := gslots b o hb
    exact ⟨sl, keep b _ (rec_ne hb hn) hs⟩

theorem flightD {l : List Env} {fl : Value} (hkb : base.StaysIn s.heap) (hl : s.heap.FunFrames base l) (ht : ExcAt s.heap base e C dx fl)
    (h : ∀ h', base.StaysIn h' → h'.FunFrames base l → ExcAt h' base e C dx .none → s.heap.UpToSlots h' → Q () { s with heap := h' }) : wpAny M A (setFlight (.ref e) none) Q E s := by
  obtain ⟨oe, vs, T, oT, ts, he, hc, hx, hd, h1, hnT, hTe, hT, hdT, h3⟩ := ht
  have h3' : 3 < ts.size := (Array.getElem?_eq_some_iff.mp h3).1
  have other : ∀ b, b ≠ T → (s.heap.update T (Obj.mapFields (·.setIfInBounds 3 ((none : Option Addr).elim Value.none fun f => rawInt f)))).get? b = s.heap.get? b := fun b hb => Heap.get?_update_other _ _ (Ne.symm hb)
  have rec_ne : ∀ {b o}, s.heap.get? b = some o → (∀ ws, o.data ≠ .fields ws) → b ≠ T := by
    intro b o hb hn q
    subst q
    rw [hT] at hb
    exact hn ts (Option.some.inj hb ▸ hdT)
  unfold setFlight
  refine wpAny_bind (wpAny_field he hd h1 ?_)
  rw [if_pos (show (Value.ref T != Value.none) = true by simp)]
  have hd' := Obj.data_mapFields hdT (·.setIfInBounds 3 ((none : Option Addr).elim Value.none fun f => rawInt f))
  refine wpAny_setField hT hdT h3' (h _ ?_ ?_ ⟨oe, vs, T, _, _, (other e (Ne.symm hTe)).trans he, hc, hx, hd, h1, hnT, hTe, Heap.get?_update_self _ hT (Obj.isFreed_of_fields hd'), hd', by simp [h3']⟩ ?_)
  · intro b o hb
    exact (other b fun q => by rw [q, hnT] at hb; cases hb).trans (hkb b o hb)
  · exact hl.of_keeps fun b o hb hn => ⟨o, (other b (rec_ne hb hn)).trans hb, rfl⟩
  · exact fun b o hb hn => ⟨o.slots, (other b (rec_ne hb hn)).trans hb⟩

theorem noteD_first (hfr : A.frames = some (env :: outer)) (hl : s.heap.FunFrames base (env :: outer)) (hf : env.frame = some L)
    (he : s.heap.get? e = some oe) (hkb : base.StaysIn s.heap) (hen : base.get? e = none) (hd : oe.data = .fields vs) (h1 : vs[1]? = some .none) (hc : oe.cls = .ref C) (hx : oe.dict = some dx)
    (h : ∀ h', base.StaysIn h' → h'.FunFrames base (env :: outer) → ExcAt h' base e C dx (rawInt L) → s.heap.UpToSlots h' → Q () { s with heap := h' }) :
    wpAny M A (noteFrame (.ref e) env) Q E s := by
  unfold noteFrame
  simp only [hf]
  refine wpAny_bind (wpAny_field he hd h1 ?_)
  rw [if_neg (by decide)]
  exact entryD hfr hl hf he hkb hen hd (Array.getElem?_eq_some_iff.mp h1).1 hc hx h

theorem noteD_next (hfr : A.frames = some (env :: outer)) (hl : s.heap.FunFrames base (env :: outer)) (hf : env.frame = some L)
    (ht : ExcAt s.heap base e C dx .none) (hkb : base.StaysIn s.heap) (hen : base.get? e = none)
    (h : ∀ h', base.StaysIn h' → h'.FunFrames base (env :: outer) → ExcAt h' base e C dx (rawInt L) → s.heap.UpToSlots h' → Q () { s with heap := h' }) :
    wpAny M A (noteFrame (.ref e) env) Q E s := by
  obtain ⟨oe, vs, T, oT, ts, he, hc, hx, hd, h1, hnT, hTe, hT, hdT, h3⟩ := ht
  unfold noteFrame
  simp only [hf]
  refine wpAny_bind (wpAny_field he hd h1 ?_)
  rw [if_pos (show (Value.ref T != Value.none) = true by simp)]
  refine wpAny_bind (wpAny_field hT hdT h3 ?_)
  rw [if_neg (show ¬ ((Value.none == rawInt L) = true) by simp [rawInt])]
  refine wpAny_bind (wpAny_setField hT hdT (Array.getElem?_eq_some_iff.mp h3).1 ?_)
  have other : ∀ b, b ≠ T → (s.heap.update T (Obj.mapFields (·.setIfInBounds 3 Value.none))).get? b = s.heap.get? b := fun b hb => Heap.get?_update_other _ _ (Ne.symm hb)
  have rec_ne : ∀ {b o}, s.heap.get? b = some o → (∀ ws, o.data ≠ .fields ws) → b ≠ T := by
    intro b o hb hn q
    subst q
    rw [hT] at hb
    exact hn ts (Option.some.inj hb ▸ hdT)
  refine entryD hfr (hl.of_keeps fun b o hb hn => ⟨o, (other b (rec_ne hb hn)).trans hb, rfl⟩) hf ((other e (Ne.symm hTe)).trans he) ?_ hen hd (Array.getElem?_eq_some_iff.mp h1).1 hc hx fun h' k1 k2 k3 k4 => h h' k1 k2 k3 ?_
  · intro b o hb
    exact (other b fun q => by rw [q, hnT] at hb; cases hb).trans (hkb b o hb)
  · exact fun b o hb hn => k4 b o ((other b (rec_ne hb hn)).trans hb) hn
end
/-- in flight out of the frames l: all that base bears stands -/
noncomputable def FlyD (base : Heap) (l : List Env) (e C dx : Addr) (h : Heap) : Prop := base.StaysIn h ∧ base.get? e = none ∧ h.FunFrames base l ∧ ExcAt h base e C dx .none
/-- raised behind what a call has made (news) -/
noncomputable def RaisedD (base : Heap) (l : List Env) (e C dx : Addr) (news : List (Addr × Obj)) (h : Heap) : Prop :=
  ∃ B, base.StaysIn B ∧ (∀ q ∈ news, B.get? q.1 = some q.2 ∧ base.get? q.1 = none) ∧ FlyD B l e C dx h
section
variable {M : Model} {A : Around} {E : Value → Shared → Prop} {s' : Shared} {base g g₂ h : Heap} {env : Env} {outer : List Env} {L e C dx : Addr} {m : Str → Option Value} {Q : Unit → Shared → Prop} {news own : List (Addr × Obj)}
theorem leaveD_next (hfr : A.frames = some (env :: outer)) (hf : env.frame = some L) (R : RaisedD base (env :: outer) e C dx news s'.heap)
    (hQ : ∀ h', RaisedD base outer e C dx news h' → s'.heap.UpToSlots h' → Q () { s' with heap := h' }) : wpAny M A (leaving env (.ref e)) Q E s' := by
  obtain ⟨B, hB, hl, k1, k2, k3, k4⟩ := R
  unfold leaving
  refine wpAny_bind (noteD_next hfr k3 hf k4 k1 k2 fun h₁ a1 a2 a3 a4 => flightD a1 a2 a3 fun h₂ b1 b2 b3 b4 => hQ h₂ ⟨B, hB, hl, b1, k2, ?_, b3⟩ (a4.trans b4))
  obtain ⟨_, _, b2⟩ := b2
  exact b2
/-- the first frame that it leaves: news stands in the heap, e too -/
theorem leaveD_first {oe : Obj} {vs : Array Value} (hfr : A.frames = some (env :: outer)) (hf : env.frame = some L) (hst : base.StaysIn s'.heap) (hfun : s'.heap.FunFrames base (env :: outer))
    (N : ∀ q ∈ news, s'.heap.get? q.1 = some q.2 ∧ base.get? q.1 = none ∧ q.1 ∉ (env :: outer).filterMap (·.frame) ∧ q.1 ≠ e)
    (he : s'.heap.get? e = some oe) (hen : base.get? e = none) (hd : oe.data = .fields vs) (h1 : vs[1]? = some .none) (hc : oe.cls = .ref C) (hx : oe.dict = some dx)
    (hQ : ∀ h', RaisedD base outer e C dx news h' → s'.heap.UpToSlots h' → Q () { s' with heap := h' }) : wpAny M A (leaving env (.ref e)) Q E s' := by
  have hin : ∀ v ∈ (env :: outer), ∀ b, v.frame = some b → b ∈ e :: (env :: outer).filterMap (·.frame) := fun v hv b hb => .tail _ (List.mem_filterMap.mpr ⟨v, hv, hb⟩)
  have st : base.StaysIn (hideAll s'.heap (e :: (env :: outer).filterMap (·.frame))) := fun b o q => hideAll_get _ (hst b o q) fun hm => by
    rcases List.mem_cons.mp hm with rfl | hm
    · rw [hen] at q; cases q
    · rw [(hfun.mem hm).1] at q; cases q
  have hl : ∀ q ∈ news, (hideAll s'.heap (e :: (env :: outer).filterMap (·.frame))).get? q.1 = some q.2 ∧ base.get? q.1 = none := fun q hq => by
    obtain ⟨n1, n2, n3, n4⟩ := N q hq
    refine ⟨hideAll_get _ n1 fun hm => ?_, n2⟩
    rcases List.mem_cons.mp hm with h | h
    · exact n4 h
    · exact n3 h
  have hen' : (hideAll s'.heap (e :: (env :: outer).filterMap (·.frame))).get? e = none := hideAll_none _ (.head _)
  unfold leaving
  refine wpAny_bind (noteD_first (base := hideAll s'.heap (e :: (env :: outer).filterMap (·.frame))) hfr (funFrames_hide hfun hin) hf he (fun b o q => of_hideAll _ q) hen' hd h1 hc hx fun h₁ a1 a2 a3 a4 => flightD a1 a2 a3 fun h₂ b1 b2 b3 b4 => hQ h₂ ⟨_, st, hl, b1, hen', ?_, b3⟩ (a4.trans b4))
  obtain ⟨_, _, b2⟩ := b2
  exact b2
theorem looksD (hfr : A.frames = some (env :: outer)) (hf : env.frame = some L) (R : RaisedD base (env :: outer) e C dx news s'.heap)
    (hQ : ∀ h', (∃ B, base.StaysIn B ∧ (∀ q ∈ news, B.get? q.1 = some q.2 ∧ base.get? q.1 = none) ∧ B.StaysIn h' ∧ B.get? e = none ∧ h'.FunFrames B (env :: outer) ∧ ExcAt h' B e C dx (rawInt L)) → s'.heap.UpToSlots h' → Q () { s' with heap := h' }) :
    wpAny M A (noteFrame (.ref e) env) Q E s' := by
  obtain ⟨B, hB, hl, k1, k2, k3, k4⟩ := R
  exact noteD_next hfr k3 hf k4 k1 k2 fun h₁ a1 a2 a3 a4 => hQ h₁ ⟨B, hB, hl, a1, k2, a2, a3⟩ a4
end
end
theorem reset_6 : True := by
  w_top off
  trivial
section
section
variable {prog : Program} {w : World} {A : Around} {E : Value → Shared → Prop} {s : Shared} {K : Frag} {C L : Addr} {h₀ : Heap} {m : Str → Option Value} {news : List (Addr × Obj)}
variable {nm q : Str} {Nn : Addr} {bs bm : List Value} {hdct : Bool} {sn : List Str} {sub : List Value} {col : Option Bool} {dd : Option Addr} {k0 k1 k2 k3 k5 : Option Value}
noncomputable abbrev excObj (C t : Addr) : Obj := { cls := .ref C, data := .fields #[.ref t, .none, .none, .none, .bool false, .none] }
theorem exc_new {h : Heap} {g : Array GenState} {d : Drawn} {tk : Nat} {os : OsState} {R : Result → Shared → Prop} {rest : List Value}
    (hC : h.get? C = some (excClassObj nm q C Nn bs bm hdct sn sub false col dd k0 k1 k2 k3 k5 "Exception.__new__"))
    (hb : bm.contains (.type "Exception") = true) (hA : bm.contains (.type "AttributeError") = false) (hN : bm.contains (.type "NameError") = false) (hsz : rest.length ≤ sizeLine)
    (hq : R (.ok (.ret (.ref (h.objs.size + 1)))) ⟨(h.push { cls := .type "tuple", data := .seq rest.toArray }).push (excObj C h.objs.size), g, d, tk, os⟩) :
    codeAny (model prog w) A (.call (.builtin "Exception.__new__") ⟨.ref C :: rest, []⟩) R ⟨h, g, d, tk, os⟩ := by
  have FB := PySem.F.excBase_Exception
  have cE : (Value.ref C :: bm).contains (.type "Exception") = true := by rw [List.contains_cons, hb, Bool.or_true]
  have cA : (Value.ref C :: bm).contains (.type "AttributeError") = false := by rw [List.contains_cons, hA]; rfl
  have cN : (Value.ref C :: bm).contains (.type "NameError") = false := by rw [List.contains_cons, hN]; rfl
  refine codeAny_call_builtin_code (Code.quiet_builtin _ FB.quiet) ?_
  have hstar := FB.noStar
  have chk : ∀ {A' : Around} {Q : Unit → Shared → Prop} {E' : Value → Shared → Prop}, Q () ⟨h, g, d, tk, os⟩ → wpAny (model prog w) A' (checkBuiltinCall "Exception.__new__" ⟨.ref C :: rest, []⟩) Q E' ⟨h, g, d, tk, os⟩ := by
    intro A' Q E' hq
    simp only [checkBuiltinCall, FB.newKind, FB.newSplit, FB.newRow]
    repeat (first | refine wpAny_loadPart_at hC ?_ | (refine wpAny_isSubtype_exc hC ?_; rw [cE]) | refine wpAny_staticBase_exc hC ?_ | refine wpAny_madeBy_exc hC ?_ | simp only [bne_self_eq_false, Bool.false_eq_true, if_false] | wp_step)
    exact hq
  refine chk ?_
  have hends := FB.ends
  refine codeAny_builtinAt FB.entry ?_
  unfold Builtin.«BaseException.__new__»
  refine PySem.wpAt_bind ?_
  show PySem.wpAt _ _ _ (stack >>= _) _ _ _
  refine PySem.wpAt_bind (PySem.wpAt_stack fun p below => PySem.wpAt_of_wpAny ?_)
  wp_walk
  refine PySem.wpAt_of_wpAny ?_
  rw [FB.owner]
  repeat (first | with_reducible refine wpAny_madeHere_exc FB.canon hC ?_ | with_reducible refine wpAny_loadPart_at hC ?_ | (with_reducible refine wpAny_isSubtype_exc hC ?_; first | rw [cE] | rw [cA] | rw [cN]) | wp_step)
  show R _ _
  rw [Heap.size_push]
  exact hq

theorem call_excI {rest : List Value} {fI : Addr} {Q : Value → Shared → Prop} (F : Fr h₀ L s.heap m) (X₀ : K.In h₀) (N : News h₀ L s.heap news)
    (hC : K.lookup C = some (excClassObj nm q C Nn bs bm hdct sn sub false col dd k0 k1 k2 k3 k5 "Exception.__new__"))
    (hb : bm.contains (.type "Exception") = true) (hA : bm.contains (.type "AttributeError") = false) (hN : bm.contains (.type "NameError") = false) (hsz : rest.length ≤ sizeLine)
    (hcall : specialIn K (.ref C) "__call__" = some (some (.builtin "type.__call__"))) (htyp : instIn K (.ref C) (.type "type") = some true)
    (hi : findIn K (.ref C) "__init__" = some (some (.ref fI))) (hf : isFn K (.ref fI) = true)
    (h : ∀ e t h', Fr h₀ L h' m → News h₀ L h' ((e, excObj C t) :: (t, { cls := .type "tuple", data := .seq rest.toArray }) :: news) → (∀ p ∈ news, p.1 < t) → t < e →
      codeAny (model prog w) (A.under (.builtin "type.__call__" ⟨.ref C :: rest, []⟩)) (.call (.ref fI) ⟨.ref e :: rest, []⟩) (InitBack e fun r s' => match r with | .ok (.ret v) => Q v s' | .ok _ => False | .error x => E x s') { s with heap := h' }) :
    wpAny (model prog w) A (call (.ref C) rest) Q E s := by
  refine wpAny_call ?_
  obtain ⟨hp, g, d, tk, os⟩ := s
  have X : K.In hp := X₀.keeps F.keep
  have hC' := X _ _ hC
  have call : Looks (model prog w) hp (specialOf (.ref C) "__call__") (some (.builtin "type.__call__")) := looks_specialIn X hcall
  have typ : Looks (model prog w) hp (isInstance (.ref C) (.type "type")) true := looks_instIn X htyp
  refine codeAny_of_tree ?_
  show wpAny _ _ (callAny (.ref C) _) _ _ _
  refine nd_load hC' ?_
  show wpAny _ _ (callAny.viaDunder (.ref C) _) _ _ _
  unfold callAny.viaDunder
  refine wpAny_bind (call.at ?_)
  dsimp only
  rw [tc_bind]
  refine wpAny_bind (wpAny_pure (wpAny_bind (wpAny_pure ?_)))
  refine wpAny_pure (a := Fin.again (.call (.builtin "type.__call__") ⟨.ref C :: rest, []⟩)) (And.intro rfl ?_)
  refine codeAny_call_builtin_at (Code.quiet_builtin _ (by decide +kernel)) entry_typeCall (check_slot tc_kind tc_split typ (tc_args _ _ _) ?_)
  unfold Builtin.«type.__call__»
  have hm : Looks (model prog w) hp (mroOf (.ref C)) (.ref C :: bm) := ((Looks.ld (part := none) hC').andThen .now).andThen .now
  have made : Looks (model prog w) hp (Bind.madeBy (.ref C)) (some "Exception.__new__") := by
    intro A Q E s k q
    obtain ⟨hs, g, d, tk, os⟩ := s
    exact wpAny_madeBy_exc (k _ _ hC') q
  repeat (first | simp only [List.isEmpty_cons, Bool.false_eq_true, if_false] | with_reducible refine wpAny_call ?_ | lk)
  refine exc_new hC' hb hA hN hsz ?_
  have F1 := F.push { cls := .type "tuple", data := .seq rest.toArray }
  have F2 := F1.push (excObj C hp.objs.size)
  have N2 := (N.push F { cls := .type "tuple", data := .seq rest.toArray }).push F1 (excObj C hp.objs.size)
  rw [Heap.size_push] at N2
  have k : ∀ b o, hp.get? b = some o → ((hp.push { cls := .type "tuple", data := .seq rest.toArray }).push (excObj C hp.objs.size)).get? b = some o := fun b o e => Heap.get?_push_of_some _ (Heap.get?_push_of_some _ e)
  have hx := (N2 _ (.head _)).1
  dsimp only at hx
  have t1 : Looks (model prog w) ((hp.push { cls := .type "tuple", data := .seq rest.toArray }).push (excObj C hp.objs.size)) (typeOf (.ref (hp.objs.size + 1))) (.ref C) := (Looks.ld hx).andThen .now
  have self : Looks (model prog w) hp (isSubtype (.ref C) (.ref C)) true := by
    intro A Q E s k q
    obtain ⟨hs, g, d, tk, os⟩ := s
    refine wpAny_isSubtype_exc (k _ _ hC') ?_
    rw [show (Value.ref C :: bm).contains (.ref C) = true by simp]
    exact q
  have s1 := self.keeps k
  have i1 := (looks_findIn (M := model prog w) X hi).keeps k
  have b1 := (bind_fn (M := model prog w) X (.ref (hp.objs.size + 1)) (beq_iff_eq.mp hf)).keeps k
  unfold isInstance callSpecial? specialOf
  repeat (first | with_reducible refine wpAny_call ?_ | lk)
  refine codeAny_mono (h _ _ _ F2 N2 (fun p hp => Heap.lt_size (N p hp).1) (Nat.lt_succ_self _)) fun r s' z => ?_
  rcases r with e | (v | _ | _ | _) <;> first | exact z | exact z.elim | skip
  obtain ⟨rfl, z⟩ := z
  exact wpAny_pure (wpAny_pure z)
end
end
theorem reset_7 : True := by
  w_top off
  trivial
section
noncomputable def excMro : List Value → Bool
  | .ref _ :: r => excMro r
  | l => l == [.type "Exception", .type "BaseException", .type "object"]
theorem excMro_cases : ∀ {v : Value} {r : List Value}, excMro (v :: r) = true → (∃ a, v = .ref a ∧ excMro r = true) ∨ v :: r = [.type "Exception", .type "BaseException", .type "object"] := by
  intro v r h
  by_cases hv : ∃ a, v = .ref a
  · obtain ⟨a, rfl⟩ := hv
    exact .inl ⟨a, rfl, h⟩
  · refine .inr ?_
    cases v <;> first | exact absurd ⟨_, rfl⟩ hv | exact eq_of_beq (show (_ == _) = true from h)
theorem excMro_pass (self : Value) : ∀ {l : List Value}, excMro l = true → PySem.refuseLoop self "__setattr__" l = pure () := by
  intro l
  induction l with
  | nil => intro h; cases h
  | cons v r ih =>
    intro h
    rcases excMro_cases h with ⟨a, rfl, h⟩ | h
    · rw [PySem.refuseLoop_ref]; exact ih h
    · rw [h]; exact PySem.F.store_Exception.passes self
theorem excMro_obj : ∀ {l : List Value}, excMro l = true → l.contains (.type "object") = true ∧ l.isEmpty = false := by
  intro l
  induction l with
  | nil => intro h; cases h
  | cons v r ih =>
    intro h
    refine ⟨?_, rfl⟩
    rcases excMro_cases h with ⟨a, rfl, h⟩ | h
    · rw [List.contains_cons, (ih h).1, Bool.or_true]
    · rw [h]; decide
section
variable {prog : Program} {w : World} {A : Around} {E : Value → Shared → Prop} {s : Shared} {K : Frag} {C L x : Addr} {h₀ : Heap} {m : Str → Option Value} {news : List (Addr × Obj)} {R : Result → Shared → Prop} {cd : ClassData} {name : Str} {tk : Tok} {v : Value}
open PySem.Builtin PySem.Builtin.ObjectAttr in
theorem osa_openE {ox : Obj} {od : Option Obj} (X : K.In s.heap) (I : InstAt s.heap x ox C od) (hc : clsIn K C = some cd) (ho : excMro cd.mro = true) (ht : findIn K (.ref C) name = some none)
    (h : wpAny (model prog w) A.in1 (storeInOwnDict (.ref x) (.ref C) (.str name tk) name v false)
      (fun fin s' => match fin with | .done f => R (.ok f) s' | .again c' => c'.quiet = true ∧ codeAny (model prog w) A c' R s') (fun e s' => R (.error e) s') s) :
    codeAny (model prog w) A (.call (.builtin "object.__setattr__") ⟨[.ref x, .str name tk, v], []⟩) R s := by
  have SF := PySem.F.store_object
  obtain ⟨has, ne⟩ := excMro_obj ho
  have sub : Looks (model prog w) s.heap (isInstance (.ref x) (.type "object")) true := I.type.andThen (looks_mroIn X (by unfold mroIn; rw [hc, Option.bind_some, if_neg (by rw [ne]; decide), has]))
  refine codeAny_call_builtin SF.slot.plain SF.entry (@check_slot (model prog w) _ _ s "object.__setattr__" "object" "__setattr__" (.ref x) [.str name tk, v] [] _ SF.kind SF.split sub (SF.args (.ref x) (.str name tk) v) ?_)
  have hm : Looks (model prog w) s.heap (mroOf (.ref C)) cd.mro := (looks_clsIn X hc).andThen .now
  rw [osa_eq, PySem.refuse_eq]
  refine wpAny_bind (wpAny_bind (I.type.here (wpAny_bind (hm.here ?_))))
  rw [excMro_pass _ ho]
  refine wpAny_pure (wpAny_bind (I.type.here (wpAny_bind ((looks_findIn X ht).here (wpAny_bind ?_)))))
  exact wpAny_pure h
open PySem.Builtin PySem.Builtin.ObjectAttr in
/-- the store into an exception's dict that stands -/
theorem osa_dictE {ox od od' : Obj} {dx : Addr} {pre post : List (Addr × Obj)} {es : List DictEntry} {n : Nat} (F : Fr h₀ L s.heap m) (N : News h₀ L s.heap (pre ++ (dx, od) :: post)) (X : K.In s.heap)
    (I : InstAt s.heap x ox C (some od)) (hd : ox.dict = some dx) (hc : clsIn K C = some cd) (ho : excMro cd.mro = true) (hh : cd.hasDict = true) (ht : findIn K (.ref C) name = some none)
    (hl : (lookIn name od).isSome = true) (h1 : ∀ p ∈ pre, p.1 ≠ dx) (h2 : ∀ p ∈ post, p.1 ≠ dx)
    (e : Obj.putName name (PyData.keyHash w.params name) (.str name s.toks) v od = od') (e' : od'.data = .dict es.toArray n) (hz : es.length ≤ 1000)
    (h : ∀ h', Fr h₀ L h' m → News h₀ L h' (pre ++ (dx, od') :: post) → R (.ok (.ret .none)) { s with heap := h', toks := s.toks + 1 }) :
    codeAny (model prog w) A (.call (.builtin "object.__setattr__") ⟨[.ref x, .str name tk, v], []⟩) R s := by
  refine osa_openE X I hc ho ht ?_
  obtain ⟨U1, U2⟩ := news_upd (f := Obj.putName name (PyData.keyHash w.params name) (.str name s.toks) v) F N h1 h2 e (by obtain ⟨_, _, dd, _⟩ := od'; cases e'; rfl)
  have D := (N (dx, od) (by simp)).1
  have D' := (U2 (dx, od') (by simp)).1
  obtain ⟨hx, hcl, hn, -⟩ := I
  obtain ⟨oc, odi, oda, osl⟩ := ox
  dsimp only at hcl hd
  subst hcl hd
  refine wpAny_bind (wpAny_pure (wpAny_bind (wpAny_bind (wpAny_loadPart hx (wpAny_bind ((looks_clsIn X hc).here ?_))))))
  rw [hh]
  refine wpAny_pure (a := some dx) (wpAny_bind (wpAny_pure (wpAny_bind ?_)))
  unfold nsSet
  refine wpAny_bind (wpAny_bind (wpAny_askSetting (wpAny_pure (wpAny_bind (wpAny_mkText (wpAny_bind (wpAny_loadPart D ?_)))))))
  unfold lookIn at hl
  split at hl
  · rename_i es₀ n₀ q
    rw [q]
    dsimp only
    have c : (!es₀.any (·.key.isStr name) && es₀.any (·.refKey)) = false := by
      rw [← Array.any_toList, ← Array.any_toList]
      split at hl
      · rename_i en he
        rw [List.any_eq_true.mpr ⟨en, List.mem_of_find?_eq_some he, List.find?_some he⟩]; rfl
      · split at hl
        · cases hl
        · rename_i z; rw [Bool.not_eq_true] at z; rw [z, Bool.and_false]
    rw [aRefKeyMayBeTheName_at, c]
    refine wpAny_updatePart D ?_
    refine wpAny_bind (wpAny_lookBehind D' (by rw [e']; exact pastItsLine_dict (by rw [List.size_toArray, sizeLine_eq]; omega)) ?_)
    exact wpAny_pure (h _ U1 U2)
  · cases hl
open PySem.Builtin PySem.Builtin.ObjectAttr in
/-- the first store: the dict is made -/
theorem exc_set0 {t : Addr} {g : Obj → List (Addr × Obj)} {Q : Unit → Shared → Prop} (F : Fr h₀ L s.heap m) (N : News h₀ L s.heap news) (X₀ : K.In h₀) (U : UpdF x (excObj C t) news g)
    (hs : findIn K (.ref C) "__setattr__" = some (some (.builtin "object.__setattr__"))) (hc : clsIn K C = some cd) (ho : excMro cd.mro = true) (hh : cd.hasDict = true) (ht : findIn K (.ref C) name = some none)
    (h : ∀ dx h', Fr h₀ L h' m → News h₀ L h' ((dx, dictOf [⟨PyData.keyHash w.params name, .str name (s.toks + 1), v⟩] 1) :: g { excObj C t with dict := some dx }) → (∀ p ∈ news, p.1 < dx) → Q () { s with heap := h', toks := s.toks + 2 }) :
    wpAny (model prog w) A (setAttr (.ref x) name v) Q E s := by
  obtain ⟨pre, post, rfl, hg, a, b⟩ := U.split
  have hm := N (x, excObj C t) (List.mem_append_right _ (.head _))
  have I : InstAt s.heap x (excObj C t) C none := ⟨hm.1, rfl, rfl, trivial⟩
  refine set_plain (X₀.keeps F.keep) I hs (osa_openE (s := { s with toks := s.toks + 1 }) (X₀.keeps F.keep) I hc ho ht ?_)
  have X := X₀.keeps F.keep
  refine wpAny_bind (wpAny_pure (wpAny_bind (wpAny_bind (wpAny_loadPart hm.1 (wpAny_bind (Looks.here (s := { s with toks := s.toks + 1 }) (looks_clsIn X hc) ?_))))))
  rw [hh]
  refine wpAny_bind (wpAny_alloc (wpAny_bind (wpAny_update (Heap.get?_push_of_some _ hm.1) (wpAny_pure ?_))))
  have F1 := F.push { cls := .type "dict", data := .dict #[] }
  have N1 := N.push F { cls := .type "dict", data := .dict #[] }
  have lt : ∀ p ∈ pre ++ (x, excObj C t) :: post, p.1 < s.heap.objs.size := fun p hp => Heap.lt_size (N p hp).1
  obtain ⟨F2, N2⟩ := news_upd (pre := (s.heap.objs.size, _) :: pre) (f := fun o => { o with dict := some s.heap.objs.size }) (o' := { excObj C t with dict := some s.heap.objs.size }) F1 N1 (fun p hp => by
    rcases List.mem_cons.mp hp with rfl | hp
    · exact Nat.ne_of_gt (lt _ (List.mem_append_right _ (.head _)))
    · exact a p hp) b rfl rfl
  obtain ⟨F3, N3⟩ := news_upd (pre := []) (post := pre ++ (x, { excObj C t with dict := some s.heap.objs.size }) :: post) (f := Obj.putName name (PyData.keyHash w.params name) (.str name (s.toks + 1)) v) (o' := dictOf [⟨PyData.keyHash w.params name, .str name (s.toks + 1), v⟩] 1) F2 N2 (fun p hp => nomatch hp) (fun p hp => by
    refine Nat.ne_of_lt ?_
    rcases List.mem_append.mp hp with hp | hp
    · exact lt p (List.mem_append_left _ hp)
    · rcases List.mem_cons.mp hp with rfl | hp
      · exact lt (x, excObj C t) (List.mem_append_right _ (.head _))
      · exact lt p (List.mem_append_right _ (.tail _ hp))) (putName_dict name _ _ v [] 0) rfl
  have D := (N2 _ (.head _)).1
  have D' := (N3 _ (.head _)).1
  show wpAny _ _ (storeInDict s.heap.objs.size (.str name _) name v) _ _ _
  unfold storeInDict newKeyGuard nsSet
  refine wpAny_bind (wpAny_pure (wpAny_bind (wpAny_bind (wpAny_bind (wpAny_askSetting (wpAny_pure (wpAny_bind (wpAny_mkText (wpAny_bind (wpAny_loadPart D ?_))))))))))
  dsimp only
  rw [aRefKeyMayBeTheName_at, show (!(#[] : Array DictEntry).any (·.key.isStr name) && (#[] : Array DictEntry).any (·.refKey)) = false by simp]
  refine wpAny_updatePart D ?_
  refine wpAny_bind (wpAny_lookBehind D' (pastItsLine_dict (by rw [sizeLine_eq]; simp)) ?_)
  refine wpAny_pure (h _ _ F3 (fun p hp => N3 p ?_) lt)
  rw [hg] at hp
  exact hp
/-- a store more -/
theorem exc_set {ox : Obj} {dx : Addr} {es es' : List DictEntry} {n n' : Nat} {g : Obj → List (Addr × Obj)} {Q : Unit → Shared → Prop} (F : Fr h₀ L s.heap m) (N : News h₀ L s.heap news) (X₀ : K.In h₀)
    (hx : (x, ox) ∈ news) (hcl : ox.cls = .ref C) (hno : notCls ox = true) (hd : ox.dict = some dx) (U : UpdF dx (dictOf es n) news g)
    (hs : findIn K (.ref C) "__setattr__" = some (some (.builtin "object.__setattr__"))) (hc : clsIn K C = some cd) (ho : excMro cd.mro = true) (hh : cd.hasDict = true) (ht : findIn K (.ref C) name = some none)
    (hl : (getL name es).isSome = true) (e : (putL name (PyData.keyHash w.params name) (.str name (s.toks + 1)) v es, putN name es n) = (es', n')) (hz : es'.length ≤ 1000)
    (h : ∀ h', Fr h₀ L h' m → News h₀ L h' (g (dictOf es' n')) → Q () { s with heap := h', toks := s.toks + 2 }) :
    wpAny (model prog w) A (setAttr (.ref x) name v) Q E s := by
  obtain ⟨pre, post, rfl, hg, a, b⟩ := U.split
  have I : InstAt s.heap x ox C (some (dictOf es n)) := ⟨(N _ hx).1, hcl, hno, by rw [hd]; exact (N (dx, dictOf es n) (List.mem_append_right _ (.head _))).1⟩
  obtain ⟨e1, e2⟩ := Prod.mk.inj e
  exact set_plain (X₀.keeps F.keep) I hs (osa_dictE (s := { s with toks := s.toks + 1 }) F N (X₀.keeps F.keep) I hd hc ho hh ht hl a b (by rw [putName_dict, e1, e2]) rfl hz fun h' F' N' => h h' F' (hg _ ▸ N'))
open PySem.Builtin PySem.Builtin.ObjectAttr in
/-- an attribute that stands in an exception's own dict -/
theorem exc_get {ox : Obj} {od : Option Obj} {expr : Bool} {Q : Value → Shared → Prop} (X : K.In s.heap) (I : InstAt s.heap x ox C od)
    (hga : findIn K (.ref C) "__getattribute__" = some (some (.builtin "BaseException.__getattribute__"))) (hk : findIn K (.ref C) "__getattr__" = some none) (hb : mroIn K C (.type "BaseException") = some true)
    (hf : findObj K C od name = some (.value v)) (hh : handedIn v = true) (h : Q v { s with toks := s.toks + 1 }) : wpAny (model prog w) A (getAttr (.ref x) name expr) Q E s := by
  obtain ⟨hp, g, d, t, os⟩ := s
  have L0 := I.type (M := model prog w)
  have L1 := looks_findIn (M := model prog w) X hga
  have L2 := looks_findIn (M := model prog w) X hk
  have L3 : Looks (model prog w) hp (isInstance (.ref x) (.type "BaseException")) true := L0.andThen (looks_mroIn X hb)
  have L4 := looks_find (M := model prog w) X I hf
  unfold getAttr getAttrBy
  refine wpAny_bind (wpAny_mkText (wpAny_holding (wpAny_bind (L0.at (wpAny_bind (L1.at ?_))))))
  show wpAny _ _ (getAttrByItsOwn _ _ _ _ _ _) _ _ _
  unfold getAttrByItsOwn hookBefore callGetattribute boundAndCalled
  rw [show (expr && onTheHeap (Value.builtin "BaseException.__getattribute__")) = false by cases expr <;> rfl]
  refine wpAny_bind (L2.at (wpAny_bind (wpAny_attempt (wpAny_holding ?_))))
  show wpAny _ _ (bindSpecial _ _ >>= _) _ _ _
  rw [(PySem.F.excAttr_ValueError.ga).bind (.ref x)]
  refine wpAny_bind (wpAny_pure (wpAny_call (codeAny_call_builtin PySem.F.excAttr_ValueError.ga.plain PySem.F.entry_bexc_ga
    (@check_slot (model prog w) _ _ _ "BaseException.__getattribute__" "BaseException" "__getattribute__" (.ref x) [.str name t] [] _ (by decide +kernel) (by decide +kernel) L3 (PySem.F.args_bexc_ga _ _) ?_))))
  unfold Builtin.«object.__getattribute__»
  refine wpAny_bind (wpAny_pure (wpAny_bind (wpAny_pure (wpAny_bind (L0.at (wpAny_bind (L4.at ?_)))))))
  refine wpAny_pure ?_
  show wpAny _ _ (handedOut v) _ _ _
  rw [handedOut_of hh]; exact wpAny_pure h
end
end
theorem reset_8 : True := by
  w_top off
  trivial
section
/-- the object of the own exception class C that a raise hands on -/
noncomputable def ExcOut (C : Addr) (E : Value → Shared → Prop) (v : Value) (s₁ : Shared) : Prop :=
  ∃ e oe vs, v = .ref e ∧ s₁.heap.get? e = some oe ∧ oe.cls = .ref C ∧ oe.data = .fields vs ∧ vs[1]? = some .none ∧ E (.ref e) s₁
section
variable {M : Model} {A : Around} {E : Value → Shared → Prop} {s : Shared} {K : Frag} {C : Addr} {env : Env}
variable {nm q : Str} {Nn : Addr} {bs bm : List Value} {hdct : Bool} {sn : List Str} {sub : List Value} {col : Option Bool} {dd : Option Addr} {k0 k1 k2 k3 k5 : Option Value}
theorem raiseE {x : Sem Value} {Q : Flow → Shared → Prop} (hh : A.handled = none) (hb : bm.contains (.type "BaseException") = true)
    (h : wpAny M A x (fun v s₁ => s₁.heap.get? C = some (excClassObj nm q C Nn bs bm hdct sn sub false col dd k0 k1 k2 k3 k5 "Exception.__new__") ∧ ExcOut C E v s₁) E s) :
    wpAny M A (raiseStmt env (some x) none) Q E s := by
  have hcB : (Value.ref C :: bm).contains (.type "BaseException") = true := by rw [List.contains_cons, hb, Bool.or_true]
  unfold raiseStmt
  refine wpAny_bind (wpAny_mono h (fun v s₁ h₁ => ?_) fun _ _ x => x)
  obtain ⟨hC, e, oe, vs, rfl, he, hcl, hd, h1, hE⟩ := h₁
  obtain ⟨hp, g, d, tk, os⟩ := s₁
  obtain ⟨oc, od, oda, osl⟩ := oe
  dsimp only at hcl hd
  subst hcl hd
  have hfl : ∀ {Q : Unit → Shared → Prop} {E' : Value → Shared → Prop}, Q () ⟨hp, g, d, tk, os⟩ → wpAny M A (setFlight (.ref e) none) Q E' ⟨hp, g, d, tk, os⟩ := by
    intro Q E' hq
    unfold setFlight
    refine wpAny_bind (wpAny_field he rfl h1 ?_)
    exact wpAny_pure hq
  repeat (first | with_reducible refine hfl ?_ | with_reducible refine wpAny_loadPart_at he ?_ | with_reducible refine wpAny_loadPart_at hC ?_ | (with_reducible refine wpAny_isSubtype_exc hC ?_; rw [hcB]) | wp_step)
  exact wpAny_raiseNew_none hh hE

theorem Raise_E {cpos pos : Pos} {f : Expr} {args : List Expr} {Q : Flow → Shared → Prop} (X : K.In s.heap) (hC : K.lookup C = some (excClassObj nm q C Nn bs bm hdct sn sub false col dd k0 k1 k2 k3 k5 "Exception.__new__")) (hb : bm.contains (.type "BaseException") = true) (hh : A.handled = none)
    (h : wpAny M A (eval (.Call f args [] cpos) env) (fun v s₁ => K.In s₁.heap ∧ ExcOut C E v s₁) E s) :
    wpAny M A (exec (.Raise (some (.Call f args [] cpos)) none pos) env) Q E s := by
  rw [arm_exec_Raise]
  simp only [evalOpt, Option.map]
  refine wpAny_bind (wpAny_standAt (raiseE hh hb (wpAny_bind (wpAny_mono h (fun v s₁ h₁ => wpAny_bind (wpAny_standAt (wpAny_pure ⟨h₁.1 _ _ hC, h₁.2⟩))) fun _ _ x => x))))
end
end
theorem reset_9 : True := by
  w_top off
  trivial
section
local macro_rules | `(tactic| walk_at "setAttr ref") => `(tactic| (k_here; k_dflt (refine' exc_set ?F ?N ?X ?hx ?hcl ?hno ?hd ?U ?hs ?hc ?ho ?hh ?ht ?hl ?e ?hz ?_; (case F => k_asm); (case N => k_asm); (case X => k_asm); (case hx => k_mem); (case hcl => exact rfl); (case hno => exact rfl); (case hd => exact rfl); (case U => k_updF); (case hs => k_is); (case hc => k_is); (case ho => exact rfl); (case hh => exact rfl); (case ht => k_is); (case hl => k_get); (case e => k_put); (case hz => simp); k_whole); intro h' F' N'; (try dsimp only at N'); (try k_sweep)))
local macro_rules | `(tactic| walk_at "setAttr ref") => `(tactic| (k_here; k_dflt (refine' exc_set0 ?F ?N ?X ?U ?hs ?hc ?ho ?hh ?ht ?_; (case F => k_asm); (case N => k_asm); (case X => k_asm); (case U => k_updF); (case hs => k_is); (case hc => k_is); (case ho => exact rfl); (case hh => exact rfl); (case ht => k_is); k_whole); intro dx' h' F' N' l1; (try dsimp only at N'); (try k_lt l1); (try k_sweep)))
theorem synth1 {w : World} {loose : List Str} {mean : ExcName → Option Value} {mg mb : Str → Option Value}
    {dp un : Nat} {gd : Option (List Code)} {cn : Str} {cs : Scope} {a : Addr} {ccd : Value} {cl : List (Str × Addr)} {outer : List Env} {A₀ : Around} {base h₀ : Heap} {L : Addr} {m : Str → Option Value} {news : List (Addr × Obj)} {s : Shared}
    {Q E : Value → Shared → Prop} {k : Str} {t : Tok} 
    (B : Below A₀ base outer h₀) (F : Fr h₀ L s.heap m) (X : (hd.heap_39 w.params).In h₀) (N : News h₀ L s.heap news) (T : Top hd.view_39 loose mean mg mb h₀) (hk : cs.kind = .function)
    (hdp : dp < 950) (hu : un < 950)
    (ret : ∀ e t' dx es n h' tk', Fr h₀ L h' m → News h₀ L h' ((dx, dictOf es n) :: (e, { excObj 52 t' with dict := some dx }) :: news) → getL (Str.ofString "kind") es = some (some (.str k t)) → (∀ p ∈ news, p.1 < e) → @LT.lt Nat _ e dx → Q (.ref e) { s with heap := h', toks := tk' }) :
    wpAny (model Challenge.rw_nn0302_01.row.prog w) (ktrTop dp un gd cn cs L a ccd cl outer) (call (.ref 52) [.str k t]) Q E s := by
  k_dflt (refine' call_excI ?F ?X ?N ?hC ?hb ?hA ?hN ?hz ?hcall ?htyp ?hi ?hf ?_; (case F => k_asm); (case X => k_asm); (case N => k_asm); (case hC => k_is); (case hb => exact rfl); (case hA => exact rfl); (case hN => exact rfl); (case hz => size_fits); (case hcall => k_is); (case htyp => k_is); (case hi => k_is); (case hf => k_is))
  intro e t1 h1 F1 N1 l1 l2
  replace l2 := ltN l2
  have l3 : ∀ p ∈ news, p.1 ≠ e := fun p hp => Nat.ne_of_lt (Nat.lt_trans (l1 p hp) l2)
  k_dflt k_enter
  k_steps
  rename_i kF kN _ _
  exact ret _ _ _ _ _ _ _ kF (fun p hp => kN p (by revert p; k_allIn)) (by k_dflt k_get) (fun p hp => Nat.lt_trans (l1 p hp) l2) (lt_all (by with_reducible assumption) (by k_mem))
theorem synth3 {w : World} {loose : List Str} {mean : ExcName → Option Value} {mg mb : Str → Option Value}
    {dp un : Nat} {gd : Option (List Code)} {cn : Str} {cs : Scope} {a : Addr} {ccd : Value} {cl : List (Str × Addr)} {outer : List Env} {A₀ : Around} {base h₀ : Heap} {L : Addr} {m : Str → Option Value} {news : List (Addr × Obj)} {s : Shared}
    {Q E : Value → Shared → Prop} {k : Str} {t : Tok} {i : Int} {ti : Tok} {d : Str} {td : Tok}
    (B : Below A₀ base outer h₀) (F : Fr h₀ L s.heap m) (X : (hd.heap_39 w.params).In h₀) (N : News h₀ L s.heap news) (T : Top hd.view_39 loose mean mg mb h₀) (hk : cs.kind = .function)
    (hdp : dp < 950) (hu : un < 950)
    (ret : ∀ e t' dx es n h' tk', Fr h₀ L h' m → News h₀ L h' ((dx, dictOf es n) :: (e, { excObj 52 t' with dict := some dx }) :: news) → getL (Str.ofString "kind") es = some (some (.str k t)) → (∀ p ∈ news, p.1 < e) → @LT.lt Nat _ e dx → Q (.ref e) { s with heap := h', toks := tk' }) :
    wpAny (model Challenge.rw_nn0302_01.row.prog w) (ktrTop dp un gd cn cs L a ccd cl outer) (call (.ref 52) [.str k t, .int i ti, .str d td]) Q E s := by
  k_dflt (refine' call_excI ?F ?X ?N ?hC ?hb ?hA ?hN ?hz ?hcall ?htyp ?hi ?hf ?_; (case F => k_asm); (case X => k_asm); (case N => k_asm); (case hC => k_is); (case hb => exact rfl); (case hA => exact rfl); (case hN => exact rfl); (case hz => size_fits); (case hcall => k_is); (case htyp => k_is); (case hi => k_is); (case hf => k_is))
  intro e t1 h1 F1 N1 l1 l2
  replace l2 := ltN l2
  have l3 : ∀ p ∈ news, p.1 ≠ e := fun p hp => Nat.ne_of_lt (Nat.lt_trans (l1 p hp) l2)
  k_dflt k_enter
  k_steps
  rename_i kF kN _ _
  exact ret _ _ _ _ _ _ _ kF (fun p hp => kN p (by revert p; k_allIn)) (by k_dflt k_get) (fun p hp => Nat.lt_trans (l1 p hp) l2) (lt_all (by with_reducible assumption) (by k_mem))
end
local macro_rules | `(tactic| walk_at "call ref") => `(tactic| (k_here; (with_reducible show wpAny _ _ (call (Value.ref 52) [Value.str _ _]) _ _ _); k_dflt (refine' synth1 ?B ?F ?X ?N ?T ?hk ?hdp ?hu ?_; (case B => k_asm); (case F => k_asm); (case X => k_asm); (case N => k_asm); (case T => k_asm); (case hk => first | exact rfl | assumption); (case hdp => ((try simp only [depth_under_make, depth_under_kw, depth_in1, depth_deeper, depth_caller]); (try dsimp only [ktrTop]); first | omega | decide)); (case hu => ((try simp only [units_in1, units_deeper, Around.mark_units, units_caller]); (try dsimp only [ktrTop]); first | omega | decide)); k_whole); intro e' t' dx' es' n' h' tk' F' N' hge' l1 l2'))
local macro_rules | `(tactic| walk_at "call ref") => `(tactic| (k_here; (with_reducible show wpAny _ _ (call (Value.ref 52) [Value.str _ _, Value.int _ _, Value.str _ _]) _ _ _); k_dflt (refine' synth3 ?B ?F ?X ?N ?T ?hk ?hdp ?hu ?_; (case B => k_asm); (case F => k_asm); (case X => k_asm); (case N => k_asm); (case T => k_asm); (case hk => first | exact rfl | assumption); (case hdp => ((try simp only [depth_under_make, depth_under_kw, depth_in1, depth_deeper, depth_caller]); (try dsimp only [ktrTop]); first | omega | decide)); (case hu => ((try simp only [units_in1, units_deeper, Around.mark_units, units_caller]); (try dsimp only [ktrTop]); first | omega | decide)); k_whole); intro e' t' dx' es' n' h' tk' F' N' hge' l1 l2'))
local macro_rules | `(tactic| walk_at "exec Raise some none") => `(tactic| (k_here; (with_reducible show wpAny _ _ (exec (Stmt.Raise (some (Expr.Call (Expr.Name _ _) _ [] _)) none _) _) _ _ _); k_dflt (refine' Raise_E (C := 52) ?X ?hC ?hb ?hh ?_; (case X => k_in); (case hC => k_is); (case hb => exact rfl); (case hh => first | rfl | assumption); k_whole)))
theorem reset_10 : True := by
  w_top off
  trivial
section
section
variable {M : Model} {A : Around} {E : Value → Shared → Prop} {s' : Shared} {base g g₂ : Heap} {outer : List Env} {L a e dx C t : Addr} {m : Str → Option Value} {name : Str} {scope : Scope} {cd : Value} {Q : Unit → Shared → Prop} {news : List (Addr × Obj)}
theorem leave_raiseD (K : Below A base outer g) (F : Fr g L s'.heap m) (N : News g L s'.heap news) (he : News g L s'.heap [(e, { excObj C t with dict := some dx })]) (hne : ∀ q ∈ news, q.1 ≠ e)
    (hQ : ∀ h', RaisedD base outer e C dx news h' → g.UpToSlots h' → Q () { s' with heap := h' }) (hk : scope.kind = .function := by rfl) :
    wpAny M (A.deeper (envOf name scope L a cd)) (leaving (envOf name scope L a cd) (.ref e)) Q E s' := by
  have K' := K.push (name := name) (a := a) (cd := cd) F hk
  have he' := he _ (.head _)
  refine leaveD_first K'.stack rfl K'.stays K'.frames (fun q hq => ⟨(N q hq).1, fresh_of_stays K.stays (N q hq).2.2, fun hm => ?_, hne q hq⟩) he'.1 (fresh_of_stays K.stays he'.2.2) rfl rfl rfl rfl fun h' R U => hQ h' R ((Heap.UpToSlots.of_keeps F.keep).trans U)
  obtain ⟨env, hv, hf⟩ := List.mem_filterMap.mp hm
  rcases List.mem_cons.mp hv with rfl | hv
  · exact (N q hq).2.1 (Option.some.inj hf).symm
  · obtain ⟨o, ho, _⟩ := (K.frames.mem (List.mem_filterMap.mpr ⟨env, hv, hf⟩)).2
    rw [(N q hq).2.2] at ho; cases ho
theorem leave_onD (K : Below A base outer g) (F : Fr g L g₂ m) (R : RaisedD base (envOf name scope L a cd :: outer) e C dx news s'.heap) (hsm : g₂.UpToSlots s'.heap)
    (hQ : ∀ h', RaisedD base outer e C dx news h' → g.UpToSlots h' → Q () { s' with heap := h' }) :
    wpAny M (A.deeper (envOf name scope L a cd)) (leaving (envOf name scope L a cd) (.ref e)) Q E s' :=
  leaveD_next (Around.frames_deeper K.stack) rfl R fun h' R' U => hQ h' R' ((Heap.UpToSlots.of_keeps F.keep).trans (hsm.trans U))
theorem RaisedD.less {l : List Env} {h : Heap} {news' : List (Addr × Obj)} (R : RaisedD base l e C dx news h) (sub : ∀ p ∈ news', p ∈ news) : RaisedD base l e C dx news' h :=
  let ⟨B, hB, hl, r⟩ := R; ⟨B, hB, fun q hq => hl q (sub q hq), r⟩
/-- what a raise out of a call hands on: the text of the kind is k -/
noncomputable def SynthUp (base h₀ : Heap) (L : Addr) (m : Str → Option Value) (l : List Env) (k : Str) (news : List (Addr × Obj)) (E : Value → Shared → Prop) (s : Shared) : Prop :=
  ∀ e dx es n t h' tk' g, Fr h₀ L g m → g.UpToSlots h' → RaisedD base l e 52 dx ((dx, dictOf es n) :: news) h' → getL (Str.ofString "kind") es = some (some (.str k t)) → E (.ref e) { s with heap := h', toks := tk' }
theorem raise_up {E : Value → Shared → Prop} {s : Shared} {h₀ h' : Heap} {Lc : Addr} {mc : Str → Option Value} {k : Str} {t t' : Tok} {tk : Nat} {es : List DictEntry} {n : Nat} {all : List (Addr × Obj)} (K : Below A base outer g) (FG : Fr h₀ Lc g mc) (F : Fr g L h' m)
    (N : News g L h' ((dx, dictOf es n) :: (e, { excObj 52 t' with dict := some dx }) :: all)) (sub : ∀ p ∈ news, p ∈ all) (hlt : ∀ p ∈ all, p.1 < e) (hlt2 : @LT.lt Nat _ e dx) (hge : getL (Str.ofString "kind") es = some (some (.str k t)))
    (err : SynthUp base h₀ Lc mc outer k news E s) (hk : scope.kind = .function) :
    ExcOut 52 (fun e s' => wpAny M (A.deeper (envOf name scope L a cd)) (leaving (envOf name scope L a cd) e) (fun _ s'' => E e s'') (fun e' s'' => E e' s'') s') (.ref e) { s with heap := h', toks := tk } := by
  refine ⟨e, _, _, rfl, (N _ (.tail _ (.head _))).1, rfl, rfl, rfl, ?_⟩
  refine leave_raiseD (news := (dx, dictOf es n) :: news) K F (fun p hp => N p ?_) (fun p hp => N p (by rw [List.mem_singleton.mp hp]; exact .tail _ (.head _))) (fun q hq => ?_) (fun h₁ R U => err e dx es n t h₁ tk g FG U R hge) hk
  · rcases List.mem_cons.mp hp with rfl | hp
    · exact .head _
    · exact .tail _ (.tail _ (sub p hp))
  · rcases List.mem_cons.mp hq with rfl | hq
    · exact Nat.ne_of_gt hlt2
    · exact Nat.ne_of_lt (hlt q (sub q hq))
end
end
theorem reset_11 : True := by
  w_top off
  trivial
section
/-- a cell as the program's text says it -/
structure Cell where
  kind : Str
  out : Int
  ins : List Int
/-- the netlist's tuple of a cell -/
noncomputable def CellIn (news : List (Addr × Obj)) (v : Value) (c : Cell) : Prop :=
  ∃ a ta n n' pv vs t1 t2, v = .ref a ∧ (a, tupObj [.str c.kind t1, .int c.out t2, .ref ta, pv] n) ∈ news ∧ (ta, tupObj vs n') ∈ news ∧ IntsAre vs c.ins
noncomputable def CellsIn (news : List (Addr × Obj)) (cv : List Value) (cells : List Cell) : Prop :=
  cv.length = cells.length ∧ ∀ i (hi : i < cells.length), ∃ v, cv[i]? = some v ∧ CellIn news v cells[i]
noncomputable def isState (k : Str) : Bool := k == Str.ofString "flop" || k == Str.ofString "latch"
theorem is_state {w : World} {loose : List Str} {mean : ExcName → Option Value} {mg mb : Str → Option Value} {dp un : Nat} {gd : Option (List Code)} {cn : Str} {cs : Scope} {a : Addr} {ccd : Value} {cl : List (Str × Addr)} {outer : List Env} {A₀ : Around} {base h₀ : Heap} {L : Addr} {m : Str → Option Value} {news : List (Addr × Obj)} {s : Shared} {Q E : Value → Shared → Prop} {k : Str} {t : Tok} (B : Below A₀ base outer h₀) (F : Fr h₀ L s.heap m) (X : (hd.heap_39 w.params).In h₀) (N : News h₀ L s.heap news) (T : Top hd.view_39 loose mean mg mb h₀) (hk : cs.kind = .function) (hdp : dp < 950) (hu : un < 950)
    (ret : ∀ h' tk', Fr h₀ L h' m → News h₀ L h' news → Q (.bool (isState k)) { s with heap := h', toks := tk' }) :
    wpAny (model Challenge.rw_nn0302_01.row.prog w) (ktrTop dp un gd cn cs L a ccd cl outer) (call (.ref 61) [.str k t]) Q E s := by
  refine wpAny_call ?_
  k_dflt k_enter
  k_steps
  · rename_i hk1 kF kN _ _
    rw [show (k == Str.ofString "flop") = isState k by unfold isState; rw [hk1]; rfl]
    exact ret _ _ kF kN
  · rename_i hk1 kF kN _ _
    rw [show (k == Str.ofString "latch") = isState k by unfold isState; rw [hk1]; rfl]
    exact ret _ _ kF kN
theorem is_stateB {w : World} {loose : List Str} {mean : ExcName → Option Value} {mg mb : Str → Option Value} {dp un : Nat} {gd : Option (List Code)} {cn : Str} {cs : Scope} {a : Addr} {ccd : Value} {cl : List (Str × Addr)} {outer : List Env} {A₀ : Around} {base h₀ : Heap} {L : Addr} {m : Str → Option Value} {news : List (Addr × Obj)} {s : Shared} {Q E : Value → Shared → Prop} {k : Str} {t : Tok} {b : Bool} (B : Below A₀ base outer h₀) (F : Fr h₀ L s.heap m) (X : (hd.heap_39 w.params).In h₀) (N : News h₀ L s.heap news) (T : Top hd.view_39 loose mean mg mb h₀) (hk : cs.kind = .function) (hdp : dp < 950) (hu : un < 950) (hb : isState k = b)
    (ret : ∀ h' tk', Fr h₀ L h' m → News h₀ L h' news → Q (.bool b) { s with heap := h', toks := tk' }) :
    wpAny (model Challenge.rw_nn0302_01.row.prog w) (ktrTop dp un gd cn cs L a ccd cl outer) (call (.ref 61) [.str k t]) Q E s := is_state B F X N T hk hdp hu (hb ▸ ret)
/-- the places below i whose cell is so, as ints -/
noncomputable def idxs (p : Cell → Bool) (cells : List Cell) (i : Nat) : List Int := ((List.range i).filter fun j => (cells[j]?).any p).map fun (j : Nat) => (j : Int)
theorem idxs_succ (p : Cell → Bool) (cells : List Cell) (i : Nat) : idxs p cells (i + 1) = idxs p cells i ++ if (cells[i]?).any p then [(i : Int)] else [] := by
  unfold idxs
  rw [List.range_succ, List.filter_append, List.map_append]
  congr 1
  by_cases h : (cells[i]?).any p = true
  · rw [if_pos h]; simp [h]
  · rw [if_neg h]; simp [h]
theorem idxs_length_le (p : Cell → Bool) (cells : List Cell) (i : Nat) : (idxs p cells i).length ≤ i := by
  unfold idxs
  rw [List.length_map]
  exact Nat.le_trans (List.length_filter_le _ _) (by simp)
end
local macro_rules | `(tactic| walk_at "call ref") => `(tactic| (k_here; (with_reducible show wpAny _ _ (call (Value.ref 61) [Value.str _ _]) _ _ _); k_dflt (refine' is_state ?B ?F ?X ?N ?T ?hk ?hdp ?hu ?_; (case B => k_asm); (case F => k_asm); (case X => k_asm); (case N => k_asm); (case T => k_asm); (case hk => first | exact rfl | assumption); (case hdp => ((try simp only [depth_under_make, depth_under_kw, depth_in1, depth_deeper, depth_caller]); (try dsimp only [ktrTop]); first | omega | decide)); (case hu => ((try simp only [units_in1, units_deeper, Around.mark_units, units_caller]); (try dsimp only [ktrTop]); first | omega | decide)); k_whole); intro h' tk' F' N'; (try k_sweep)))
local macro_rules | `(tactic| walk_at "call ref") => `(tactic| (k_here; (with_reducible show wpAny _ _ (call (Value.ref 61) [Value.str _ _]) _ _ _); k_dflt (refine' is_stateB ?B ?F ?X ?N ?T ?hk ?hdp ?hu ?hb ?_; (case hb => with_reducible assumption); (case B => k_asm); (case F => k_asm); (case X => k_asm); (case N => k_asm); (case T => k_asm); (case hk => first | exact rfl | assumption); (case hdp => ((try simp only [depth_under_make, depth_under_kw, depth_in1, depth_deeper, depth_caller]); (try dsimp only [ktrTop]); first | omega | decide)); (case hu => ((try simp only [units_in1, units_deeper, Around.mark_units, units_caller]); (try dsimp only [ktrTop]); first | omega | decide)); k_whole); intro h' tk' F' N'; (try k_sweep)))
theorem reset_12 : True := by
  w_top off
  trivial
section
inductive JS1 (news : List (Addr × Obj)) (nt fL : Addr) (cells : List Cell) (i : Nat) (m₁ : Str → Option Value) (nw : List (Addr × Obj)) : Prop
  | mk (m' : Str → Option Value) (ys : List Value) (k : Nat) (h1 : m₁ = lm [(Str.ofString "netlist", .ref nt), (Str.ofString "found", .ref fL)] m') (h2 : nw = (fL, listOf ys.toArray k) :: news) (h3 : IntsAre ys (idxs (fun x => isState x.kind) cells i))
theorem state_cells {w : World} {loose : List Str} {mean : ExcName → Option Value} {mg mb : Str → Option Value} {dp un : Nat} {gd : Option (List Code)} {cn : Str} {cs : Scope} {a : Addr} {ccd : Value} {cl : List (Str × Addr)} {outer : List Env} {A₀ : Around} {base h₀ : Heap} {L : Addr} {m : Str → Option Value} {news : List (Addr × Obj)} {s : Shared} {Q E : Value → Shared → Prop} {nt nd inL outL ceL : Addr} {k1 k2 k3 k4 k5 tc : Tok} {nv : Value} {c : Int} {cv : List Value} {n1 : Nat} {cells : List Cell} (B : Below A₀ base outer h₀) (F : Fr h₀ L s.heap m) (X : (hd.heap_39 w.params).In h₀) (N : News h₀ L s.heap news) (T : Top hd.view_39 loose mean mg mb h₀) (hk : cs.kind = .function) (hdp : dp < 900) (hu : un < 900)
    (hnt : (nt, instObj 134 nd) ∈ news) (hnd : (nd, netD w k1 k2 k3 k4 k5 nv c tc inL outL ceL) ∈ news) (hce : (ceL, listOf cv.toArray n1) ∈ news) (hC : CellsIn news cv cells) (hlen : cells.length ≤ 12)
    (ret : ∀ D ys n h' tk', Fr h₀ L h' m → News h₀ L h' ((D, listOf ys.toArray n) :: news) → IntsAre ys (idxs (fun x => isState x.kind) cells cells.length) → (∀ p ∈ news, p.1 < D) → Q (.ref D) { s with heap := h', toks := tk' }) :
    wpAny (model Challenge.rw_nn0302_01.row.prog w) (ktrTop dp un gd cn cs L a ccd cl outer) (call (.ref 145) [.ref nt]) Q E s := by
  obtain ⟨hcv, hC⟩ := hC
  refine wpAny_call ?_
  k_dflt k_enter
  k_steps
  refine hold_in ?_
  rename_i fL h1 a4 h2 F2 N2 tk2 h3 tk3 t1 u1 v1 hr F3 N3 K3
  refine loop_range (n := cells.length) (JS1 news nt fL cells)
    (by rfl) hr (range_small (by omega) (by omega)) (range_size (by omega)) (by k_asm) (by k_asm) ⟨_, [], _, (lm_eq (by repeat (first | exact List.forall_mem_nil _ | refine List.forall_mem_cons.mpr ⟨rfl, ?_⟩))).symm, rfl, .nil⟩ ?_ ?_
  · rintro i ti m₁ nw I oI h tk hi ⟨m', ys, k, rfl, rfl, hy⟩ off F1 N1
    refine hideQ fun RR hQQ => ?_
    obtain ⟨v, hv, a', ta, n2, n3, pv, ws, t1, t2, rfl, ha, hta, hws⟩ := hC i hi
    have hv' : cv[(0 + (i : Int)).toNat]? = some (.ref a') := by simpa using hv
    have hl := hy.length
    have hq := idxs_length_le (fun x => isState x.kind) cells i
    have hI : @Ne Nat fL I := off _ (.head _)
    have hs := idxs_succ (fun x => isState x.kind) cells i
    rw [List.getElem?_eq_getElem hi, Option.any_some] at hs
    k_steps
    · rename isState _ = true => hst
      subst hQQ
      rw [if_pos hst] at hs
      refine TEnd.next (by k_asm) (by k_asm) (nw := (fL, listOf (ys ++ [Value.int (0 + (i : Int)) ti]).toArray (k + 1)) :: news) (by rw [← List.push_toArray]; k_allIn) (off_upd off) ⟨_, _, _, (lm_eq (by repeat (first | exact List.forall_mem_nil _ | refine List.forall_mem_cons.mpr ⟨rfl, ?_⟩))).symm, rfl, ?_⟩
      rw [hs]
      exact IntsAre.append hy (by rw [Int.zero_add]; exact .cons _ _ .nil)
    · rename isState _ = false => hst
      subst hQQ
      rw [if_neg (by rw [hst]; decide)] at hs
      refine TEnd.next (by k_asm) (by k_asm) (nw := (fL, listOf ys.toArray k) :: news) (by k_allIn) off ⟨_, _, _, (lm_eq (by repeat (first | exact List.forall_mem_nil _ | refine List.forall_mem_cons.mpr ⟨rfl, ?_⟩))).symm, rfl, ?_⟩
      rw [hs, List.append_nil]
      exact hy
  · rintro m₁ nw h tk ⟨m', ys, k, rfl, rfl, hy⟩ F1 N1
    k_steps
    rename_i kF kN _ _
    exact ret _ _ _ _ _ kF (fun p hp => kN p (by revert p; k_allIn)) hy (fun p hp => lt_allLt a4 p hp)
end
theorem reset_13 : True := by
  w_top off
  trivial
section
section
variable {prog : Program} {w : World} {h₀ h : Heap} {L : Addr} {m : Str → Option Value} {news : List (Addr × Obj)}
theorem mk_int {vs : List (Value × Value)} {P : Heap → Prop} (F : Fr h₀ L h m) (N : News h₀ L h news) (hbig : h₀.NoLimit) (hk : PySem.allIntKeys vs = true) (hn : ((PySem.intKeyPairs vs).map (·.1)).Nodup)
    (k : ∀ h' o, Fr h₀ L h' m → News h₀ L h' ((h.objs.size, o) :: news) → (∀ p ∈ news, p.1 < h.objs.size) → (h.objs.size == sysModules) = false → o.IsDictOf (PySem.intKind prog w) (PySem.intKeyPairs vs) → P h') :
    ∃ kvs, Carries (PySem.intKind prog w) vs kvs ∧ (h.push { cls := .type "dict", data := .dict #[] }).DictOf (PySem.intKind prog w) h.objs.size [] ∧
      ∀ h', h'.DictOf (PySem.intKind prog w) h.objs.size (merged [] kvs) → Heap.SameBut h.objs.size (h.push { cls := .type "dict", data := .dict #[] }) h' → P h' :=
  made_int F N hk hn fun h' o F' N' hd => k h' o F' N' (fun p hp => Heap.lt_size (N p hp).1) (F.notModules (modules_low hbig)) hd
theorem mk_str {vs : List (Value × Value)} {P : Heap → Prop} (F : Fr h₀ L h m) (N : News h₀ L h news) (hbig : h₀.NoLimit) (hk : PySem.allStrKeys vs = true) (hn : ((PySem.strPairs vs).map (·.1)).Nodup)
    (k : ∀ h' o, Fr h₀ L h' m → News h₀ L h' ((h.objs.size, o) :: news) → (∀ p ∈ news, p.1 < h.objs.size) → (h.objs.size == sysModules) = false → o.IsDictOf (PySem.strKind prog w) (PySem.strPairs vs) → P h') :
    ∃ kvs, Carries (PySem.strKind prog w) vs kvs ∧ (h.push { cls := .type "dict", data := .dict #[] }).DictOf (PySem.strKind prog w) h.objs.size [] ∧
      ∀ h', h'.DictOf (PySem.strKind prog w) h.objs.size (merged [] kvs) → Heap.SameBut h.objs.size (h.push { cls := .type "dict", data := .dict #[] }) h' → P h' :=
  made_str F N hk hn fun h' o F' N' hd => k h' o F' N' (fun p hp => Heap.lt_size (N p hp).1) (F.notModules (modules_low hbig)) hd
end
/-- the keys in their order -/
noncomputable def keys {K : Type} (kvs : List (K × Value)) : List K := kvs.map (·.1)
theorem valueAt_isSome (kvs : List (Int × Value)) (k : Int) : (PySem.valueAt kvs k).isSome = decide (k ∈ keys kvs) := by
  unfold PySem.valueAt keys
  induction kvs with
  | nil => simp
  | cons p r ih =>
    by_cases h : p.1 = k
    · simp [List.find?_cons, h]
    · have h' : k ≠ p.1 := fun e => h e.symm
      simp only [Option.isSome_map] at ih
      simp [List.find?_cons, h, h', ih]
theorem stored_new {kvs : List (Int × Value)} {k : Int} (v : Value) (h : k ∉ keys kvs) : PySem.stored kvs k v = kvs ++ [(k, v)] := by
  unfold PySem.stored keys at *
  rw [if_neg]
  intro hc
  rw [List.any_eq_true] at hc
  obtain ⟨p, hp, hq⟩ := hc
  exact h (List.mem_map.mpr ⟨p, hp, by simpa using hq⟩)
theorem keys_stored_new {kvs : List (Int × Value)} {k : Int} (v : Value) (h : k ∉ keys kvs) : keys (PySem.stored kvs k v) = keys kvs ++ [k] := by
  rw [stored_new v h]; simp [keys]
theorem valueAt_of {kvs : List (Int × Value)} (hn : (keys kvs).Nodup) : ∀ {j : Nat} {k : Int} {v : Value}, kvs[j]? = some (k, v) → PySem.valueAt kvs k = some v := by
  unfold PySem.valueAt keys at *
  induction kvs with
  | nil => intro j k v h; simp at h
  | cons p r ih =>
    intro j k v h
    rw [List.map_cons, List.nodup_cons] at hn
    cases j with
    | zero =>
      simp only [List.getElem?_cons_zero, Option.some.injEq] at h
      subst h
      simp [List.find?_cons]
    | succ j =>
      simp only [List.getElem?_cons_succ] at h
      have hm : k ∈ r.map (·.1) := List.mem_map.mpr ⟨_, List.mem_of_getElem? h, rfl⟩
      have hne : p.1 ≠ k := fun e => hn.1 (e ▸ hm)
      simp only [List.find?_cons, hne, decide_false]
      exact ih hn.2 h
theorem isDict_nodup {prog : Program} {w : World} {o : Obj} {kvs : List (Int × Value)} (h : o.IsDictOf (PySem.intKind prog w) kvs) : (keys kvs).Nodup := by
  obtain ⟨_, _, _, _, _, _, h⟩ := h
  exact h
end
local macro_rules | `(tactic| walk_at "Exists") => `(tactic| (k_here; first
  | (refine mk_int (by k_asm) (by first | k_asm | exact News.nil) (Top.nolimit (by k_asm)) (by rfl) (of_decide_eq_true (by rfl)) ?_; intro h' o' F' N' l1 lo' hd'; (try k_lt l1); (try k_sweep))
  | (refine mk_str (by k_asm) (by first | k_asm | exact News.nil) (Top.nolimit (by k_asm)) (by rfl) (of_decide_eq_true (by rfl)) ?_; intro h' o' F' N' l1 lo' hd'; (try k_lt l1); (try k_sweep))))
local macro_rules | `(tactic| walk_at "compareOp In int ref") => `(tactic| (k_here; k_dflt (refine' kda_in (knd := PySem.intKind _ _) ?N ?hp ?hd ?lo ?hk _ rfl ?_; (case N => k_asm); (case hp => k_mem); (case hd => with_reducible assumption); (case lo => with_reducible assumption); (case hk => exact intKind_is _ _ _ _))))
local macro_rules | `(tactic| walk_at "setItem ref int") => `(tactic| (k_here; k_dflt (refine' kda_set (knd := PySem.intKind _ _) ?F ?N ?U ?hd ?hk ?z ?_; (case F => k_asm); (case N => k_asm); (case U => k_updF); (case hd => with_reducible assumption); (case hk => exact intKind_is _ _ _ _); (case z => (rw [sizeLine_eq]; omega))); intro h' o' F' N' hd'; (try dsimp only at N'); (try k_sweep)))
local macro_rules | `(tactic| walk_at "eval Dict") => `(tactic| (k_here; (with_reducible show wpAny _ _ (eval (Expr.Dict (some (Expr.Name _ _) :: _) _ _) _) _ _ _); k_dflt (refine' Dict_made (knd := PySem.intKind _ _) ?F ?a ?l ?e ?n ?_; (case F => k_asm); (case a => rfl); (case l => rfl); (case e => exact List.cons_ne_nil _ _); (case n => exact Nat.le_of_ble_eq_true rfl)); intro F'))
theorem reset_14 : True := by
  w_top off
  trivial
section
theorem cut {M : Model} {A : Around} {E : Value → Shared → Prop} {env : Env} {Q : Flow → Shared → Prop} {l : List Stmt} {s : Shared} (k : Nat)
    (h : wpAny M A (execs (l.take k) env) (fun f s' => match f with | .next => wpAny M A (execs (l.drop k) env) Q E s' | f => Q f s') E s) : wpAny M A (execs l env) Q E s := by
  rw [← List.take_append_drop k l]; exact execs_append h
noncomputable def forBody : Stmt → List Stmt
  | .For _ _ b _ _ => b
  | _ => []
/-- the building loop's body -/
noncomputable def bb (w : World) : List Stmt := forBody ((lawBody w).getD 9 (.Pass default))
theorem bld1 {w : World} {loose : List Str} {mean : ExcName → Option Value} {mg mb : Str → Option Value} {cx : Cx} {A₀ : Around} {base h₀ : Heap} {L : Addr} {m : Str → Option Value} {s : Shared} {Q : Flow → Shared → Prop} {bbl : List Stmt} (hbb : bbl = bb w) {H cL : Addr} {n1 n2 : Nat} {vs : List Value} {ns : List Int} {i c sd spot : Int} {t1 t2 t3 tsp : Tok} {tl : List (Addr × Obj)}
    (B : Below A₀ base cx.outer h₀) (X : (hd.heap_39 w.params).In h₀) (T : Top hd.view_39 loose mean mg mb h₀) (hdp : cx.dp < 800) (hu : cx.un < 800) (F : Fr h₀ L s.heap (lm [(Str.ofString "hand", .ref H), (Str.ofString "spot", .int spot tsp)] m))
    (N : News h₀ L s.heap ((H, listOf #[.ref cL, .int i t1, .int c t2, .int sd t3] n1) :: (cL, listOf vs.toArray n2) :: tl)) (hH : ∀ p ∈ tl, p.1 ≠ H) (hne : @Ne Nat cL H) (hI : IntsAre vs ns) (hO : HandOk ns i c sd) (hns : ns.length ≤ 63) (hs0 : 0 ≤ spot) (hs1 : spot < 13)
    (ret : ∀ k tk1 h' tk' i' c' sd' t1' t2' t3', Fr h₀ L h' (fun y => if y = Str.ofString "kind" then some (.str k tk1) else lm [(Str.ofString "hand", .ref H), (Str.ofString "spot", .int spot tsp)] m y) →
      News h₀ L h' ((H, listOf #[.ref cL, .int i' t1', .int c' t2', .int sd' t3'] n1) :: (cL, listOf vs.toArray n2) :: tl) → HandOk ns i' c' sd' → Q .next { s with heap := h', toks := tk' }) :
    wpAny (model Challenge.rw_nn0302_01.row.prog w) (lawAt cx w L) (execs (bbl.take 1) (lawEnv cx w L)) Q (fun _ _ => False) s := by
  subst hbb
  unfold bb lawBody lookBody
  dsimp only [List.getD, List.getElem?_cons_succ, List.getElem?_cons_zero, Option.getD, forBody, List.take]
  k_steps
  exact ret _ _ _ _ _ _ _ _ _ _ (by k_asm) (fun p hp => (by k_asm : News _ _ _ _) p (by revert p; k_allIn)) (by assumption)
theorem wide_ok {kvs : List (Str × Value)} {k : Str} {t : Tok} (h : ∀ p ∈ kvs, ∃ wd t', p.2 = Value.int wd t' ∧ 1 ≤ wd ∧ wd ≤ 4) : ∃ wd t', (PySem.valueAt kvs k).getD (.int 2 t) = .int wd t' ∧ 1 ≤ wd ∧ wd ≤ 4 := by
  unfold PySem.valueAt
  cases hf : kvs.find? (fun kv => decide (kv.1 = k)) with
  | none => exact ⟨2, t, rfl, by omega, by omega⟩
  | some p =>
    obtain ⟨wd, t', e, h1, h2⟩ := h p (List.mem_of_find?_eq_some hf)
    exact ⟨wd, t', by rw [Option.map_some, Option.getD_some, e], h1, h2⟩
local macro_rules | `(tactic| walk_at "call builtin:dict.get") => `(tactic| ((first | (with_reducible show wpAny _ _ (call (Value.builtin "dict.get") [Value.ref _, Value.str _ _]) _ _ _) | (with_reducible show wpAny _ _ (call (Value.builtin "dict.get") [Value.ref _, Value.str _ _, _]) _ _ _)); refine hold_of ?_))
theorem bld2 {w : World} {loose : List Str} {mean : ExcName → Option Value} {mg mb : Str → Option Value} {cx : Cx} {A₀ : Around} {base h₀ : Heap} {L : Addr} {m : Str → Option Value} {s : Shared} {Q : Flow → Shared → Prop} {bbl : List Stmt} (hbb : bbl = bb w) {spot : Int} {tsp tk : Tok} {k : Str} {tl : List (Addr × Obj)}
    (B : Below A₀ base cx.outer h₀) (X : (hd.heap_39 w.params).In h₀) (T : Top hd.view_39 loose mean mg mb h₀) (hdp : cx.dp < 800) (hu : cx.un < 800) (F : Fr h₀ L s.heap (lm [(Str.ofString "kind", .str k tk), (Str.ofString "spot", .int spot tsp)] m)) (N : News h₀ L s.heap tl) (hs0 : 0 ≤ spot) (hs1 : spot < 13)
    (ret : ∀ wd p tk1 h' tk' , Fr h₀ L h' (fun y => if y = Str.ofString "param" then some p else if y = Str.ofString "wide" then some (.int wd tk1) else lm [(Str.ofString "kind", .str k tk), (Str.ofString "spot", .int spot tsp)] m y) →
      News h₀ L h' tl → 1 ≤ wd → wd ≤ 4 → Q .next { s with heap := h', toks := tk' }) :
    wpAny (model Challenge.rw_nn0302_01.row.prog w) (lawAt cx w L) (execs ((bbl.drop 1).take 2) (lawEnv cx w L)) Q (fun _ _ => False) s := by
  subst hbb
  unfold bb lawBody lookBody
  dsimp only [List.getD, List.getElem?_cons_succ, List.getElem?_cons_zero, Option.getD, forBody, List.take, List.drop]
  k_steps
  refine hold_in ?_
  k_dflt (refine' kdg_get2 (knd := PySem.strKind _ _) ?N ?hp ?hd ?lo ?hk _ rfl ?_; (case N => k_asm); (case hp => k_mem); (case hd => assumption); (case lo => assumption); (case hk => exact strKind_is _ _ _ _))
  generalize hkv : PySem.strPairs _ = kvs at *
  obtain ⟨wd, tw, e, hw1, hw2⟩ := wide_ok (kvs := kvs) (k := k) (t := _) (by
    rw [← hkv]
    intro p hp
    repeat (rcases List.mem_cons.mp hp with rfl | hp; · exact ⟨_, _, rfl, by omega, by omega⟩)
    cases hp)
  rw [e]
  k_steps
  refine hold_in ?_
  k_dflt (refine' kdg_get1 (knd := PySem.strKind _ _) ?N ?hp ?hd ?lo ?hk _ rfl ?_; (case N => k_asm); (case hp => k_mem); (case hd => assumption); (case lo => assumption); (case hk => exact strKind_is _ _ _ _))
  generalize (PySem.valueAt (K := Str) _ _).getD Value.none = pv
  k_steps
  exact ret wd pv _ _ _ (by k_asm) (fun p hp => (by k_asm : News _ _ _ _) p (by revert p; k_allIn)) hw1 hw2
end
theorem reset_15 : True := by
  w_top off
  trivial
section
/-- bounds that the walk is not to see -/
noncomputable def Bet (a x b : Int) : Prop := a ≤ x ∧ x ≤ b
inductive JB3 (iL H cL nt gL oL pL : Addr) (d1 spot many : Int) (td1 tkm tsp tkk : Tok) (sp : Bool) (k : Str) (pv : Value) (n1 : Nat) (tl : List (Addr × Obj)) (poolI ns : List Int) (j : Nat) (m₁ : Str → Option Value) (nw : List (Addr × Obj)) : Prop
  | mk (m' : Str → Option Value) (iv : List Value) (insI : List Int) (ki : Nat) (i c sd : Int) (t1 t2 t3 : Tok)
    (h1 : m₁ = lm [(Str.ofString "near", .int d1 td1), (Str.ofString "ins", .ref iL), (Str.ofString "hand", .ref H), (Str.ofString "net", .ref nt), (Str.ofString "given", .ref gL), (Str.ofString "spoiled", .bool sp), (Str.ofString "many", .int many tkm), (Str.ofString "outs", .ref oL), (Str.ofString "pool", .ref pL), (Str.ofString "spot", .int spot tsp), (Str.ofString "kind", .str k tkk), (Str.ofString "param", pv)] m')
    (h2 : nw = (iL, listOf iv.toArray ki) :: (H, listOf #[.ref cL, .int i t1, .int c t2, .int sd t3] n1) :: tl) (h3 : IntsAre iv insI) (h4 : insI.length = j) (h5 : ∀ x ∈ insI, x ∈ poolI) (h6 : HandOk ns i c sd)
theorem bld3 {w : World} {loose : List Str} {mean : ExcName → Option Value} {mg mb : Str → Option Value} {cx : Cx} {A₀ : Around} {base h₀ : Heap} {L : Addr} {m : Str → Option Value} {s : Shared} {Q : Flow → Shared → Prop} {bbl : List Stmt} (hbb : bbl = bb w) {H cL nt gL oL pL : Addr} {n1 n2 : Nat} {vs gv ov plv : List Value} {ns poolI : List Int} {i c sd spot many : Int} {t1 t2 t3 tsp tkm tkk : Tok} {k : Str} {pv : Value} {sp : Bool} {tl : List (Addr × Obj)} {wd : Int} {twd : Tok}
    (B : Below A₀ base cx.outer h₀) (X : (hd.heap_39 w.params).In h₀) (T : Top hd.view_39 loose mean mg mb h₀) (hdp : cx.dp < 800) (hu : cx.un < 800) (F : Fr h₀ L s.heap (lm [(Str.ofString "wide", .int wd twd), (Str.ofString "hand", .ref H), (Str.ofString "net", .ref nt), (Str.ofString "given", .ref gL), (Str.ofString "spoiled", .bool sp), (Str.ofString "many", .int many tkm), (Str.ofString "outs", .ref oL), (Str.ofString "pool", .ref pL), (Str.ofString "spot", .int spot tsp), (Str.ofString "kind", .str k tkk), (Str.ofString "param", pv)] m)) (N : News h₀ L s.heap ((H, listOf #[.ref cL, .int i t1, .int c t2, .int sd t3] n1) :: tl))
    (hcL : (cL, listOf vs.toArray n2) ∈ tl) (hgL : (gL, LCg.lst gv) ∈ tl) (hpL : (pL, listOf plv.toArray 0) ∈ tl) (hH : ∀ p ∈ tl, p.1 ≠ H) (hne : @Ne Nat cL H) (hI : IntsAre vs ns) (hP : IntsAre plv poolI) (hO : HandOk ns i c sd) (hns : ns.length ≤ 63) (hs0 : 0 ≤ spot) (hs1 : spot < many) (hm1 : many < 13)
    (hpl : (plv.length : Int) = 2 + gv.length + many) (hgl : gv.length ≤ 4) (hw : Bet 1 wd 4)
    (ret : ∀ iL iv insI n m' h' tk' i' c' sd' t1' t2' t3', Fr h₀ L h' (lm [(Str.ofString "ins", .ref iL), (Str.ofString "hand", .ref H), (Str.ofString "net", .ref nt), (Str.ofString "given", .ref gL), (Str.ofString "spoiled", .bool sp), (Str.ofString "many", .int many tkm), (Str.ofString "outs", .ref oL), (Str.ofString "pool", .ref pL), (Str.ofString "spot", .int spot tsp), (Str.ofString "kind", .str k tkk), (Str.ofString "param", pv)] m') → News h₀ L h' ((H, listOf #[.ref cL, .int i' t1', .int c' t2', .int sd' t3'] n1) :: (iL, listOf iv.toArray n) :: tl) →
      IntsAre iv insI → insI.length ≤ 4 → (∀ x ∈ insI, x ∈ poolI) → (∀ p ∈ tl, @LT.lt Nat _ p.1 iL) → @LT.lt Nat _ H iL → HandOk ns i' c' sd' → Q .next { s with heap := h', toks := tk' }) :
    wpAny (model Challenge.rw_nn0302_01.row.prog w) (lawAt cx w L) (execs ((bbl.drop 3).take 3) (lawEnv cx w L)) Q (fun _ _ => False) s := by
  subst hbb
  unfold bb lawBody lookBody
  dsimp only [List.getD, List.getElem?_cons_succ, List.getElem?_cons_zero, Option.getD, forBody, List.take, List.drop]
  have hpl2 := hP.length
  k_steps
  refine hold_in ?_
  rename_i d1 td1 z1 z2 i1 c1 sd1 t11 t21 t31 hd0 hd1 hO1 z3 z4 iL z5 ee z6 F1 N1 z7 z8 z9 z10 z11 hr F2 N2 K2
  obtain ⟨hw0, hw1⟩ := hw
  refine loop_range (n := wd.toNat) (JB3 iL H cL nt gL oL pL d1 spot many td1 tkm tsp tkk sp k pv n1 tl poolI ns) (by rfl) hr (range_small (by omega) (by omega)) (range_size (by omega)) F2 N2 ⟨_, [], [], _, _, _, _, _, _, _, (lm_eq (by repeat (first | exact List.forall_mem_nil _ | refine List.forall_mem_cons.mpr ⟨rfl, ?_⟩))).symm, rfl, .nil, rfl, (fun x hx => nomatch hx), hO1⟩ ?_ ?_
  · rintro j tj m₁ nw I oI h tk hj ⟨m', iv, insI, ki, i, c, sd, t1, t2, t3, rfl, rfl, hiv, hil, hmem, hO⟩ off F3 N3
    refine hideQ fun RR hQQ => ?_
    have hivl := hiv.length
    have hiI : @Ne Nat iL I := off _ (.head _)
    have hHI : @Ne Nat H I := off _ (.tail _ (.head _))
    have htI : ∀ p ∈ tl, p.1 ≠ I := fun p hp => off p (.tail _ (.tail _ hp))
    have hj4 : j < 4 := by omega
    have grow : ∀ {x : Int} {tx : Tok}, x ∈ poolI → IntsAre (iv ++ [Value.int x tx]) (insI ++ [x]) ∧ (insI ++ [x]).length = j + 1 ∧ ∀ y ∈ insI ++ [x], y ∈ poolI := fun hx =>
      ⟨IntsAre.append hiv (.cons _ _ .nil), by rw [List.length_append, hil]; rfl, fun y hy => (List.mem_append.mp hy).elim (hmem y) fun h => by rw [List.mem_singleton.mp h]; exact hx⟩
    have inp : ∀ {q : Int}, 0 ≤ q → q < (poolI.length : Int) → poolI.getD q.toNat 0 ∈ poolI := fun {q} h0 h1 => by
      have hq : q.toNat < poolI.length := by omega
      rw [List.getD_eq_getElem?_getD, List.getElem?_eq_getElem hq]
      exact List.getElem_mem hq
    have hgl2 := hgl
    clear hw0 hw1 hr K2 N2 F2 N1 F1
    k_steps
    all_goals (
      subst hQQ
      rename HandOk ns _ _ _ => hO3
      obtain ⟨g1, g2, g3⟩ := grow (x := poolI.getD _ 0) (inp (by assumption) (by omega))
      exact TEnd.next (by k_asm) (by k_asm) (nw := (iL, listOf (iv ++ [Value.int _ _]).toArray (ki + 1)) :: (H, listOf #[.ref cL, .int _ _, .int _ _, .int _ _] n1) :: tl) (by rw [← List.push_toArray]; k_allIn) (by refine off_fst ?_ off; rfl)
        ⟨_, _, _, _, _, _, _, _, _, _, (lm_eq (by repeat (first | exact List.forall_mem_nil _ | refine List.forall_mem_cons.mpr ⟨rfl, ?_⟩))).symm, rfl, g1, g2, g3, hO3⟩)
  · rintro m₁ nw h tk ⟨m', iv, insI, ki, i, c, sd, t1, t2, t3, rfl, rfl, hiv, hil, hmem, hO⟩ F3 N3
    k_steps
    exact ret iL iv insI _ _ _ _ _ _ _ _ _ _ (lmF F3 (by repeat (first | exact List.forall_mem_nil _ | refine List.forall_mem_cons.mpr ⟨rfl, ?_⟩))) (fun p hp => N3 p (by revert p; k_allIn)) hiv (by omega) hmem (fun p hp => lt_allLt ee p (.tail _ hp)) (lt_all ee (.head _)) hO
end
theorem reset_16 : True := by
  w_top off
  trivial
section
theorem tuple_led {prog : Program} {w : World} {A : Around} {E : Value → Shared → Prop} {s : Shared} {h₀ : Heap} {L l : Addr} {m : Str → Option Value} {news : List (Addr × Obj)} {vs : List Value} {n : Nat} {Q : Value → Shared → Prop} (F : Fr h₀ L s.heap m) (N : News h₀ L s.heap news) (hm : (l, listOf vs.toArray n) ∈ news) (hz : vs.length ≤ 16384)
    (h : ∀ D h', Fr h₀ L h' m → News h₀ L h' ((D, tupObj vs 0) :: news) → (∀ p ∈ news, p.1 < D) → Q (.ref D) { s with heap := h' }) : wpAny (model prog w) A (call (.type "tuple") [.ref l]) Q E s :=
  kde_tupleOf (items := vs.toArray) F N ⟨_, (N _ hm).1, rfl, _, rfl⟩ (by simpa using hz) (by simp) h
local macro_rules | `(tactic| walk_at "call type:tuple") => `(tactic| (k_here; (with_reducible show wpAny _ _ (call (Value.type _) [Value.ref _]) _ _ _); k_dflt (refine' tuple_led ?F ?N ?m ?z ?_; (case F => k_asm); (case N => k_asm); (case m => k_mem); (case z => omega); k_whole); intro D' h' F' N' l1; (try k_lt l1); (try k_sweep)))
theorem getD_mem {l : List Int} {q : Int} (h0 : 0 ≤ q) (h1 : q < (l.length : Int)) : l.getD q.toNat 0 ∈ l := by
  have hq : q.toNat < l.length := by omega
  rw [List.getD_eq_getElem?_getD, List.getElem?_eq_getElem hq]
  exact List.getElem_mem hq
theorem bld4 {w : World} {loose : List Str} {mean : ExcName → Option Value} {mg mb : Str → Option Value} {cx : Cx} {A₀ : Around} {base h₀ : Heap} {L : Addr} {m : Str → Option Value} {s : Shared} {Q : Flow → Shared → Prop} {bbl : List Stmt} (hbb : bbl = bb w) {H cL nt gL oL pL : Addr} {n1 n2 : Nat} {vs gv ov plv : List Value} {ns poolI : List Int} {i c sd spot many : Int} {t1 t2 t3 tsp tkm tkk : Tok} {k : Str} {pv : Value} {sp : Bool} {tl : List (Addr × Obj)} {outsI : List Int} {iv : Value}
    (B : Below A₀ base cx.outer h₀) (X : (hd.heap_39 w.params).In h₀) (T : Top hd.view_39 loose mean mg mb h₀) (hdp : cx.dp < 800) (hu : cx.un < 800) (F : Fr h₀ L s.heap (lm [(Str.ofString "ins", iv), (Str.ofString "hand", .ref H), (Str.ofString "net", .ref nt), (Str.ofString "given", .ref gL), (Str.ofString "spoiled", .bool sp), (Str.ofString "many", .int many tkm), (Str.ofString "outs", .ref oL), (Str.ofString "pool", .ref pL), (Str.ofString "spot", .int spot tsp), (Str.ofString "kind", .str k tkk), (Str.ofString "param", pv)] m)) (N : News h₀ L s.heap ((H, listOf #[.ref cL, .int i t1, .int c t2, .int sd t3] n1) :: tl))
    (hcL : (cL, listOf vs.toArray n2) ∈ tl) (hgL : (gL, LCg.lst gv) ∈ tl) (hpL : (pL, listOf plv.toArray 0) ∈ tl) (hH : ∀ p ∈ tl, p.1 ≠ H) (hne : @Ne Nat cL H) (hI : IntsAre vs ns) (hP : IntsAre plv poolI) (hO : HandOk ns i c sd) (hns : ns.length ≤ 63) (hs0 : 0 ≤ spot) (hs1 : spot < many) (hm1 : many < 13)
    (hpl : (plv.length : Int) = 2 + gv.length + many) (hgl : gv.length ≤ 4) (hoL : (oL, LCg.lst ov) ∈ tl) (hOv : IntsAre ov outsI) (hol : (ov.length : Int) = many) (hop : ∀ x ∈ outsI, x ∈ poolI)
    (ret : ∀ out to m' h' tk' i' c' sd' t1' t2' t3', Fr h₀ L h' (lm [(Str.ofString "out", .int out to), (Str.ofString "ins", iv), (Str.ofString "hand", .ref H), (Str.ofString "net", .ref nt), (Str.ofString "given", .ref gL), (Str.ofString "spoiled", .bool sp), (Str.ofString "many", .int many tkm), (Str.ofString "outs", .ref oL), (Str.ofString "pool", .ref pL), (Str.ofString "spot", .int spot tsp), (Str.ofString "kind", .str k tkk), (Str.ofString "param", pv)] m') → News h₀ L h' ((H, listOf #[.ref cL, .int i' t1', .int c' t2', .int sd' t3'] n1) :: tl) →
      out ∈ poolI → HandOk ns i' c' sd' → Q .next { s with heap := h', toks := tk' }) :
    wpAny (model Challenge.rw_nn0302_01.row.prog w) (lawAt cx w L) (execs ((bbl.drop 6).take 2) (lawEnv cx w L)) Q (fun _ _ => False) s := by
  subst hbb
  unfold bb lawBody lookBody
  dsimp only [List.getD, List.getElem?_cons_succ, List.getElem?_cons_zero, Option.getD, forBody, List.take, List.drop]
  have hpl2 := hP.length
  have hol2 := hOv.length
  cases sp with
  | false =>
    k_steps
    exact ret (outsI.getD spot.toNat 0) _ _ _ _ _ _ _ _ _ _ (lmF (by k_asm) (by repeat (first | exact List.forall_mem_nil _ | refine List.forall_mem_cons.mpr ⟨rfl, ?_⟩))) (by k_asm) (hop _ (getD_mem hs0 (by omega))) hO
  | true =>
    k_steps
    all_goals (
      rename HandOk ns _ _ _ => hO3
      refine' ret _ _ _ _ _ _ _ _ _ _ _ (lmF (by k_asm) (by repeat (first | exact List.forall_mem_nil _ | refine List.forall_mem_cons.mpr ⟨rfl, ?_⟩))) (by k_asm) ?_ (by assumption)
      first | exact hop _ (getD_mem hs0 (by omega)) | exact getD_mem (by assumption) (by omega))
theorem bld5 {w : World} {loose : List Str} {mean : ExcName → Option Value} {mg mb : Str → Option Value} {cx : Cx} {A₀ : Around} {base h₀ : Heap} {L : Addr} {m : Str → Option Value} {s : Shared} {Q : Flow → Shared → Prop} {bbl : List Stmt} (hbb : bbl = bb w) {H cL nt gL oL pL : Addr} {n1 n2 : Nat} {vs gv ov plv : List Value} {ns poolI : List Int} {i c sd spot many : Int} {t1 t2 t3 tsp tkm tkk : Tok} {k : Str} {pv : Value} {sp : Bool} {tl : List (Addr × Obj)} {rL ceL nd inL ouL iL : Addr} {k1 k2 k3 k4 k5 tc to : Tok} {nv : Value} {cc out : Int} {n3 kr kc : Nat} {iv rv cev : List Value} {o : Obj} {hand : Obj}
    (B : Below A₀ base cx.outer h₀) (X : (hd.heap_39 w.params).In h₀) (T : Top hd.view_39 loose mean mg mb h₀) (hdp : cx.dp < 800) (hu : cx.un < 800) (F : Fr h₀ L s.heap (lm [(Str.ofString "out", .int out to), (Str.ofString "ins", .ref iL), (Str.ofString "hand", .ref H), (Str.ofString "net", .ref nt), (Str.ofString "given", .ref gL), (Str.ofString "spoiled", .bool sp), (Str.ofString "many", .int many tkm), (Str.ofString "outs", .ref oL), (Str.ofString "pool", .ref pL), (Str.ofString "spot", .int spot tsp), (Str.ofString "kind", .str k tkk), (Str.ofString "param", pv)] m)) (N : News h₀ L s.heap ((H, hand) :: (rL, listOf rv.toArray kr) :: (ceL, listOf cev.toArray kc) :: tl))
    (hiL : (iL, listOf iv.toArray n3) ∈ tl) (hnt : (nt, instObj 134 nd) ∈ tl) (hnd : (nd, netD w k1 k2 k3 k4 k5 nv cc tc inL ouL ceL) ∈ tl) (hrc : (L + 1, o) ∈ tl) (hro : o.data = .cell (some (.ref rL)))
    (hr : ∀ p ∈ tl, p.1 ≠ rL) (hce : ∀ p ∈ tl, p.1 ≠ ceL) (hHc : @LT.lt Nat _ H ceL) (hcr : @LT.lt Nat _ ceL rL) (hrv : rv.length ≤ 12) (hcv : cev.length ≤ 12) (hiv : iv.length ≤ 4)
    (ret : ∀ ra ca ta n4 n5 n6 m' h' tk' u1 u2 u3 u4, Fr h₀ L h' (lm [(Str.ofString "hand", .ref H), (Str.ofString "net", .ref nt), (Str.ofString "given", .ref gL), (Str.ofString "spoiled", .bool sp), (Str.ofString "many", .int many tkm), (Str.ofString "outs", .ref oL), (Str.ofString "pool", .ref pL), (Str.ofString "spot", .int spot tsp), (Str.ofString "kind", .str k tkk), (Str.ofString "param", pv)] m') →
      News h₀ L h' ((H, hand) :: (rL, listOf (rv ++ [Value.ref ra]).toArray (kr + 1)) :: (ceL, listOf (cev ++ [Value.ref ca]).toArray (kc + 1)) :: (ra, tupObj [.str k u1, .int out u2, .ref iL] n4) :: (ca, tupObj [.str k u3, .int out u4, .ref ta, pv] n5) :: (ta, tupObj iv n6) :: tl) →
      (∀ p ∈ tl, p.1 < ta) → @LT.lt Nat _ rL ta → @LT.lt Nat _ ta ca → @LT.lt Nat _ ca ra → Q .next { s with heap := h', toks := tk' }) :
    wpAny (model Challenge.rw_nn0302_01.row.prog w) (lawAt cx w L) (execs (bbl.drop 8) (lawEnv cx w L)) Q (fun _ _ => False) s := by
  subst hbb
  unfold bb lawBody lookBody
  dsimp only [List.getD, List.getElem?_cons_succ, List.getElem?_cons_zero, Option.getD, forBody, List.take, List.drop]
  k_steps
  rename_i v0g v1L v2h v3B v4X v5T v6tk v7D v8h v9l v13D v14h v15l v20h v21F v22N v23tk v24Tc v25kX v26D v27h v28l v34h v35F v36N
  refine ret v26D v13D v7D 0 0 0 _ _ _ tkk to tkk to (lmF v35F (by repeat (first | exact List.forall_mem_nil _ | refine List.forall_mem_cons.mpr ⟨rfl, ?_⟩))) (fun p hp => v36N p (by revert p; rw [← List.push_toArray, ← List.push_toArray]; k_allIn)) (fun p hp => lt_allLt v9l p (.tail _ (.tail _ (.tail _ hp)))) (lt_all v9l (by k_mem)) (lt_all v15l (by k_mem)) (lt_all v28l (by k_mem))
end
theorem reset_17 : True := by
  w_top off
  trivial
section
/-- the law's row of a cell -/
noncomputable def RowIn (news : List (Addr × Obj)) (v : Value) (c : Cell) : Prop :=
  ∃ a la n n' vs t1 t2, v = .ref a ∧ (a, tupObj [.str c.kind t1, .int c.out t2, .ref la] n) ∈ news ∧ (la, listOf vs.toArray n') ∈ news ∧ IntsAre vs c.ins
noncomputable def RowsIn (news : List (Addr × Obj)) (rv : List Value) (cells : List Cell) : Prop :=
  rv.length = cells.length ∧ ∀ i (hi : i < cells.length), ∃ v, rv[i]? = some v ∧ RowIn news v cells[i]
theorem snoc_at {α β : Type} {P : α → β → Prop} {xs : List α} {ys : List β} {x : α} {y : β} (h : xs.length = ys.length ∧ ∀ i (hi : i < ys.length), ∃ v, xs[i]? = some v ∧ P v ys[i]) (hp : P x y) :
    (xs ++ [x]).length = (ys ++ [y]).length ∧ ∀ i (hi : i < (ys ++ [y]).length), ∃ v, (xs ++ [x])[i]? = some v ∧ P v (ys ++ [y])[i] := by
  refine ⟨by simp [h.1], fun i hi => ?_⟩
  by_cases hl : i < ys.length
  · obtain ⟨v, hv, hp⟩ := h.2 i hl
    refine ⟨v, by rw [List.getElem?_append_left (by omega)]; exact hv, ?_⟩
    rw [List.getElem_append_left hl]; exact hp
  · have : i = ys.length := by rw [List.length_append, List.length_singleton] at hi; omega
    subst this
    refine ⟨x, by rw [← h.1]; simp, ?_⟩
    simpa using hp
theorem RowsIn.snoc {news news' : List (Addr × Obj)} {rv : List Value} {cells : List Cell} {v : Value} {c : Cell} (h : RowsIn news rv cells) (sub : ∀ p ∈ news, p ∈ news') (hv : RowIn news' v c) : RowsIn news' (rv ++ [v]) (cells ++ [c]) := by
  refine snoc_at (P := RowIn news') ⟨h.1, fun i hi => ?_⟩ hv
  obtain ⟨v, hv, a, la, n, n', vs, t1, t2, e, h1, h2, h3⟩ := h.2 i hi
  exact ⟨v, hv, a, la, n, n', vs, t1, t2, e, sub _ h1, sub _ h2, h3⟩
theorem CellsIn.snoc {news news' : List (Addr × Obj)} {cv : List Value} {cells : List Cell} {v : Value} {c : Cell} (h : CellsIn news cv cells) (sub : ∀ p ∈ news, p ∈ news') (hv : CellIn news' v c) : CellsIn news' (cv ++ [v]) (cells ++ [c]) := by
  refine snoc_at (P := CellIn news') ⟨h.1, fun i hi => ?_⟩ hv
  obtain ⟨v, hv, a, ta, n, n', pv, vs, t1, t2, e, h1, h2, h3⟩ := h.2 i hi
  exact ⟨v, hv, a, ta, n, n', pv, vs, t1, t2, e, sub _ h1, sub _ h2, h3⟩
/-- what the building promises of a cell -/
noncomputable def CellOk (poolI : List Int) (c : Cell) : Prop := c.ins.length ≤ 4 ∧ (∀ x ∈ c.ins, x ∈ poolI) ∧ c.out ∈ poolI
inductive JB (H cL nt gL oL pL rL ceL : Addr) (sp : Bool) (many : Int) (tkm : Tok) (T0 : List (Addr × Obj)) (poolI ns : List Int) (j : Nat) (m₁ : Str → Option Value) (nw : List (Addr × Obj)) : Prop
  | mk (m' : Str → Option Value) (rv : List Value) (kr : Nat) (cev : List Value) (kc : Nat) (cells : List Cell) (nwl : List (Addr × Obj)) (i c sd : Int) (t1 t2 t3 : Tok)
    (h1 : m₁ = lm [(Str.ofString "hand", .ref H), (Str.ofString "net", .ref nt), (Str.ofString "given", .ref gL), (Str.ofString "spoiled", .bool sp), (Str.ofString "many", .int many tkm), (Str.ofString "outs", .ref oL), (Str.ofString "pool", .ref pL)] m')
    (h2 : nw = (H, listOf #[.ref cL, .int i t1, .int c t2, .int sd t3] 0) :: (rL, listOf rv.toArray kr) :: (ceL, listOf cev.toArray kc) :: (nwl ++ T0))
    (h3 : cells.length = j) (h4 : RowsIn (nwl ++ T0) rv cells) (h5 : CellsIn (nwl ++ T0) cev cells) (h6 : ∀ x ∈ cells, CellOk poolI x) (h7 : ∀ p ∈ nwl, @LT.lt Nat _ rL p.1) (h8 : HandOk ns i c sd)
theorem lawB {w : World} {loose : List Str} {mean : ExcName → Option Value} {mg mb : Str → Option Value} {cx : Cx} {A₀ : Around} {base h₀ : Heap} {L : Addr} {m : Str → Option Value} {s : Shared} {Q : Flow → Shared → Prop} {H cL nt gL oL pL rL ceL nd inL ouL : Addr} {n2 : Nat} {vs gv ov plv : List Value} {ns poolI outsI : List Int} {i c sd many cc : Int} {t1 t2 t3 tkm k1 k2 k3 k4 k5 tc : Tok} {nv : Value} {sp : Bool} {o : Obj} {T0 : List (Addr × Obj)}
    (B : Below A₀ base cx.outer h₀) (X : (hd.heap_39 w.params).In h₀) (T : Top hd.view_39 loose mean mg mb h₀) (hdp : cx.dp < 800) (hu : cx.un < 800) (F : Fr h₀ L s.heap (lm [(Str.ofString "hand", .ref H), (Str.ofString "net", .ref nt), (Str.ofString "given", .ref gL), (Str.ofString "spoiled", .bool sp), (Str.ofString "many", .int many tkm), (Str.ofString "outs", .ref oL), (Str.ofString "pool", .ref pL)] m)) (N : News h₀ L s.heap ((H, listOf #[.ref cL, .int i t1, .int c t2, .int sd t3] 0) :: (rL, listOf #[] 0) :: (ceL, listOf #[] 0) :: T0))
    (hcL : (cL, listOf vs.toArray n2) ∈ T0) (hgL : (gL, LCg.lst gv) ∈ T0) (hpL : (pL, listOf plv.toArray 0) ∈ T0) (hoL : (oL, LCg.lst ov) ∈ T0) (hnt : (nt, instObj 134 nd) ∈ T0) (hnd : (nd, netD w k1 k2 k3 k4 k5 nv cc tc inL ouL ceL) ∈ T0)
    (hrc : (L + 1, o) ∈ T0) (hro : o.data = .cell (some (.ref rL))) (hH : ∀ p ∈ T0, p.1 ≠ H) (hrt : ∀ p ∈ T0, p.1 ≠ rL) (hct : ∀ p ∈ T0, p.1 ≠ ceL) (hHc : @LT.lt Nat _ H ceL) (hcr : @LT.lt Nat _ ceL rL)
    (hne : @Ne Nat cL H) (hI : IntsAre vs ns) (hP : IntsAre plv poolI) (hOv : IntsAre ov outsI) (hO : HandOk ns i c sd) (hns : ns.length ≤ 63) (hm0 : 0 ≤ many) (hm1 : many < 13)
    (hpl : (plv.length : Int) = 2 + gv.length + many) (hgl : gv.length ≤ 4) (hol : (ov.length : Int) = many) (hop : ∀ x ∈ outsI, x ∈ poolI)
    (ret : ∀ rv cev kr kc cells nwl hand m' h' tk', Fr h₀ L h' (lm [(Str.ofString "hand", .ref H), (Str.ofString "net", .ref nt), (Str.ofString "given", .ref gL), (Str.ofString "spoiled", .bool sp), (Str.ofString "many", .int many tkm), (Str.ofString "outs", .ref oL), (Str.ofString "pool", .ref pL)] m') → News h₀ L h' ((H, hand) :: (rL, listOf rv.toArray kr) :: (ceL, listOf cev.toArray kc) :: (nwl ++ T0)) → (cells.length : Int) = many → RowsIn (nwl ++ T0) rv cells → CellsIn (nwl ++ T0) cev cells →
      (∀ x ∈ cells, CellOk poolI x) → (∀ p ∈ nwl, @LT.lt Nat _ rL p.1) → Q .next { s with heap := h', toks := tk' }) :
    wpAny (model Challenge.rw_nn0302_01.row.prog w) (lawAt cx w L) (execs (piece w 9 1) (lawEnv cx w L)) Q (fun _ _ => False) s := by
  unfold piece lawBody lookBody
  dsimp only [List.drop, List.take]
  k_steps
  refine hold_in ?_
  rename_i v0F v1N v2h v3tk v4t v5u v6v hr F2 N2 v10a
  refine loop_range (n := many.toNat) (JB H cL nt gL oL pL rL ceL sp many tkm T0 poolI ns) (by rfl) hr (range_small (by omega) (by omega)) (range_size (by omega)) F2 N2
    ⟨_, [], _, [], _, [], [], _, _, _, _, _, _, (lm_eq (by repeat (first | exact List.forall_mem_nil _ | refine List.forall_mem_cons.mpr ⟨rfl, ?_⟩))).symm, rfl, rfl, ⟨rfl, fun i hi => absurd hi (Nat.not_lt_zero _)⟩, ⟨rfl, fun i hi => absurd hi (Nat.not_lt_zero _)⟩, (fun x hx => nomatch hx), (fun p hp => nomatch hp), hO⟩ ?_ ?_
  · rintro j tj m₁ nw I oI h tk hj ⟨m', rv, kr, cev, kc, cells, nwl, i, c, sd, t1, t2, t3, rfl, rfl, hcl, hR, hC, hK, hnw, hO⟩ off F3 N3
    have hjm : (0 + (j : Int)) < many := by omega
    have hIH : @Ne Nat H I := off _ (.head _)
    have hIr : @Ne Nat rL I := off _ (.tail _ (.head _))
    have hIc : @Ne Nat ceL I := off _ (.tail _ (.tail _ (.head _)))
    have hIt : ∀ p ∈ nwl ++ T0, p.1 ≠ I := fun p hp => off p (.tail _ (.tail _ (.tail _ hp)))
    have hT : ∀ p ∈ T0, p ∈ nwl ++ T0 := fun p hp => List.mem_append_right _ hp
    have tH : ∀ p ∈ nwl ++ T0, p.1 ≠ H := fun p hp => (List.mem_append.mp hp).elim (fun h => Nat.ne_of_gt (Nat.lt_trans (Nat.lt_trans hHc hcr) (hnw p h))) (hH p)
    have tR : ∀ p ∈ nwl ++ T0, p.1 ≠ rL := fun p hp => (List.mem_append.mp hp).elim (fun h => Nat.ne_of_gt (hnw p h)) (hrt p)
    have tC : ∀ p ∈ nwl ++ T0, p.1 ≠ ceL := fun p hp => (List.mem_append.mp hp).elim (fun h => Nat.ne_of_gt (Nat.lt_trans hcr (hnw p h))) (hct p)
    generalize hU : nwl ++ T0 = U at *
    show wpAny (model Challenge.rw_nn0302_01.row.prog w) (lawAt cx w L) (execs (bb w) (lawEnv cx w L)) _ _ _
    generalize hbl : bb w = bl
    have hbl := hbl.symm
    -- kind
    refine cut 1 ?_
    have tlH : ∀ p ∈ (rL, listOf rv.toArray kr) :: (ceL, listOf cev.toArray kc) :: (I, oI) :: U, p.1 ≠ H := List.forall_mem_cons.mpr ⟨Nat.ne_of_gt (Nat.lt_trans hHc hcr), List.forall_mem_cons.mpr ⟨Nat.ne_of_gt hHc, List.forall_mem_cons.mpr ⟨hIH.symm, tH⟩⟩⟩
    have tlR : ∀ p ∈ (I, oI) :: U, p.1 ≠ rL := List.forall_mem_cons.mpr ⟨hIr.symm, tR⟩
    have tlC : ∀ p ∈ (I, oI) :: U, p.1 ≠ ceL := List.forall_mem_cons.mpr ⟨hIc.symm, tC⟩
    have h2 : ∀ {x : Addr × Obj}, x ∈ T0 → x ∈ (rL, listOf rv.toArray kr) :: (ceL, listOf cev.toArray kc) :: (I, oI) :: U := fun h => .tail _ (.tail _ (.tail _ (hT _ h)))
    refine bld1 hbl (n1 := 0) (n2 := n2) (t1 := t1) (t2 := t2) (t3 := t3) (tl := (rL, listOf rv.toArray kr) :: (ceL, listOf cev.toArray kc) :: (I, oI) :: U) B X T hdp hu (lmF F3 (by repeat (first | exact List.forall_mem_nil _ | refine List.forall_mem_cons.mpr ⟨rfl, ?_⟩))) (fun p hp => N3 p ?_) ?_ hne hI hO hns (by omega) (by omega) ?_
    · rcases List.mem_cons.mp hp with rfl | hp
      · exact .tail _ (.head _)
      rcases List.mem_cons.mp hp with rfl | hp
      · exact .tail _ (.tail _ (.tail _ (.tail _ (hT _ hcL))))
      rcases List.mem_cons.mp hp with rfl | hp
      · exact .tail _ (.tail _ (.head _))
      rcases List.mem_cons.mp hp with rfl | hp
      · exact .tail _ (.tail _ (.tail _ (.head _)))
      rcases List.mem_cons.mp hp with rfl | hp
      · exact .head _
      · exact .tail _ (.tail _ (.tail _ (.tail _ hp)))
    · exact tlH
    intro k tkk h4 tk4 i4 c4 sd4 t14 t24 t34 F4 N4 hO4
    -- wide, param
    refine cut 2 ?_
    refine bld2 hbl B X T hdp hu (lmF F4 (by repeat (first | exact List.forall_mem_nil _ | refine List.forall_mem_cons.mpr ⟨rfl, ?_⟩))) N4 (by omega) (by omega) ?_
    intro wd pv tw h5 tk5 F5 N5 hw1 hw2
    show wpAny (model Challenge.rw_nn0302_01.row.prog w) (lawAt cx w L) (execs (((bl.drop 1)).drop 2) (lawEnv cx w L)) _ _ _
    rw [List.drop_drop]
    -- near, ins
    refine cut 3 ?_
    refine bld3 hbl (ov := ov) (n1 := 0) (n2 := n2) (tl := (rL, listOf rv.toArray kr) :: (ceL, listOf cev.toArray kc) :: (I, oI) :: U) (m := fun y => if y = Str.ofString "param" then some pv else if y = Str.ofString "wide" then some (.int wd tw) else _) B X T hdp hu (lmF F5 (by repeat (first | exact List.forall_mem_nil _ | refine List.forall_mem_cons.mpr ⟨rfl, ?_⟩))) (fun p hp => N5 p ((List.mem_cons.mp hp).elim (fun e => e ▸ .head _) (fun h => .tail _ (.tail _ h)))) (h2 hcL) (h2 hgL) (h2 hpL) tlH hne hI hP hO4 hns (by omega) hjm hm1 hpl hgl ⟨hw1, hw2⟩ ?_
    intro iL iv insI n6 m6 h6 tk6 i6 c6 sd6 t16 t26 t36 F6 N6 hiv hil hmem hlI hHI hO6
    show wpAny (model Challenge.rw_nn0302_01.row.prog w) (lawAt cx w L) (execs (((bl.drop 3)).drop 3) (lawEnv cx w L)) _ _ _
    rw [List.drop_drop]
    -- out
    have neI : ∀ p ∈ (rL, listOf rv.toArray kr) :: (ceL, listOf cev.toArray kc) :: (I, oI) :: U, p.1 ≠ iL := fun p hp => Nat.ne_of_lt (hlI p hp)
    refine cut 2 ?_
    refine bld4 hbl (ov := ov) (n1 := 0) (n2 := n2) (tl := (iL, listOf iv.toArray n6) :: (rL, listOf rv.toArray kr) :: (ceL, listOf cev.toArray kc) :: (I, oI) :: U) B X T hdp hu F6 N6 (.tail _ (h2 hcL)) (.tail _ (h2 hgL)) (.tail _ (h2 hpL)) (List.forall_mem_cons.mpr ⟨Nat.ne_of_gt hHI, tlH⟩) hne hI hP hO6 hns (by omega) hjm hm1 hpl hgl (.tail _ (h2 hoL)) hOv hol hop ?_
    intro out to m7 h7 tk7 i7 c7 sd7 t17 t27 t37 F7 N7 hout hO7
    show wpAny (model Challenge.rw_nn0302_01.row.prog w) (lawAt cx w L) (execs (((bl.drop 6)).drop 2) (lawEnv cx w L)) _ _ _
    rw [List.drop_drop]
    -- row and cell
    have hcl2 : rv.length ≤ 12 := by rw [hR.1]; omega
    have hcl3 : cev.length ≤ 12 := by rw [hC.1]; omega
    have hivl := hiv.length
    refine bld5 hbl (hand := listOf #[.ref cL, .int i7 t17, .int c7 t27, .int sd7 t37] 0) (kr := kr) (kc := kc) (cL := cL) (n1 := 0) (n2 := n2) (vs := vs) (gv := gv) (ov := ov) (plv := plv) (ns := ns) (poolI := poolI) (i := i) (c := c) (sd := sd) (t1 := t1) (t2 := t2) (t3 := t3) (tl := (iL, listOf iv.toArray n6) :: (I, oI) :: U) B X T hdp hu F7 (fun p hp => N7 p ?_) (.head _) (.tail _ (.tail _ (hT _ hnt))) (.tail _ (.tail _ (hT _ hnd))) (.tail _ (.tail _ (hT _ hrc))) hro
      (List.forall_mem_cons.mpr ⟨(neI _ (.head _)).symm, tlR⟩) (List.forall_mem_cons.mpr ⟨(neI _ (.tail _ (.head _))).symm, tlC⟩) hHc hcr hcl2 hcl3 (by omega) ?_
    · rcases List.mem_cons.mp hp with rfl | hp
      · exact .head _
      rcases List.mem_cons.mp hp with rfl | hp
      · exact .tail _ (.tail _ (.head _))
      rcases List.mem_cons.mp hp with rfl | hp
      · exact .tail _ (.tail _ (.tail _ (.head _)))
      rcases List.mem_cons.mp hp with rfl | hp
      · exact .tail _ (.head _)
      · exact .tail _ (.tail _ (.tail _ (.tail _ hp)))
    intro ra ca ta n7 n8 n9 m8 h8 tk8 u1 u2 u3 u4 F8 N8 hlt hrta htaca hcara
    have hIta : @LT.lt Nat _ I ta := hlt _ (.tail _ (.head _))
    have hiLI : @LT.lt Nat _ I iL := hlI _ (.tail _ (.tail _ (.head _)))
    have hiLr : @LT.lt Nat _ rL iL := hlI _ (.head _)
    have h4s : ∀ p ∈ U, p ∈ (ra, tupObj [.str k u1, .int out u2, .ref iL] n7) :: (ca, tupObj [.str k u3, .int out u4, .ref ta, pv] n8) :: (ta, tupObj iv n9) :: (iL, listOf iv.toArray n6) :: U := fun p hp => .tail _ (.tail _ (.tail _ (.tail _ hp)))
    refine TEnd.next F8 N8 (nw := (H, listOf #[.ref cL, .int i7 t17, .int c7 t27, .int sd7 t37] 0) :: (rL, listOf (rv ++ [Value.ref ra]).toArray (kr + 1)) :: (ceL, listOf (cev ++ [Value.ref ca]).toArray (kc + 1)) :: (ra, tupObj [.str k u1, .int out u2, .ref iL] n7) :: (ca, tupObj [.str k u3, .int out u4, .ref ta, pv] n8) :: (ta, tupObj iv n9) :: (iL, listOf iv.toArray n6) :: U) ?_ ?_
      ⟨_, _, _, _, _, cells ++ [⟨k, out, insI⟩], (ra, tupObj [.str k u1, .int out u2, .ref iL] n7) :: (ca, tupObj [.str k u3, .int out u4, .ref ta, pv] n8) :: (ta, tupObj iv n9) :: (iL, listOf iv.toArray n6) :: nwl, _, _, _, _, _, _, (lm_eq (by repeat (first | exact List.forall_mem_nil _ | refine List.forall_mem_cons.mpr ⟨rfl, ?_⟩))).symm, by rw [← hU]; rfl, by rw [List.length_append, hcl]; rfl, ?_, ?_, ?_, ?_, hO7⟩
    · k_allIn
    · refine List.forall_mem_cons.mpr ⟨hIH, List.forall_mem_cons.mpr ⟨hIr, List.forall_mem_cons.mpr ⟨hIc, List.forall_mem_cons.mpr ⟨?_, List.forall_mem_cons.mpr ⟨?_, List.forall_mem_cons.mpr ⟨?_, List.forall_mem_cons.mpr ⟨?_, hIt⟩⟩⟩⟩⟩⟩⟩
      · exact Nat.ne_of_gt (Nat.lt_trans hIta (Nat.lt_trans htaca hcara))
      · exact Nat.ne_of_gt (Nat.lt_trans hIta htaca)
      · exact Nat.ne_of_gt hIta
      · exact Nat.ne_of_gt hiLI
    · rw [List.cons_append, List.cons_append, List.cons_append, List.cons_append, hU]
      exact hR.snoc h4s ⟨ra, iL, n7, n6, iv, u1, u2, rfl, .head _, .tail _ (.tail _ (.tail _ (.head _))), hiv⟩
    · rw [List.cons_append, List.cons_append, List.cons_append, List.cons_append, hU]
      exact hC.snoc h4s ⟨ca, ta, n8, n9, pv, iv, u3, u4, rfl, .tail _ (.head _), .tail _ (.tail _ (.head _)), hiv⟩
    · exact fun x hx => (List.mem_append.mp hx).elim (hK x) fun h => by rw [List.mem_singleton.mp h]; exact ⟨hil, hmem, hout⟩
    · exact List.forall_mem_cons.mpr ⟨Nat.lt_trans hrta (Nat.lt_trans htaca hcara), List.forall_mem_cons.mpr ⟨Nat.lt_trans hrta htaca, List.forall_mem_cons.mpr ⟨hrta, List.forall_mem_cons.mpr ⟨hiLr, hnw⟩⟩⟩⟩
  · rintro m₁ nw h tk ⟨m', rv, kr, cev, kc, cells, nwl, i, c, sd, t1, t2, t3, rfl, rfl, hcl, hR, hC, hK, hnw, hO⟩ F3 N3
    k_steps
    exact ret rv cev kr kc cells nwl _ _ _ _ F3 N3 (by omega) hR hC hK hnw
end
theorem reset_18 : True := by
  w_top off
  trivial
section
theorem allLt_of {d : Nat} : ∀ {l : List (Addr × Obj)}, (∀ p ∈ l, @LT.lt Nat _ p.1 d) → AllLt d l
  | [], _ => trivial
  | _ :: _, h => ⟨h _ (.head _), allLt_of fun p hp => h p (.tail _ hp)⟩
theorem list_cp {prog : Program} {w : World} {A : Around} {E : Value → Shared → Prop} {s : Shared} {h₀ : Heap} {L : Addr} {m : Str → Option Value} {news : List (Addr × Obj)} {Q : Value → Shared → Prop} {l : Addr} {vs : List Value} {n : Nat} (F : Fr h₀ L s.heap m) (N : News h₀ L s.heap news)
    (hl : (l, listOf vs.toArray n) ∈ news) (hsz : vs.length ≤ sizeLine) (hQ : ∀ h' D c, Fr h₀ L h' m → News h₀ L h' ((D, listOf vs.toArray c) :: news) → AllLt D news → @LT.lt Nat _ L D → Q (.ref D) { s with heap := h' }) :
    wpAny (model prog w) A (call (.type "list") [.ref l]) Q E s :=
  call_list_seq (hsz := by simpa using hsz) l (.inl rfl) (N.get hl) rfl rfl fun h' c' hk hD => by
    obtain ⟨oL, _, _, hL, _⟩ := F.ns
    exact hQ h' _ c' (F.keeps hk) (fun p hp => (List.mem_cons.mp hp).elim
      (fun e => by subst e; exact ⟨hD, Nat.ne_of_gt (Heap.lt_size hL), none_at_size F⟩) fun h => (N.keeps hk) p h)
      (allLt_of fun p hp => Heap.lt_size (N.get (a := p.1) (o := p.2) hp)) (Heap.lt_size hL)
theorem lawC {w : World} {loose : List Str} {mean : ExcName → Option Value} {mg mb : Str → Option Value} {cx : Cx} {A₀ : Around} {base h₀ : Heap} {L : Addr} {m : Str → Option Value} {s : Shared} {Q : Flow → Shared → Prop} {nt gL pL rL ceL nd inL ouL : Addr} {k1 k2 k3 k4 k5 tc tkm : Tok} {nv : Value} {many cc : Int} {gv plv rv cev : List Value} {gi poolI : List Int} {kr kc n1 : Nat} {cells : List Cell} {o o2 : Obj} {news : List (Addr × Obj)}
    (B : Below A₀ base cx.outer h₀) (X : (hd.heap_39 w.params).In h₀) (T : Top hd.view_39 loose mean mg mb h₀) (hdp : cx.dp < 800) (hu : cx.un < 800) (F : Fr h₀ L s.heap (lm [(Str.ofString "net", .ref nt), (Str.ofString "given", .ref gL), (Str.ofString "many", .int many tkm), (Str.ofString "pool", .ref pL)] m)) (N : News h₀ L s.heap ((L + 1 + 1, o2) :: news)) (hn2 : ∀ p ∈ news, p.1 ≠ L + 1 + 1) (ho2 : o2.data = .cell none)
    (hgL : (gL, LCg.lst gv) ∈ news) (hrL : (rL, listOf rv.toArray kr) ∈ news) (hceL : (ceL, listOf cev.toArray kc) ∈ news) (hnt : (nt, instObj 134 nd) ∈ news) (hnd : (nd, netD w k1 k2 k3 k4 k5 nv cc tc inL ouL ceL) ∈ news)
    (hrc : (L + 1, o) ∈ news) (hro : o.data = .cell (some (.ref rL))) (hG : IntsAre gv gi) (hR : RowsIn news rv cells) (hcl : (cells.length : Int) = many) (hm1 : many < 13) (hgl : gv.length ≤ 4) (hcv : cev.length ≤ 12)
    (ret : ∀ hA dA dv n m' h' tk' o', Fr h₀ L h' (lm [(Str.ofString "held", .ref hA), (Str.ofString "net", .ref nt), (Str.ofString "given", .ref gL), (Str.ofString "many", .int many tkm), (Str.ofString "pool", .ref pL)] m') → News h₀ L h' ((L + 1 + 1, o') :: (hA, listOf cev.toArray n) :: (dA, listOf dv.toArray 0) :: news) → o'.data = .cell (some (.ref dA)) → IntsAre dv ([0, 1] ++ gi ++ cells.map Cell.out) → 
      (∀ p ∈ news, @LT.lt Nat _ p.1 hA) → (∀ p ∈ news, @LT.lt Nat _ p.1 dA) → @LT.lt Nat _ (L + 1 + 1) hA → @LT.lt Nat _ (L + 1 + 1) dA → @Ne Nat hA dA → Q .next { s with heap := h', toks := tk' }) :
    wpAny (model Challenge.rw_nn0302_01.row.prog w) (lawAt cx w L) (execs (piece w 10 2) (lawEnv cx w L)) Q (fun _ _ => False) s := by
  have hrl := hR.1
  unfold piece lawBody lookBody
  dsimp only [List.drop, List.take]
  k_steps
  refine list_cp (n := kc) (by k_asm) (by k_asm) (by k_mem) (by rw [sizeLine_eq]; omega) ?_
  intro h1 hA c1 F1 N1 hlt1 hL1
  obtain ⟨hL2, hlt1⟩ := hlt1
  k_steps
  refine hold_in ?_
  rename_i v0h v1l v2h v3l v6D v7h v8F v9N v10l
  refine comp_list (k := kr) (fun i ys nw => nw = (v6D, W.listOf ([Value.int 0 _, Value.int 1 _] ++ gv).toArray 0) :: (v1l, W.listOf #[Value.int 0 _, Value.int 1 _] 0) :: (hA, W.listOf cev.toArray c1) :: (L + 1 + 1, o2) :: news ∧ IntsAre ys ((cells.take i).map Cell.out)) (by rfl) (by k_asm) (by k_asm) (by k_mem) (by rw [sizeLine_eq]; omega) ⟨rfl, .nil⟩ ?_ ?_
  · rintro i v ys nw I oI C oC D m₂ h tk E' hv ⟨rfl, hy⟩ hC hx F3 N3 off ne
    have off2 := off
    simp only [LCg.Off3] at off2
    have hi : i < cells.length := by
      have := (List.getElem?_eq_some_iff.mp hv).1
      omega
    obtain ⟨v', hv', a1, la, q1, q2, vs, t1, t2, rfl, ha, hla, hI⟩ := hR.2 i hi
    obtain rfl := Option.some.inj (hv.symm.trans hv')
    k_steps
    refine hold_in ?_
    refine compEnd ((v6D, W.listOf ([Value.int 0 _, Value.int 1 _] ++ gv).toArray 0) :: (v1l, W.listOf #[Value.int 0 _, Value.int 1 _] 0) :: (hA, W.listOf cev.toArray c1) :: (L + 1 + 1, o2) :: news) (by k_asm) (by k_asm) (by k_allIn) off (.inr ⟨_, by k_mem, rfl, _, rfl⟩) ⟨rfl, ?_⟩
    rw [List.take_succ_eq_append_getElem hi, List.map_append]
    exact ints_snoc hy
  · rintro g ys nw ⟨rfl, hy⟩
    have hyl : ys.length ≤ 12 := by rw [hy.length, List.length_map, List.length_take]; omega
    k_steps
    rename_i u1 u2 u3 u4 u5 u6 u7 ul u14 u15 u16 u17 u18
    rw [hrl, List.take_length] at hy
    have hdv : IntsAre (Value.int 0 u1 :: Value.int 1 (u1 + 1) :: gv ++ ys) ([0, 1] ++ gi ++ cells.map Cell.out) := IntsAre.append (.cons 0 u1 (.cons 1 (u1 + 1) hG)) hy
    refine ret hA u6 _ c1 _ _ _ u15 (lmF u16 (by repeat (first | exact List.forall_mem_nil _ | refine List.forall_mem_cons.mpr ⟨rfl, ?_⟩))) (fun p hp => u17 p ?_) u18 hdv (lt_allLt hlt1) (fun p hp => lt_allLt ul p (.tail _ (.tail _ (.tail _ (.tail _ (.tail _ hp)))))) hL2 (lt_all ul (by k_mem)) (Nat.ne_of_lt (lt_all ul (by k_mem)))
    revert p; k_allIn
end
theorem reset_19 : True := by
  w_top off
  trivial
section
theorem count_nodup {l : List Int} : (l.filter fun x => decide (1 < l.count x)) = [] ↔ l.Nodup := by
  rw [List.filter_eq_nil_iff, List.nodup_iff_count]
  constructor
  · intro h a
    by_cases ha : a ∈ l
    · have := h a ha
      simp at this
      omega
    · rw [List.count_eq_zero_of_not_mem ha]; omega
  · intro h a _
    have := h a
    simp
    omega
theorem two_due {h₀ h : Heap} {L : Addr} {m : Str → Option Value} {d : Str} {A B : Option Value} (F : Fr h₀ L h (fun y => if y = d then A else if y = d then B else m y)) : Fr h₀ L h (fun y => if y = d then A else m y) := by
  have e : (fun y => if y = d then A else if y = d then B else m y) = fun y => if y = d then A else m y := by
    funext y
    by_cases h : y = d
    · rw [if_pos h, if_pos h]
    · rw [if_neg h, if_neg h, if_neg h]
  exact e ▸ F
local macro_rules | `(tactic| walk_at "getMethod ref") => `(tactic| (k_here; (with_reducible show wpAny _ _ (getMethod (Value.ref _) (PySem.Str.ofString "count") _) _ _ _); k_dflt (refine' listMethod_K ?N ?m PySem.F.slot_list_count PySem.F.type_list_count ?_; (case N => k_asm); (case m => k_mem))))
local macro_rules | `(tactic| walk_at "call builtin:list.count") => `(tactic| (k_here; (with_reducible show wpAny _ _ (call (Value.builtin _) [Value.ref _, Value.int _ _]) _ _ _); k_dflt (refine' count_list_ints ?l ?i ?_; (case l => exact News.isList (by k_asm) (by k_mem)); (case i => assumption))))
theorem lawD {w : World} {loose : List Str} {mean : ExcName → Option Value} {mg mb : Str → Option Value} {cx : Cx} {A₀ : Around} {base h₀ : Heap} {L : Addr} {m : Str → Option Value} {s : Shared} {Q : Flow → Shared → Prop} {dA : Addr} {dv : List Value} {di : List Int} {o2 : Obj} {news : List (Addr × Obj)}
    (B : Below A₀ base cx.outer h₀) (X : (hd.heap_39 w.params).In h₀) (T : Top hd.view_39 loose mean mg mb h₀) (hdp : cx.dp < 800) (hu : cx.un < 800) (F : Fr h₀ L s.heap m) (N : News h₀ L s.heap news) (ho2 : o2.data = .cell (some (.ref dA))) (h2 : (L + 1 + 1, o2) ∈ news) (hdA : (dA, listOf dv.toArray 0) ∈ news) (hD : IntsAre dv di) (hdl : dv.length ≤ 20)
    (ret : ∀ t h' tk', Fr h₀ L h' (fun y => if y = Str.ofString "due" then some (.str (if di.Nodup then Str.ofString "" else Str.ofString "two_drivers") t) else m y) → News h₀ L h' news → Q .next { s with heap := h', toks := tk' }) :
    wpAny (model Challenge.rw_nn0302_01.row.prog w) (lawAt cx w L) (execs (piece w 12 2) (lawEnv cx w L)) Q (fun _ _ => False) s := by
  unfold piece lawBody lookBody
  dsimp only [List.drop, List.take]
  k_steps
  refine hold_in ?_
  rename_i v1 F1 N1
  have hdl2 := hD.length
  refine compT_list (k := 0) (fun i ys nw => nw = news ∧ IntsAre ys ((di.take i).filter fun x => decide (1 < di.count x))) (by rfl) (by k_asm) (by k_asm) hdA (by rw [sizeLine_eq]; omega) ⟨rfl, .nil⟩ ?_ ?_
  · rintro i v ys nw I oI C oC D m₂ h tk E' hv ⟨rfl, hy⟩ hC hx F3 N3 off ne
    have hi : i < di.length := by
      have := (List.getElem?_eq_some_iff.mp hv).1
      omega
    obtain ⟨tv, rfl⟩ := ints_at hD hi hv
    have e : (di.take (i + 1)).filter (fun x => decide (1 < di.count x)) = (di.take i).filter (fun x => decide (1 < di.count x)) ++ if 1 < di.count di[i] then [di[i]] else [] := by
      rw [List.take_succ_eq_append_getElem hi, List.filter_append]
      by_cases h : 1 < di.count di[i] <;> simp [h]
    rw [e]
    k_steps
    · refine hold_in ?_
      have hc : 1 < di.count di[i] := by omega
      rw [if_pos hc]
      exact compEnd nw (by k_asm) (by k_asm) (by k_allIn) off (.inr ⟨_, hdA, rfl, _, rfl⟩) ⟨rfl, ints_snoc hy⟩
    · refine hold_in ?_
      have hc : ¬ 1 < di.count di[i] := by omega
      rw [if_neg hc, List.append_nil]
      exact compEnd nw (by k_asm) (by k_asm) (by k_allIn) off (.inr ⟨_, hdA, rfl, _, rfl⟩) ⟨rfl, hy⟩
  · rintro g ys nw ⟨rfl, hy⟩
    have hyl : ys.length ≤ 20 := by
      rw [hy.length]; exact Nat.le_trans (List.length_filter_le _ _) (by rw [List.length_take]; omega)
    rw [hdl2, List.take_length] at hy
    have hys := hy.length
    k_steps
    · rename_i hc
      have hn : ¬ di.Nodup := fun h => by
        rw [count_nodup.mpr h] at hys
        rw [List.length_nil] at hys; omega
      simp only [if_neg hn] at ret
      rename Fr _ _ _ _ => FF
      rename News _ _ _ _ => NN
      exact ret _ _ _ (two_due FF) (fun p hp => NN p (.tail _ hp))
    · have hn : di.Nodup := count_nodup.mp (List.eq_nil_of_length_eq_zero (by omega))
      simp only [if_pos hn] at ret
      rename Fr _ _ _ _ => FF
      rename News _ _ _ _ => NN
      exact ret _ _ _ FF (fun p hp => NN p (.tail _ hp))
end
theorem reset_20 : True := by
  w_top off
  trivial
section
section
variable {prog : Program} {w : World} {A : Around} {E : Value → Shared → Prop} {s : Shared} {env : Env} {h₀ : Heap} {target : Expr} {body : List Stmt} {Q : Flow → Shared → Prop}
/-- a loop over a list of one item, whatever its target -/
theorem turns_one {l : Addr} {v₀ : Value} {k : Nat} {m : Str → Option Value} {news : List (Addr × Obj)} (J : (Str → Option Value) → List (Addr × Obj) → Prop)
    (hh : A.handled = none) (hm : (l, listOf [v₀].toArray k) ∈ news) (hl : ∀ m nw, J m nw → (l, listOf [v₀].toArray k) ∈ nw)
    (F : Fr h₀ env.locals s.heap m) (N : News h₀ env.locals s.heap news)
    (turn : ∀ I oI h tk, (∀ p ∈ news, p.1 < I) → Fr h₀ env.locals h m → News h₀ env.locals h ((I, oI) :: news) →
      wpAny (model prog w) A (assign target env v₀) (fun _ s₃ => wpAny (model prog w) A (execs body env) (TEnd h₀ env.locals (I, oI) J { s with heap := h, toks := tk } Q) E s₃) E { s with heap := h, toks := tk })
    (done : ∀ m₁ nw h tk, J m₁ nw → Fr h₀ env.locals h m₁ → News h₀ env.locals h nw → Q .next { s with heap := h, toks := tk }) :
    wpAny (model prog w) A (pyIter (.ref l)) (fun it s₂ => TurnsAt prog w A h₀ env target body Q E it s₂) E s := by
  have hls : s.heap.IsList l [v₀].toArray := ⟨_, (N _ hm).1, rfl, _, rfl⟩
  have hlt : l < s.heap.objs.size := Heap.lt_size (N _ hm).1
  have up : ∀ b o, s.heap.get? b = some o → (s.heap.push { cls := .type "list_iterator", data := .fields #[.ref l, .int 0 0] }).get? b = some o := fun b o e => Heap.get?_push_of_some _ e
  refine wpAny_pyIter_list hls ?_
  refine ⟨s.heap.objs.size, _, _, _, _, _, _, m, news, fun i m' nw => (i = 0 ∧ m' = m ∧ nw = news) ∨ (i = 1 ∧ J m' nw), rfl,
    KTurns.ofWalks (Walks.list hh s.heap.objs.size l (Nat.ne_of_lt hlt) [v₀].toArray) (fun i v s Q E st q => letGo_listiter st.1 q), ?_, ?_, ?_, ?_, F.push _, N.grown up, .inl ⟨rfl, rfl, rfl⟩, ?_, ?_⟩
  · intro hm'
    rcases List.mem_cons.mp hm' with e | hm'
    · exact absurd F.ns.lt (e ▸ Nat.lt_irrefl _)
    · exact (N _ hm).2.1 (List.mem_singleton.mp hm').symm
  · intro b hb
    rw [List.mem_singleton.mp hb]; exact next_is_new F
  · intro p hp hI
    exact absurd (Heap.lt_size (N p hp).1) ((List.mem_singleton.mp hI) ▸ Nat.lt_irrefl _)
  · exact ⟨⟨_, Heap.get?_push_size _ rfl, rfl, rfl⟩, hls.at fun o e => up _ o e⟩
  · intro i v m₁ nw h₁ tk₁ own hi hP hJ hnw hown hown2 hown3 hst F₁ N₁
    have hi0 : i = 0 := by simpa using hi
    subst hi0
    rcases hJ with ⟨-, rfl, rfl⟩ | ⟨e, -⟩
    · have hv : v = v₀ := by
        have : [v₀].toArray[0]? = some v := hP
        simpa using this.symm
      subst hv
      obtain ⟨oI, hoI, _⟩ := hst.1
      have hIn : (s.heap.objs.size, oI) ∈ own := hown3 _ (.head _) (next_is_new F) oI hoI
      have N₂ : News h₀ env.locals h₁ ((s.heap.objs.size, oI) :: nw) := fun p hp => N₁ p (by
        rcases List.mem_cons.mp hp with rfl | hp
        · exact List.mem_append_left _ hIn
        · exact List.mem_append_right _ hp)
      refine wpAny_mono (turn s.heap.objs.size oI h₁ tk₁ (fun p hp => Heap.lt_size (N p hp).1) F₁ N₂) (fun _ s₃ h₃ => wpAny_mono h₃ (fun f s₂ p => ?_) fun _ _ e => e) fun _ _ e => e
      have fin : (∃ h' tk' m' nw', s₂ = ({ s with heap := h', toks := tk' } : Shared) ∧ Fr h₀ env.locals h' m' ∧ News h₀ env.locals h' ((s.heap.objs.size, oI) :: nw') ∧ (∀ p ∈ nw', p.1 ≠ s.heap.objs.size) ∧ J m' nw') →
          LoopStepU h₀ env.locals [s.heap.objs.size] own (fun m' nw' => (0 + 1 = 0 ∧ m' = m₁ ∧ nw' = nw) ∨ (0 + 1 = 1 ∧ J m' nw')) { s with heap := h₁, toks := tk₁ } .next s₂ := by
        rintro ⟨h', tk', m', nw', rfl, F', N', ho, hj⟩
        refine ⟨rfl, h', tk', m', nw', rfl, F', fun p hp => ?_, fun p hp hm => ho p hp (List.mem_singleton.mp hm), .inr ⟨rfl, hj⟩⟩
        rcases List.mem_append.mp hp with hp | hp
        · refine N' p ?_
          have hg := hown2 p hp
          rcases List.mem_cons.mp (hown p hp) with hpI | hpl
          · have : p.2 = oI := by
              rw [hpI, hoI] at hg
              exact (Option.some.inj hg).symm
            have e : p = (s.heap.objs.size, oI) := by rw [← hpI, ← this]
            rw [e]; exact .head _
          · have hpl' := List.mem_singleton.mp hpl
            have hb := (N₁ (l, listOf [v].toArray k) (List.mem_append_right _ hm)).1
            have : p.2 = listOf [v].toArray k := by
              rw [hpl', show h₁.get? l = some (listOf [v].toArray k) from hb] at hg
              exact (Option.some.inj hg).symm
            have e : p = (l, listOf [v].toArray k) := by rw [← hpl', ← this]
            rw [e]
            exact .tail _ (hl m' nw' hj)
        · exact N' p (.tail _ hp)
      cases f with
      | ret v => exact .ret p
      | brk => exact .brk p
      | next => exact .next (fin p)
      | cont => exact .cont (fin p)
    · cases e
  · intro h' tk m' nw' F' N' _ hJ
    rcases hJ with ⟨e, -⟩ | ⟨-, hj⟩
    · cases e
    · exact done m' nw' h' tk hj F' N'
end
end
theorem reset_21 : True := by
  w_top off
  trivial
section
/-- the first i cells' nets, each with its cell's number -/
noncomputable def DrvAre (kvs : List (Int × Value)) (cells : List Cell) (i : Nat) : Prop :=
  keys kvs = (cells.take i).map (·.out) ∧ ∀ j (hc : j < cells.length), j < i → ∃ t, kvs[j]? = some (cells[j].out, .int (j : Int) t)
theorem nodup_mid {α : Type} {a b c : List α} {x : α} {n : Nat} (hx : b[n]? = some x) (h : x ∈ a ++ b.take n) : ¬ (a ++ b ++ c).Nodup := by
  intro hn
  have hn' := (List.nodup_append.mp hn).1
  obtain ⟨h1, h2, h3⟩ := List.nodup_append.mp hn'
  have hb : b = b.take n ++ b.drop n := (List.take_append_drop n b).symm
  have hd : x ∈ b.drop n := by
    rw [List.mem_iff_getElem?]
    exact ⟨0, by rw [List.getElem?_drop]; simpa using hx⟩
  rcases List.mem_append.mp h with h | h
  · exact h3 x h x (List.mem_of_getElem? hx) rfl
  · rw [hb] at h2
    exact (List.nodup_append.mp h2).2.2 x h x hd rfl
inductive JD1 (w : World) (news : List (Addr × Obj)) (nt tA : Addr) (pre : List (Addr × Obj)) (ks : List Int) (m₁ : Str → Option Value) (nw : List (Addr × Obj)) : Prop
  | mk (m' : Str → Option Value) (o : Obj) (kvs : List (Int × Value)) (h1 : m₁ = lm [(Str.ofString "netlist", .ref nt), (Str.ofString "taken", .ref tA)] m') (h2 : nw = pre ++ (tA, o) :: news)
    (h3 : o.IsDictOf (PySem.intKind Challenge.rw_nn0302_01.row.prog w) kvs) (h4 : keys kvs = ks)
inductive JD2 (w : World) (news : List (Addr × Obj)) (nt tA fA : Addr) (given : List Int) (cells : List Cell) (i : Nat) (m₁ : Str → Option Value) (nw : List (Addr × Obj)) : Prop
  | mk (m' : Str → Option Value) (o : Obj) (kvs : List (Int × Value)) (o2 : Obj) (kvs2 : List (Int × Value)) (h1 : m₁ = lm [(Str.ofString "netlist", .ref nt), (Str.ofString "taken", .ref tA), (Str.ofString "found", .ref fA)] m') (h2 : nw = (fA, o2) :: (tA, o) :: news)
    (h3 : o.IsDictOf (PySem.intKind Challenge.rw_nn0302_01.row.prog w) kvs) (h4 : keys kvs = [0, 1] ++ given ++ (cells.map Cell.out).take i) (h5 : o2.IsDictOf (PySem.intKind Challenge.rw_nn0302_01.row.prog w) kvs2) (h6 : DrvAre kvs2 cells i)
theorem drivers {w : World} {loose : List Str} {mean : ExcName → Option Value} {mg mb : Str → Option Value} {dp un : Nat} {gd : Option (List Code)} {cn : Str} {cs : Scope} {a : Addr} {ccd : Value} {cl : List (Str × Addr)} {outer : List Env} {A₀ : Around} {base h₀ : Heap} {L : Addr} {m : Str → Option Value} {news : List (Addr × Obj)} {s : Shared} {Q E : Value → Shared → Prop} {nt nd inL outL ceL tI gl2 : Addr} {k1 k2 k3 k4 k5 tc ta : Tok} {nv : Value} {c : Int} {cv gv : List Value} {n1 n2 n3 n4 : Nat} {given : List Int} {cells : List Cell} (B : Below A₀ base outer h₀) (F : Fr h₀ L s.heap m) (X : (hd.heap_39 w.params).In h₀) (N : News h₀ L s.heap news) (T : Top hd.view_39 loose mean mg mb h₀) (hk : cs.kind = .function) (hdp : dp < 900) (hu : un < 900)
    (hnt : (nt, instObj 134 nd) ∈ news) (hnd : (nd, netD w k1 k2 k3 k4 k5 nv c tc inL outL ceL) ∈ news) (hce : (ceL, listOf cv.toArray n1) ∈ news) (hin : (inL, listOf [Value.ref tI].toArray n2) ∈ news)
    (hti : (tI, tupObj [.str (Str.ofString "a") ta, .ref gl2] n3) ∈ news) (hgl : (gl2, listOf gv.toArray n4) ∈ news) (hg : IntsAre gv given) (hgn : given.length ≤ 12)
    (hC : CellsIn news cv cells) (hlen : cells.length ≤ 12) (hgb : ∀ x ∈ given, 0 ≤ x ∧ x < 100) (hcb : ∀ x ∈ cells, 0 ≤ x.out ∧ x.out < 100)
    (ret : ([0, 1] ++ given ++ cells.map Cell.out : List Int).Nodup → ∀ D o kvs h' tk', Fr h₀ L h' m → News h₀ L h' ((D, o) :: news) → o.IsDictOf (PySem.intKind Challenge.rw_nn0302_01.row.prog w) kvs → DrvAre kvs cells cells.length → (∀ p ∈ news, p.1 < D) → (D == sysModules) = false → Q (.ref D) { s with heap := h', toks := tk' })
    (err : ¬ ([0, 1] ++ given ++ cells.map Cell.out : List Int).Nodup → SynthUp base h₀ L m (envX cn cs L a ccd cl :: outer) (Str.ofString "two_drivers") news E s) :
    wpAny (model Challenge.rw_nn0302_01.row.prog w) (ktrTop dp un gd cn cs L a ccd cl outer) (call (.ref 152) [.ref nt]) Q E s := by
  obtain ⟨hcv, hC⟩ := hC
  have hgv := hg.length
  refine wpAny_call ?_
  k_dflt k_enter
  k_steps
  refine hold_in ?_
  rename_i g1 L1 h1 FG1 B1 X1 T1 h2 o2 lo2 hd2 a7 h3 F2 N2
  generalize h1.objs.size = tA at *
  refine turns_one (JD1 w news nt tA [] ([0, 1] ++ given)) (by rfl) (by k_mem) (by rintro m nw ⟨m', o, kvs, -, rfl, -, -⟩; k_mem) F2 N2 ?_ ?_
  · intro I oI h tk hI F3 N3
    have hIt := hI (tA, o2) (.head _)
    have hI0 := hI
    replace hI := allLt_of hI
    k_steps
    refine hold_in ?_
    refine loop_list (l := gl2) (vs := gv) (k := n4) (fun i => JD1 w news nt tA [(I, oI)] ([0, 1] ++ given.take i)) (by rfl) (by rintro i m nw ⟨m', o, kvs, -, rfl, -, -⟩; k_mem) (by k_asm) (by k_asm) ⟨_, _, _, (lm_eq (by repeat (first | exact List.forall_mem_nil _ | refine List.forall_mem_cons.mpr ⟨rfl, ?_⟩))).symm, rfl, hd2, by simp; rfl⟩ ?_ ?_
    · rintro i v m₁ nw I2 oI2 h tk hv ⟨m', o, kvs, rfl, rfl, hD, hkeys⟩ off F3 N3
      refine hideQ fun RR hQQ => ?_
      have hi : i < given.length := by rw [← hgv]; exact (List.getElem?_eq_some_iff.mp hv).1
      obtain ⟨t2, rfl⟩ := ints_at hg hi hv
      obtain ⟨hb0, hb1⟩ := hgb _ (List.getElem_mem hi)
      have hkl := congrArg List.length hkeys
      simp only [keys, List.length_map, List.length_append, List.length_cons, List.length_nil, List.length_take] at hkl
      have hI2 : @Ne Nat tA I2 := off (tA, o) (.tail _ (.head _))
      k_steps
      · rename (PySem.valueAt _ _).isSome = true => hin'
        rename getL _ _ = some (some _) => hge
        rw [valueAt_isSome, hkeys] at hin'
        exact raise_up B1 FG1 (by k_asm) (by k_asm) (fun p hp => by repeat (first | exact hp | apply List.mem_cons_of_mem)) (by assumption) (by assumption) hge (err (nodup_mid (List.getElem?_eq_getElem hi) (of_decide_eq_true hin'))) rfl
      · rename (PySem.valueAt _ _).isSome = false => hin'
        rename Obj.IsDictOf _ _ (PySem.stored _ _ _) => hD2
        subst hQQ
        rw [valueAt_isSome, hkeys] at hin'
        refine TEnd.next (by k_asm) (by k_asm) (nw := (I, oI) :: (tA, _) :: news) (by k_allIn) (by refine off_fst ?_ off; rfl) ⟨_, _, _, (lm_eq (by repeat (first | exact List.forall_mem_nil _ | refine List.forall_mem_cons.mpr ⟨rfl, ?_⟩))).symm, rfl, hD2, ?_⟩
        rw [keys_stored_new _ (by rw [hkeys]; exact of_decide_eq_false hin'), hkeys, List.take_succ_eq_append_getElem hi, List.append_assoc]
    · rintro m₁ nw h tk ⟨m', o, kvs, rfl, rfl, hD, hkeys⟩ F3 N3
      k_steps
      refine hold_in ?_
      refine TEnd.next (by k_asm) (by k_asm) (nw := (tA, o) :: news) (by k_allIn) (off_fst (l := (tA, o2) :: news) rfl (fun p hp => Nat.ne_of_lt (hI0 p hp))) ⟨_, _, _, (lm_eq (by repeat (first | exact List.forall_mem_nil _ | refine List.forall_mem_cons.mpr ⟨rfl, ?_⟩))).symm, rfl, hD, ?_⟩
      rw [hkeys, hgv, List.take_length]
  · rintro m₁ nw h tk ⟨m', o, kvs, rfl, rfl, hD, hkeys⟩ F3 N3
    k_steps
    refine hold_in ?_
    rename_i fA h4 o4 F4 N4 lo4 _ _ hD4 _ b8 h5 F5 N5 tk5 h6 tk6 t1 u1 v1 hr F6 N6 K6
    refine loop_range (n := cells.length) (JD2 w news nt tA fA given cells)
      (by rfl) hr (range_small (by omega) (by omega)) (range_size (by omega)) F6 N6 ⟨_, _, _, _, [], (lm_eq (by repeat (first | exact List.forall_mem_nil _ | refine List.forall_mem_cons.mpr ⟨rfl, ?_⟩))).symm, rfl, hD, by rw [hkeys]; simp, hD4, ⟨by simp [keys], fun j _ h => absurd h (Nat.not_lt_zero _)⟩⟩ ?_ ?_
    · rintro i ti m₁ nw I oI h tk hi ⟨m', o, kvs, o2, kvs2, rfl, rfl, hD, hkeys, hE, hE1, hE2⟩ off F3 N3
      refine hideQ fun RR hQQ => ?_
      obtain ⟨v, hv, a', ta', m2, m3, pv, ws, t1, t2, rfl, ha, hta, hws⟩ := hC i hi
      have hv' : cv[(0 + (i : Int)).toNat]? = some (.ref a') := by simpa using hv
      obtain ⟨hb0, hb1⟩ := hcb _ (List.getElem_mem hi)
      have hkl := congrArg List.length hkeys
      simp only [keys, List.length_map, List.length_append, List.length_cons, List.length_nil, List.length_take] at hkl
      have hkl2 := congrArg List.length hE1
      simp only [keys, List.length_map, List.length_take] at hkl2
      have hI1 : @Ne Nat fA I := off (fA, o2) (.head _)
      have hI2 : @Ne Nat tA I := off (tA, o) (.tail _ (.head _))
      have hx : (cells.map Cell.out)[i]? = some cells[i].out := by rw [List.getElem?_map, List.getElem?_eq_getElem hi]; rfl
      have hts : (cells.map Cell.out).take (i + 1) = (cells.map Cell.out).take i ++ [cells[i].out] := by
        rw [List.take_succ, hx]; rfl
      k_steps
      · rename (PySem.valueAt _ _).isSome = true => hin'
        rename getL _ _ = some (some _) => hge
        rw [valueAt_isSome, hkeys] at hin'
        exact raise_up B1 FG1 (by k_asm) (by k_asm) (fun p hp => by repeat (first | exact hp | apply List.mem_cons_of_mem)) (by assumption) (by assumption) hge (err fun hn => nodup_mid (c := []) hx (of_decide_eq_true hin') (by rw [List.append_nil]; exact hn)) rfl
      · rename (PySem.valueAt _ _).isSome = false => hin'
        rename Obj.IsDictOf _ _ (PySem.stored kvs _ _) => hD2
        rename Obj.IsDictOf _ _ (PySem.stored kvs2 _ _) => hE3
        subst hQQ
        rw [valueAt_isSome, hkeys] at hin'
        have hni := of_decide_eq_false hin'
        have hni2 : cells[i].out ∉ keys kvs2 := by
          rw [hE1, List.map_take]
          exact fun h => hni (List.mem_append_right _ h)
        refine TEnd.next (by k_asm) (by k_asm) (nw := (fA, _) :: (tA, _) :: news) (by k_allIn) (by refine off_fst ?_ off; rfl) ⟨_, _, _, _, _, (lm_eq (by repeat (first | exact List.forall_mem_nil _ | refine List.forall_mem_cons.mpr ⟨rfl, ?_⟩))).symm, rfl, hD2, ?_, hE3, ?_, ?_⟩
        · rw [keys_stored_new _ (by rw [hkeys]; exact hni), hkeys, hts, List.append_assoc]
        · rw [keys_stored_new _ hni2, hE1, List.map_take, List.map_take, hts]
        · intro j hc hj
          rw [stored_new _ hni2]
          rcases Nat.lt_succ_iff_lt_or_eq.mp hj with hj | rfl
          · obtain ⟨t, ht⟩ := hE2 j hc hj
            exact ⟨t, by rw [List.getElem?_append_left (by have := (List.getElem?_eq_some_iff.mp ht).1; exact this)]; exact ht⟩
          · refine ⟨ti, ?_⟩
            rw [List.getElem?_append_right (by omega), show j - kvs2.length = 0 by omega]
            simp
    · rintro m₁ nw h tk ⟨m', o, kvs, o2, kvs2, rfl, rfl, hD, hkeys, hE, hE2⟩ F3 N3
      k_steps
      rename_i kF kN _ _
      have hn : (keys kvs).Nodup := isDict_nodup hD
      rw [hkeys, List.take_of_length_le (by simp)] at hn
      exact ret hn _ _ _ _ _ kF (fun p hp => kN p (by revert p; k_allIn)) hE hE2 (fun p hp => lt_allLt b8 p (.tail _ hp)) lo4
end
theorem reset_22 : True := by
  w_top off
  trivial
section
/-- what a turn of a while owes -/
noncomputable def WEnd (h₀ : Heap) (L : Addr) (J : Nat → (Str → Option Value) → List (Addr × Obj) → Prop) (k : Nat) (s : Shared) (Q : Flow → Shared → Prop) (f : Flow) (s₂ : Shared) : Prop :=
  match f with
  | .ret v => Q (.ret v) s₂
  | .brk => Q .next s₂
  | _ => ∃ k' h' tk m' nw, k' < k ∧ s₂ = { s with heap := h', toks := tk } ∧ Fr h₀ L h' m' ∧ News h₀ L h' nw ∧ J k' m' nw
theorem WEnd.next {h₀ : Heap} {L : Addr} {J : Nat → (Str → Option Value) → List (Addr × Obj) → Prop} {k : Nat} {s : Shared} {Q : Flow → Shared → Prop} {h' : Heap} {tk : Nat} {m' : Str → Option Value} {all nw : List (Addr × Obj)} (k' : Nat) (hk : k' < k)
    (F : Fr h₀ L h' m') (N : News h₀ L h' all) (sub : ∀ p ∈ nw, p ∈ all) (hj : J k' m' nw) : WEnd h₀ L J k s Q .next { s with heap := h', toks := tk } := ⟨k', h', tk, m', nw, hk, rfl, F, fun p hp => N p (sub p hp), hj⟩
section
variable {prog : Program} {w : World} {A : Around} {E : Value → Shared → Prop} {s : Shared} {env : Env} {h₀ : Heap} {test : PySem.Expr} {body : List Stmt} {pos : Pos} {Q : Flow → Shared → Prop}
theorem while_inv {k : Nat} {m : Str → Option Value} {news : List (Addr × Obj)} (J : Nat → (Str → Option Value) → List (Addr × Obj) → Prop) (hE : PassesOwn (model prog w) A env E)
    (F : Fr h₀ env.locals s.heap m) (N : News h₀ env.locals s.heap news) (h0 : J k m news)
    (turn : ∀ k m nw h tk, J k m nw → Fr h₀ env.locals h m → News h₀ env.locals h nw →
      wpAny (model prog w) A (isTrue test env (eval test env)) (fun b s₂ => if b = true then wpAny (model prog w) A (execs body env) (WEnd h₀ env.locals J k s Q) E s₂ else Q .next s₂) E { s with heap := h, toks := tk }) :
    wpAny (model prog w) A (exec (.While test body [] pos) env) Q E s := by
  have key : ∀ (k : Nat) (m : Str → Option Value) (nw : List (Addr × Obj)) (h : Heap) (tk : Nat), J k m nw → Fr h₀ env.locals h m → News h₀ env.locals h nw → WhlRest prog w A E env test body [] Q 1 { s with heap := h, toks := tk } := by
    intro k
    induction k using Nat.strongRecOn with
    | ind k ih =>
      intro m nw h tk hj F N
      refine whl_turn (k := 0) hE (wpAny_mono (turn k m nw h tk hj F N) (fun b s₂ hb => ?_) fun _ _ e => e)
      cases b with
      | false => exact WhlIf.no rfl (wpAny_execs_nil hb)
      | true =>
        refine WhlIf.yes rfl (wpAny_mono hb (fun f s₃ hf => ?_) fun _ _ e => e)
        have go : (∃ k' h' tk m' nw, k' < k ∧ s₃ = ({ s with heap := h', toks := tk } : Shared) ∧ Fr h₀ env.locals h' m' ∧ News h₀ env.locals h' nw ∧ J k' m' nw) → WhlRest prog w A E env test body [] Q 0 s₃ := by
          rintro ⟨k', h', tk', m', nw', hk, rfl, F', N', hj'⟩
          exact ih k' hk m' nw' h' tk' hj' F' N'
        cases f with
        | ret v => exact hf
        | brk => exact hf
        | next => exact go hf
        | cont => exact go hf
  exact whl_start 1 (key k m news s.heap s.toks h0 F N)
end
theorem valueAt_stored_self {K : Type} [DecidableEq K] (kvs : List (K × Value)) (k : K) (v : Value) : PySem.valueAt (PySem.stored kvs k v) k = some v := by
  unfold PySem.valueAt PySem.stored
  split
  · rename_i h
    rw [List.any_eq_true] at h
    induction kvs with
    | nil => obtain ⟨_, h, _⟩ := h; exact absurd h List.not_mem_nil
    | cons p r ih =>
      by_cases e : p.1 = k
      · simp [List.find?_cons, e]
      · obtain ⟨q, hq, hk⟩ := h
        rcases List.mem_cons.mp hq with rfl | hq
        · exact absurd (by simpa using hk) e
        · simp only [List.map_cons, List.find?_cons, e, if_false, decide_false]
          exact ih ⟨q, hq, hk⟩
  · rename_i h
    have hn : kvs.find? (fun kv => decide (kv.1 = k)) = none := by
      rw [List.find?_eq_none]
      intro p hp hk
      exact h (List.any_eq_true.mpr ⟨p, hp, hk⟩)
    rw [List.find?_append, hn]
    simp
theorem valueAt_stored_ne {K : Type} [DecidableEq K] (kvs : List (K × Value)) {k k' : K} (v : Value) (hne : k' ≠ k) : PySem.valueAt (PySem.stored kvs k v) k' = PySem.valueAt kvs k' := by
  unfold PySem.valueAt PySem.stored
  split
  · rename_i h
    clear h
    induction kvs with
    | nil => rfl
    | cons p r ih =>
      by_cases e : p.1 = k
      · have e' : ¬ p.1 = k' := fun h => hne (h ▸ e)
        have e2 : ¬ k = k' := fun h => hne h.symm
        simp only [List.map_cons, List.find?_cons, e, if_true, decide_false, e2]
        exact ih
      · by_cases e' : p.1 = k'
        · simp [List.find?_cons, e', hne]
        · simp only [List.map_cons, List.find?_cons, e, if_false, e', decide_false]
          exact ih
  · have e2 : ¬ k = k' := fun h => hne h.symm
    rw [List.find?_append]
    cases hf : kvs.find? (fun kv => decide (kv.1 = k')) with
    | some p => rfl
    | none => simp [List.find?_cons, e2]
theorem getItem_led {prog : Program} {w : World} {A : Around} {E : Value → Shared → Prop} {s : Shared} {h₀ : Heap} {L d : Addr} {news : List (Addr × Obj)} {o : Obj} {kvs : List (Int × Value)} {k : Int} {t : Tok} {v : Value} {Q : Value → Shared → Prop} (N : News h₀ L s.heap news) (hp : (d, o) ∈ news)
    (hd : o.IsDictOf (PySem.intKind prog w) kvs) (hl : PySem.valueAt kvs k = some v) (h : Q v { s with toks := s.toks + 1 }) : wpAny (model prog w) A (getItem (.ref d) (.int k t)) Q E s :=
  PySem.wpAny_getItem_of (intKind_is _ _ _ _) (kda_dict N hp hd).mapOf hl h
end
local macro_rules | `(tactic| walk_at "getMethod ref") => `(tactic| (k_here; (with_reducible show wpAny _ _ (getMethod (Value.ref _) (Str.ofString "get") _) _ _ _); k_dflt (first
  | (refine' kdg_method (knd := PySem.intKind _ _) ?N ?hp ?hd ?_; (case N => k_asm); (case hp => k_mem); (case hd => with_reducible assumption))
  | (refine' kdg_method (knd := PySem.strKind _ _) ?N ?hp ?hd ?_; (case N => k_asm); (case hp => k_mem); (case hd => with_reducible assumption)))))
local macro_rules | `(tactic| walk_at "call builtin:dict.get") => `(tactic| (k_here; k_dflt (first
  | (refine' kdg_get2 (knd := PySem.intKind _ _) ?N ?hp ?hd ?lo ?hk _ ?hl ?_; (case N => k_asm); (case hp => k_mem); (case hd => with_reducible assumption); (case lo => with_reducible assumption); (case hk => exact intKind_is _ _ _ _); (case hl => with_reducible assumption); (try dsimp only [Option.getD]))
  | (refine' kdg_get2 (knd := PySem.strKind _ _) ?N ?hp ?hd ?lo ?hk _ ?hl ?_; (case N => k_asm); (case hp => k_mem); (case hd => with_reducible assumption); (case lo => with_reducible assumption); (case hk => exact strKind_is _ _ _ _); (case hl => with_reducible assumption); (try dsimp only [Option.getD]))
  | (refine' kdg_get1 (knd := PySem.strKind _ _) ?N ?hp ?hd ?lo ?hk _ ?hl ?_; (case N => k_asm); (case hp => k_mem); (case hd => with_reducible assumption); (case lo => with_reducible assumption); (case hk => exact strKind_is _ _ _ _); (case hl => with_reducible assumption); (try dsimp only [Option.getD])))))
local macro_rules | `(tactic| walk_at "compareOp NotIn int ref") => `(tactic| (k_here; k_dflt (refine' kdg_notin (knd := PySem.intKind _ _) ?N ?hp ?hd ?lo ?hk _ ?hb ?_; (case N => k_asm); (case hp => k_mem); (case hd => with_reducible assumption); (case lo => with_reducible assumption); (case hk => exact intKind_is _ _ _ _); (case hb => with_reducible assumption); (try dsimp only [Bool.not_true, Bool.not_false]))))
local macro_rules | `(tactic| walk_at "subscriptTail") => `(tactic| (k_here; (with_reducible show wpAny _ _ (subscriptTail _ _ (Value.ref _) (Value.int _ _)) _ _ _); k_dflt (refine' kda_item (knd := PySem.intKind _ _) ?N ?hp ?hd ?hk ?hl ?_ ?hs ?hg; (case N => k_asm); (case hp => k_mem); (case hd => with_reducible assumption); (case hk => exact intKind_is _ _ _ _); (case hl => first | with_reducible assumption | exact valueAt_stored_self _ _ _); (case hs => with_unfolding_all rfl); (case hg => (intro _; with_unfolding_all rfl)))))
local macro_rules | `(tactic| walk_at "getItem ref int") => `(tactic| (k_here; k_dflt (refine' getItem_led ?N ?hp ?hd ?hl ?_; (case N => k_asm); (case hp => k_mem); (case hd => with_reducible assumption); (case hl => first | with_reducible assumption | exact valueAt_stored_self _ _ _))))
local macro_rules | `(tactic| walk_at "exec While Compare cons nil") => `(tactic| (refine hold_of ?_))
theorem reset_23 : True := by
  w_top off
  trivial
section
noncomputable def gateAt (cells : List Cell) (j : Nat) : Bool := (cells[j]?).any fun c => !isState c.kind
/-- the cell that drives the net x -/
noncomputable def drv (cells : List Cell) (x : Int) : Option Nat := (List.range cells.length).find? fun j => (cells[j]?).any fun c => c.out == x
/-- the combinational cells that drive the nets xs -/
noncomputable def predsL (cells : List Cell) (xs : List Int) : List Nat := xs.filterMap fun x => (drv cells x).filter (gateAt cells)
noncomputable def insAt (cells : List Cell) (g : Nat) : List Int := match cells[g]? with | some c => c.ins | none => []
noncomputable def preds (cells : List Cell) (g : Nat) : List Nat := predsL cells (insAt cells g)
theorem gateAt_lt {cells : List Cell} {g : Nat} (h : gateAt cells g = true) : g < cells.length := by
  unfold gateAt at h
  cases hc : cells[g]? with
  | none => rw [hc] at h; cases h
  | some c => exact (List.getElem?_eq_some_iff.mp hc).1
structure Kahn (cells : List Cell) (t : Nat) (r : List Nat) (W : Nat → Int) : Prop where
  nodup : r.Nodup
  gate : ∀ x ∈ r, gateAt cells x = true
  wait : ∀ g, gateAt cells g = true → W g = (((preds cells g).filter fun p => decide (p ∉ r.take t)).length : Int)
  rdy : ∀ g, gateAt cells g = true → (g ∈ r ↔ W g = 0)
  ord : ∀ (i : Nat) x, r[i]? = some x → ∀ p ∈ preds cells x, p ∈ r.take i
  le : t ≤ r.length
structure KahnIn (cells : List Cell) (t x : Nat) (r d : List Nat) (W : Nat → Int) : Prop where
  nodup : r.Nodup
  gate : ∀ x ∈ r, gateAt cells x = true
  wait : ∀ g, gateAt cells g = true → W g = (((preds cells g).filter fun p => decide (p ∉ r.take t)).length : Int) - (d.count g : Int)
  rdy : ∀ g, gateAt cells g = true → (g ∈ r ↔ W g = 0)
  ord : ∀ (i : Nat) x, r[i]? = some x → ∀ p ∈ preds cells x, p ∈ r.take i
  at_ : r[t]? = some x
  bound : ∀ g, gateAt cells g = true → d.count g ≤ (preds cells g).count x
theorem Kahn.start {cells : List Cell} {t x : Nat} {r : List Nat} {W : Nat → Int} (h : Kahn cells t r W) (hx : r[t]? = some x) : KahnIn cells t x r [] W :=
  ⟨h.nodup, h.gate, fun g hg => by rw [h.wait g hg]; simp, h.rdy, h.ord, hx, fun g _ => by simp⟩
theorem not_before {r : List Nat} {t x : Nat} (hn : r.Nodup) (hx : r[t]? = some x) : x ∉ r.take t := by
  intro hm
  obtain ⟨i, hi⟩ := List.mem_iff_getElem?.mp hm
  have hlt : i < t := by
    have := (List.getElem?_eq_some_iff.mp hi).1
    rw [List.length_take] at this
    omega
  rw [List.getElem?_take_of_lt hlt] at hi
  have h1 := (List.getElem?_eq_some_iff.mp hi).1
  have := (List.getElem?_inj h1 hn).mp (hi.trans hx.symm)
  omega
theorem count_le_filter {l r : List Nat} {x t : Nat} (hx : x ∉ r.take t) : l.count x ≤ (l.filter fun p => decide (p ∉ r.take t)).length := by
  have : l.count x = (l.filter fun p => decide (p ∉ r.take t)).count x := by
    rw [List.count_filter (by simpa using hx)]
  rw [this]
  exact List.count_le_length
theorem filter_succ {l r : List Nat} {x t : Nat} (hx : r[t]? = some x) (hn : x ∉ r.take t) :
    (l.filter fun p => decide (p ∉ r.take t)).length = (l.filter fun p => decide (p ∉ r.take (t + 1))).length + l.count x := by
  have ht : r.take (t + 1) = r.take t ++ [x] := by rw [List.take_succ, hx]; rfl
  induction l with
  | nil => simp
  | cons a l ih =>
    rw [List.filter_cons, List.filter_cons, List.count_cons]
    by_cases ha : a = x
    · subst ha
      have h1 : a ∈ r.take (t + 1) := by rw [ht]; simp
      simp only [hn, h1, not_false_eq_true, decide_true, not_true_eq_false, decide_false, if_true, Bool.false_eq_true, if_false, List.length_cons, beq_self_eq_true]
      omega
    · have h1 : (a ∈ r.take (t + 1)) ↔ a ∈ r.take t := by rw [ht]; simp [ha]
      have hb : (a == x) = false := by simpa using ha
      by_cases h2 : a ∈ r.take t
      · simp only [h2, h1.mpr h2, not_true_eq_false, decide_false, Bool.false_eq_true, if_false, hb, Nat.add_zero]
        exact ih
      · have h3 : a ∉ r.take (t + 1) := fun h => h2 (h1.mp h)
        simp only [h2, h3, not_false_eq_true, decide_true, if_true, hb, List.length_cons, Bool.false_eq_true, if_false, Nat.add_zero]
        omega
theorem KahnIn.done {cells : List Cell} {t x : Nat} {r d : List Nat} {W : Nat → Int} (h : KahnIn cells t x r d W) (hd : ∀ g, gateAt cells g = true → d.count g = (preds cells g).count x) : Kahn cells (t + 1) r W := by
  have hb := not_before h.nodup h.at_
  refine ⟨h.nodup, h.gate, fun g hg => ?_, h.rdy, h.ord, (List.getElem?_eq_some_iff.mp h.at_).1⟩
  rw [h.wait g hg, hd g hg, filter_succ h.at_ hb]
  omega
theorem KahnIn.step {cells : List Cell} {t x g : Nat} {r d : List Nat} {W : Nat → Int} (h : KahnIn cells t x r d W) (hg : gateAt cells g = true) (hd : d.count g + 1 ≤ (preds cells g).count x) :
    KahnIn cells t x (if W g - 1 = 0 then r ++ [g] else r) (d ++ [g]) (fun k => if k = g then W g - 1 else W k) := by
  have hb := not_before h.nodup h.at_
  have hlt := (List.getElem?_eq_some_iff.mp h.at_).1
  have hcf := count_le_filter (l := preds cells g) hb
  have hw := h.wait g hg
  have hpos : 1 ≤ W g := by omega
  have hnr : g ∉ r := fun hm => by have := (h.rdy g hg).mp hm; omega
  have htk : ∀ k, k ≤ r.length → (r ++ [g]).take k = r.take k := fun k hk => List.take_append_of_le_length hk
  have tk2 : (if W g - 1 = 0 then r ++ [g] else r).take t = r.take t := by
    split
    · exact htk t (by omega)
    · rfl
  refine ⟨?_, ?_, fun k hk => ?_, fun k hk => ?_, fun i y hy p hp => ?_, ?_, fun k hk => ?_⟩
  · split
    · rw [List.nodup_append]
      exact ⟨h.nodup, by simp, fun a ha b hb => by rw [List.mem_singleton.mp hb]; exact fun e => hnr (e ▸ ha)⟩
    · exact h.nodup
  · intro y hy
    split at hy
    · rcases List.mem_append.mp hy with hy | hy
      · exact h.gate y hy
      · rw [List.mem_singleton.mp hy]; exact hg
    · exact h.gate y hy
  · rw [tk2, List.count_append]
    by_cases e : k = g
    · subst e
      rw [if_pos rfl, hw]
      simp
      omega
    · have e' : ([g] : List Nat).count k = 0 := by
        rw [List.count_eq_zero]; simpa using e
      rw [if_neg e, e', h.wait k hk]
      simp
  · by_cases e : k = g
    · subst e
      rw [if_pos rfl]
      by_cases h0 : W k - 1 = 0
      · rw [if_pos h0]; simp [h0]
      · rw [if_neg h0]
        exact ⟨fun hm => absurd hm hnr, fun hz => absurd hz h0⟩
    · rw [if_neg e]
      split
      · rw [List.mem_append, List.mem_singleton]
        rw [← h.rdy k hk]
        exact ⟨fun hm => hm.elim id fun q => absurd q e, .inl⟩
      · exact h.rdy k hk
  · split at hy
    · rename_i h0
      rw [if_pos h0]
      by_cases hi : i < r.length
      · rw [List.getElem?_append_left hi] at hy
        rw [htk i (by omega)]
        exact h.ord i y hy p hp
      · have hil : i = r.length := by
          have := (List.getElem?_eq_some_iff.mp hy).1
          rw [List.length_append, List.length_singleton] at this
          omega
        subst hil
        rw [List.getElem?_append_right (Nat.le_refl _), Nat.sub_self] at hy
        have : g = y := by simpa using hy
        subst this
        rw [htk _ (Nat.le_refl _), List.take_length]
        have hall : ((preds cells g).filter fun p => decide (p ∉ r.take (t + 1))).length = 0 := by
          have := filter_succ (l := preds cells g) h.at_ hb
          omega
        have hmem : p ∈ r.take (t + 1) := by
          have hnil := List.length_eq_zero_iff.mp hall
          by_cases hq : p ∈ r.take (t + 1)
          · exact hq
          · have : p ∈ (preds cells g).filter fun p => decide (p ∉ r.take (t + 1)) := List.mem_filter.mpr ⟨hp, by simpa using hq⟩
            rw [hnil] at this
            cases this
        exact List.mem_of_mem_take hmem
    · rename_i h0
      rw [if_neg h0]
      exact h.ord i y hy p hp
  · split
    · rw [List.getElem?_append_left hlt]; exact h.at_
    · exact h.at_
  · rw [List.count_append]
    by_cases e : k = g
    · subst e; simp; omega
    · have e' : ([g] : List Nat).count k = 0 := by
        rw [List.count_eq_zero]; simpa using e
      rw [e']
      exact h.bound k hk
end
theorem reset_24 : True := by
  w_top off
  trivial
section
/-- the order that comb_order promises -/
structure Ord (cells : List Cell) (r : List Nat) : Prop where
  nodup : r.Nodup
  gate : ∀ x ∈ r, gateAt cells x = true
  ord : ∀ (i : Nat) x, r[i]? = some x → ∀ p ∈ preds cells x, p ∈ r.take i
  full : ∀ g, gateAt cells g = true → g ∉ r → ∃ p ∈ preds cells g, p ∉ r
noncomputable def ready0 (cells : List Cell) (i : Nat) : List Nat := (List.range i).filter fun g => gateAt cells g && (preds cells g).isEmpty
theorem kahn_init (cells : List Cell) : Kahn cells 0 (ready0 cells cells.length) (fun g => ((preds cells g).length : Int)) := by
  refine ⟨List.Nodup.sublist List.filter_sublist List.nodup_range, fun x hx => ?_, fun g _ => ?_, fun g hg => ?_, fun i x hx p hp => ?_, Nat.zero_le _⟩
  · have := (List.mem_filter.mp hx).2
    simp only [Bool.and_eq_true] at this
    exact this.1
  · rw [List.filter_eq_self.mpr fun p _ => by simp]
  · unfold ready0
    rw [List.mem_filter, List.mem_range]
    constructor
    · rintro ⟨_, h⟩
      simp only [Bool.and_eq_true, List.isEmpty_iff] at h
      simp [h.2]
    · intro h
      have : (preds cells g).length = 0 := by omega
      exact ⟨gateAt_lt hg, by simp [hg, List.length_eq_zero_iff.mp this]⟩
  · have hm := List.mem_of_getElem? hx
    have := (List.mem_filter.mp hm).2
    simp only [Bool.and_eq_true, List.isEmpty_iff] at this
    rw [this.2] at hp
    cases hp
theorem Kahn.final {cells : List Cell} {r : List Nat} {W : Nat → Int} (h : Kahn cells r.length r W) : Ord cells r := by
  refine ⟨h.nodup, h.gate, h.ord, fun g hg hn => ?_⟩
  have hw := h.wait g hg
  rw [List.take_length] at hw
  have h0 : W g ≠ 0 := fun e => hn ((h.rdy g hg).mpr e)
  have : (preds cells g).filter (fun p => decide (p ∉ r)) ≠ [] := by
    intro e
    rw [e] at hw
    exact h0 hw
  obtain ⟨p, hp⟩ := List.exists_mem_of_ne_nil _ this
  obtain ⟨h1, h2⟩ := List.mem_filter.mp hp
  exact ⟨p, h1, by simpa using h2⟩
theorem nodup_lt_length : ∀ {n : Nat} {r : List Nat}, r.Nodup → (∀ x ∈ r, x < n) → r.length ≤ n := by
  intro n
  induction n with
  | zero =>
    intro r _ hl
    cases r with
    | nil => exact Nat.le_refl _
    | cons a r => exact absurd (hl a (.head _)) (Nat.not_lt_zero _)
  | succ n ih =>
    intro r hn hl
    by_cases hm : n ∈ r
    · have h1 := ih (r := r.erase n) (hn.erase n) fun x hx => by
        have := (List.Nodup.mem_erase_iff hn).mp hx
        have := hl x this.2
        omega
      rw [List.length_erase_of_mem hm] at h1
      omega
    · have := ih hn fun x hx => by
        have h1 := hl x hx
        have h2 : x ≠ n := fun e => hm (e ▸ hx)
        omega
      omega
theorem drv_val {kvs : List (Int × Value)} {cells : List Cell} (h : DrvAre kvs cells cells.length) (hn : (keys kvs).Nodup) (x : Int) :
    (∃ j, drv cells x = some j ∧ ∃ (hj : j < cells.length), cells[j].out = x ∧ ∃ t, PySem.valueAt kvs x = some (.int (j : Int) t)) ∨ (drv cells x = none ∧ PySem.valueAt kvs x = none) := by
  cases hd : drv cells x with
  | some j =>
    refine .inl ⟨j, rfl, ?_⟩
    unfold drv at hd
    have h1 := List.find?_some hd
    have h2 := List.mem_range.mp (List.mem_of_find?_eq_some hd)
    rw [List.getElem?_eq_getElem h2, Option.any_some] at h1
    have h3 : cells[j].out = x := by simpa using h1
    obtain ⟨t, ht⟩ := h.2 j h2 h2
    rw [h3] at ht
    exact ⟨h2, h3, t, valueAt_of hn ht⟩
  | none =>
    refine .inr ⟨rfl, ?_⟩
    cases hv : PySem.valueAt kvs x with
    | none => rfl
    | some v =>
      exfalso
      have hs : (PySem.valueAt kvs x).isSome = true := by rw [hv]; rfl
      rw [valueAt_isSome, h.1, List.take_length] at hs
      obtain ⟨c, hc, he⟩ := List.mem_map.mp (of_decide_eq_true hs)
      obtain ⟨j, hj⟩ := List.mem_iff_getElem?.mp hc
      have hlt := (List.getElem?_eq_some_iff.mp hj).1
      unfold drv at hd
      rw [List.find?_eq_none] at hd
      refine hd j (List.mem_range.mpr hlt) ?_
      rw [hj, Option.any_some]
      simpa using he
/-- the entries of users: the cell, its list's address, the cells that wait for it -/
structure UE where
  key : Nat
  addr : Addr
  vals : List Nat
noncomputable def natInts (l : List Nat) : List Int := l.map fun (n : Nat) => (n : Int)
noncomputable def UsIn (tl : List (Addr × Obj)) (kvs : List (Int × Value)) (us : List UE) : Prop :=
  kvs = us.map (fun u => ((u.key : Int), Value.ref u.addr)) ∧ (us.map (·.addr)).Nodup ∧ ∀ u ∈ us, ∃ vs n, (u.addr, listOf vs.toArray n) ∈ tl ∧ IntsAre vs (natInts u.vals)
noncomputable def usersOf (us : List UE) (k : Nat) : List Nat := match us.find? (fun u => u.key == k) with | some u => u.vals | none => []
theorem usIn_keys {tl : List (Addr × Obj)} {kvs : List (Int × Value)} {us : List UE} (h : UsIn tl kvs us) : keys kvs = us.map fun u => (u.key : Int) := by
  rw [h.1]; unfold keys; rw [List.map_map]; rfl
theorem usIn_get {tl : List (Addr × Obj)} {kvs : List (Int × Value)} {us : List UE} (h : UsIn tl kvs us) (k : Nat) :
    (∃ u ∈ us, u.key = k ∧ usersOf us k = u.vals ∧ PySem.valueAt kvs (k : Int) = some (.ref u.addr)) ∨ ((k : Int) ∉ keys kvs ∧ usersOf us k = [] ∧ PySem.valueAt kvs (k : Int) = none) := by
  have hv : PySem.valueAt kvs (k : Int) = (us.find? fun u => u.key == k).map fun u => Value.ref u.addr := by
    rw [h.1]
    unfold PySem.valueAt
    rw [List.find?_map]
    have : ((fun kv : Int × Value => decide (kv.1 = (k : Int))) ∘ fun u : UE => ((u.key : Int), Value.ref u.addr)) = fun u => u.key == k := by
      funext u
      simp only [Function.comp]
      by_cases e : u.key = k
      · simp [e]
      · have : ¬ ((u.key : Int) = (k : Int)) := by omega
        simp [e, this]
    rw [this, Option.map_map]
    rfl
  cases hf : us.find? (fun u => u.key == k) with
  | some u =>
    refine .inl ⟨u, List.mem_of_find?_eq_some hf, by simpa using List.find?_some hf, ?_, ?_⟩
    · unfold usersOf; rw [hf]
    · rw [hv, hf]; rfl
  | none =>
    refine .inr ⟨?_, ?_, ?_⟩
    · rw [usIn_keys h]
      intro hm
      obtain ⟨u, hu, e⟩ := List.mem_map.mp hm
      rw [List.find?_eq_none] at hf
      exact hf u hu (by simp; omega)
    · unfold usersOf; rw [hf]
    · rw [hv, hf]; rfl
/-- a new entry -/
theorem usersOf_new {us : List UE} {k : Nat} {a : Addr} {g : Nat} (hk : usersOf us k = []) (hn : us.find? (fun u => u.key == k) = none) (k' : Nat) : usersOf (us ++ [⟨k, a, [g]⟩]) k' = usersOf us k' ++ if k' = k then [g] else [] := by
  unfold usersOf at *
  rw [List.find?_append]
  by_cases e : k' = k
  · subst e
    rw [hn]
    simp
  · have e' : (k == k') = false := by simpa using fun h => e h.symm
    rw [if_neg e, List.append_nil, List.find?_cons, e']
    cases us.find? (fun u => u.key == k') <;> rfl
noncomputable def push (us : List UE) (k g : Nat) : List UE := us.map fun u => if u.key = k then { u with vals := u.vals ++ [g] } else u
theorem usersOf_push {us : List UE} {k g : Nat} (h : us.find? (fun u => u.key == k) ≠ none) (k' : Nat) : usersOf (push us k g) k' = usersOf us k' ++ if k' = k then [g] else [] := by
  unfold usersOf push
  rw [List.find?_map]
  have : ((fun u : UE => u.key == k') ∘ fun u : UE => if u.key = k then { u with vals := u.vals ++ [g] } else u) = fun u => u.key == k' := by
    funext u
    simp only [Function.comp]
    split <;> rfl
  rw [this]
  cases hf : us.find? (fun u => u.key == k') with
  | none =>
    by_cases e : k' = k
    · subst e; exact absurd hf h
    · rw [if_neg e]; rfl
  | some u =>
    have hu : u.key = k' := by simpa using List.find?_some hf
    by_cases e : k' = k
    · subst e
      simp [hu]
    · have : ¬ u.key = k := fun h => e (hu ▸ h)
      simp [this, e]
end
theorem reset_25 : True := by
  w_top off
  trivial
section
structure Us (tl : List (Addr × Obj)) (kU : List (Int × Value)) (us : List UE) (cells : List Cell) (i : Nat) (xs : List Int) (rA : Addr) : Prop where
  in_ : UsIn tl kU us
  hi : ∀ u ∈ us, @LT.lt Nat _ rA u.addr
  cnt : ∀ k g, gateAt cells g = true → (usersOf us k).count g = (if g < i then (preds cells g).count k else 0) + if g = i then (predsL cells xs).count k else 0
  gate : ∀ u ∈ us, ∀ g ∈ u.vals, gateAt cells g = true
  size : ∀ u ∈ us, u.vals.length ≤ 4 * i + xs.length
  num : us.length ≤ 4 * i + xs.length
theorem predsL_append (cells : List Cell) (a b : List Int) : predsL cells (a ++ b) = predsL cells a ++ predsL cells b := by
  unfold predsL; rw [List.filterMap_append]
theorem predsL_none {cells : List Cell} {x : Int} (h : drv cells x = none) : predsL cells [x] = [] := by
  unfold predsL; rw [List.filterMap_cons, h]; rfl
theorem predsL_state {cells : List Cell} {x : Int} {j : Nat} (h : drv cells x = some j) (hg : gateAt cells j = false) : predsL cells [x] = [] := by
  unfold predsL; rw [List.filterMap_cons, h]; simp [Option.filter, hg]
theorem predsL_gate {cells : List Cell} {x : Int} {j : Nat} (h : drv cells x = some j) (hg : gateAt cells j = true) : predsL cells [x] = [j] := by
  unfold predsL; rw [List.filterMap_cons, h]; simp [Option.filter, hg]
section
variable {tl : List (Addr × Obj)} {kU : List (Int × Value)} {us : List UE} {cells : List Cell} {i : Nat} {xs : List Int} {rA : Addr} {x : Int} {k : Nat}
theorem Us.skip (h : Us tl kU us cells i xs rA) (hx : predsL cells [x] = []) : Us tl kU us cells i (xs ++ [x]) rA :=
  ⟨h.in_, h.hi, fun k g hg => by rw [predsL_append, hx, List.append_nil]; exact h.cnt k g hg, h.gate, fun u hu => by rw [List.length_append]; exact Nat.le_trans (h.size u hu) (by omega), by rw [List.length_append]; have := h.num; omega⟩
theorem Us.row (h : Us tl kU us cells i xs rA) (hx : gateAt cells i = true → xs = insAt cells i) (hl : xs.length ≤ 4) : Us tl kU us cells (i + 1) [] rA :=
  ⟨h.in_, h.hi, fun k g hg => by
    rw [h.cnt k g hg]
    have hp : (predsL cells []).count k = 0 := by simp [predsL]
    rw [hp]
    by_cases e : g = i
    · subst e
      rw [if_neg (Nat.lt_irrefl _), if_pos rfl, if_pos (Nat.lt_succ_self _), hx hg]
      unfold preds
      split <;> omega
    · rw [if_neg e]
      split <;> split <;> split <;> omega, h.gate, fun u hu => by have := h.size u hu; simp only [List.length_nil]; omega, by have := h.num; simp only [List.length_nil]; omega⟩
theorem Us.push_new {D : Addr} {n : Nat} {t : Tok} (h : Us tl kU us cells i xs rA) (hx : predsL cells [x] = [k]) (hg : gateAt cells i = true) (hk : (k : Int) ∉ keys kU) (hD : @LT.lt Nat _ rA D) (hf : ∀ p ∈ tl, p.1 < D) :
    Us ((D, listOf [Value.int (i : Int) t].toArray n) :: tl) (PySem.stored kU (k : Int) (.ref D)) (us ++ [⟨k, D, [i]⟩]) cells i (xs ++ [x]) rA := by
  obtain ⟨⟨e, hn, hu⟩, hhi, hc, hga, hs, hnum⟩ := h
  have hkey : us.find? (fun u => u.key == k) = none := by
    rw [List.find?_eq_none]
    intro u hm hq
    refine hk ?_
    rw [e]
    unfold keys
    rw [List.map_map]
    refine List.mem_map.mpr ⟨u, hm, ?_⟩
    have : u.key = k := by simpa using hq
    simp [this]
  have hk0 : usersOf us k = [] := by unfold usersOf; rw [hkey]
  refine ⟨⟨?_, ?_, ?_⟩, ?_, fun k' g hgg => ?_, ?_, ?_, by simp only [push, List.length_append, List.length_map, List.length_singleton]; omega⟩
  · rw [stored_new _ hk, e]; simp
  · rw [List.map_append, List.nodup_append]
    refine ⟨hn, by simp, fun a ha b hb => ?_⟩
    have hb' : b = D := by simpa using hb
    obtain ⟨u, hm, rfl⟩ := List.mem_map.mp ha
    obtain ⟨vs, n, hin, _⟩ := hu u hm
    rw [hb']
    exact Nat.ne_of_lt (hf _ hin)
  · intro u hm
    rcases List.mem_append.mp hm with hm | hm
    · obtain ⟨vs, n, hin, hi⟩ := hu u hm
      exact ⟨vs, n, .tail _ hin, hi⟩
    · rw [List.mem_singleton.mp hm]
      exact ⟨_, n, .head _, .cons _ _ .nil⟩
  · intro u hm
    rcases List.mem_append.mp hm with hm | hm
    · exact hhi u hm
    · rw [List.mem_singleton.mp hm]; exact hD
  · rw [usersOf_new hk0 hkey, List.count_append, hc k' g hgg, predsL_append, hx, List.count_append]
    by_cases e1 : k' = k
    · subst e1
      by_cases e2 : g = i
      · subst e2; simp [Nat.add_assoc]
      · have : ([i] : List Nat).count g = 0 := by rw [List.count_eq_zero]; simpa using e2
        simp [e2, this]
    · have : ([k] : List Nat).count k' = 0 := by rw [List.count_eq_zero]; simpa using e1
      simp [e1, this]
  · intro u hm
    rcases List.mem_append.mp hm with hm | hm
    · exact hga u hm
    · rw [List.mem_singleton.mp hm]
      intro g hgm
      rw [List.mem_singleton.mp hgm]; exact hg
  · intro u hm
    rw [List.length_append]
    rcases List.mem_append.mp hm with hm | hm
    · have := hs u hm; omega
    · rw [List.mem_singleton.mp hm]; simp only [List.length_singleton]; omega
theorem Us.push_old {u : UE} {vs : List Value} {n : Nat} {t : Tok} (h : Us tl kU us cells i xs rA) (hx : predsL cells [x] = [k]) (hg : gateAt cells i = true) (hm : u ∈ us) (hk : u.key = k) (hkn : (keys kU).Nodup) (hv : IntsAre vs (natInts u.vals)) :
    Us ((u.addr, listOf (vs ++ [Value.int (i : Int) t]).toArray n) :: tl.filter fun p => decide (p.1 ≠ u.addr)) kU (push us k i) cells i (xs ++ [x]) rA := by
  obtain ⟨⟨e, hn, hu⟩, hhi, hc, hga, hs, hnum⟩ := h
  have hfind : us.find? (fun u => u.key == k) ≠ none := by
    intro hq
    rw [List.find?_eq_none] at hq
    exact hq u hm (by simp [hk])
  have uniq : ∀ v ∈ us, v.key = k → v = u := by
    intro v hvm hvk
    have hkk : (us.map fun u => (u.key : Int)).Nodup := by
      have := hkn
      rw [usIn_keys ⟨e, hn, hu⟩] at this
      exact this
    obtain ⟨a, ha⟩ := List.mem_iff_getElem?.mp hvm
    obtain ⟨b, hb⟩ := List.mem_iff_getElem?.mp hm
    have hla := (List.getElem?_eq_some_iff.mp ha).1
    have : a = b := by
      refine (List.getElem?_inj (by rw [List.length_map]; exact hla) hkk).mp ?_
      rw [List.getElem?_map, List.getElem?_map, ha, hb]
      simp [hvk, hk]
    subst this
    rw [ha] at hb
    exact Option.some.inj hb
  have aneq : ∀ v ∈ us, v.key ≠ k → v.addr ≠ u.addr := by
    intro v hvm hvk ha
    obtain ⟨a, hA⟩ := List.mem_iff_getElem?.mp hvm
    obtain ⟨b, hb⟩ := List.mem_iff_getElem?.mp hm
    have hla := (List.getElem?_eq_some_iff.mp hA).1
    have : a = b := by
      refine (List.getElem?_inj (by rw [List.length_map]; exact hla) hn).mp ?_
      rw [List.getElem?_map, List.getElem?_map, hA, hb]
      simp [ha]
    subst this
    rw [hA] at hb
    exact hvk (by rw [Option.some.inj hb]; exact hk)
  refine ⟨⟨?_, ?_, ?_⟩, ?_, fun k' g hgg => ?_, ?_, ?_, by simp only [push, List.length_append, List.length_map, List.length_singleton]; omega⟩
  · rw [e]
    unfold push
    rw [List.map_map]
    refine List.map_congr_left fun v _ => ?_
    simp only [Function.comp]
    split <;> rfl
  · unfold push
    rw [List.map_map]
    have : ((fun u : UE => u.addr) ∘ fun u : UE => if u.key = k then { u with vals := u.vals ++ [i] } else u) = fun u => u.addr := by
      funext v
      simp only [Function.comp]
      split <;> rfl
    rw [this]
    exact hn
  · intro v hvm
    obtain ⟨v0, hv0, rfl⟩ := List.mem_map.mp hvm
    by_cases hk0 : v0.key = k
    · have := uniq v0 hv0 hk0
      subst this
      rw [if_pos hk0]
      refine ⟨_, n, .head _, ?_⟩
      unfold natInts
      rw [List.map_append]
      exact IntsAre.append hv (.cons _ _ .nil)
    · rw [if_neg hk0]
      obtain ⟨ws, n', hin, hi⟩ := hu v0 hv0
      exact ⟨ws, n', .tail _ (List.mem_filter.mpr ⟨hin, by simpa using aneq v0 hv0 hk0⟩), hi⟩
  · intro v hvm
    obtain ⟨v0, hv0, rfl⟩ := List.mem_map.mp hvm
    have := hhi v0 hv0
    split <;> exact this
  · rw [usersOf_push hfind, List.count_append, hc k' g hgg, predsL_append, hx, List.count_append]
    by_cases e1 : k' = k
    · subst e1
      by_cases e2 : g = i
      · subst e2; simp [Nat.add_assoc]
      · have : ([i] : List Nat).count g = 0 := by rw [List.count_eq_zero]; simpa using e2
        simp [e2, this]
    · have : ([k] : List Nat).count k' = 0 := by rw [List.count_eq_zero]; simpa using e1
      simp [e1, this]
  · intro v hvm
    obtain ⟨v0, hv0, rfl⟩ := List.mem_map.mp hvm
    have := hga v0 hv0
    split
    · intro g hgm
      rcases List.mem_append.mp hgm with hgm | hgm
      · exact this g hgm
      · rw [List.mem_singleton.mp hgm]; exact hg
    · exact this
  · intro v hvm
    obtain ⟨v0, hv0, rfl⟩ := List.mem_map.mp hvm
    have := hs v0 hv0
    rw [List.length_append]
    split
    · rw [List.length_append]; simp only [List.length_singleton]; omega
    · omega
end
theorem stored_length {K : Type} [DecidableEq K] (kvs : List (K × Value)) (k : K) (v : Value) : (PySem.stored kvs k v).length ≤ kvs.length + 1 := by
  unfold PySem.stored
  split
  · rw [List.length_map]; omega
  · simp
noncomputable def WIn (kW : List (Int × Value)) (cells : List Cell) (i : Nat) : Prop :=
  kW.length ≤ i ∧ ∀ g, g < i → gateAt cells g = true → ∃ t, PySem.valueAt kW (g : Int) = some (.int ((preds cells g).length : Int) t)
theorem WIn.skip {kW : List (Int × Value)} {cells : List Cell} {i : Nat} (h : WIn kW cells i) (hg : gateAt cells i = false) : WIn kW cells (i + 1) :=
  ⟨Nat.le_succ_of_le h.1, fun g hi hgg => h.2 g (by
    rcases Nat.lt_succ_iff_lt_or_eq.mp hi with hi | rfl
    · exact hi
    · rw [hg] at hgg; cases hgg) hgg⟩
theorem WIn.put {kW : List (Int × Value)} {cells : List Cell} {i : Nat} {t : Tok} (h : WIn kW cells i) : WIn (PySem.stored kW (i : Int) (.int ((preds cells i).length : Int) t)) cells (i + 1) :=
  ⟨Nat.le_trans (stored_length _ _ _) (Nat.succ_le_succ h.1), fun g hi hgg => by
    rcases Nat.lt_succ_iff_lt_or_eq.mp hi with hi | rfl
    · obtain ⟨t', ht⟩ := h.2 g hi hgg
      exact ⟨t', by rw [valueAt_stored_ne _ _ (by omega)]; exact ht⟩
    · exact ⟨t, valueAt_stored_self _ _ _⟩⟩
theorem ready0_succ (cells : List Cell) (i : Nat) : ready0 cells (i + 1) = ready0 cells i ++ if gateAt cells i && (preds cells i).isEmpty then [i] else [] := by
  unfold ready0
  rw [List.range_succ, List.filter_append, List.filter_cons]
  congr 1
theorem ready0_length (cells : List Cell) (i : Nat) : (ready0 cells i).length ≤ i := by
  unfold ready0
  exact Nat.le_trans (List.length_filter_le _ _) (by simp)
theorem gateAt_of {cells : List Cell} {i : Nat} (hi : i < cells.length) : gateAt cells i = !isState cells[i].kind := by
  unfold gateAt
  rw [List.getElem?_eq_getElem hi]
  rfl
theorem insAt_of {cells : List Cell} {i : Nat} (hi : i < cells.length) : insAt cells i = cells[i].ins := by
  unfold insAt
  rw [List.getElem?_eq_getElem hi]
theorem predsL_length (cells : List Cell) (xs : List Int) : (predsL cells xs).length ≤ xs.length := by
  unfold predsL
  exact List.length_filterMap_le _ _
theorem stored_length_old {kvs : List (Int × Value)} {k : Int} {u : Value} (v : Value) (h : PySem.valueAt kvs k = some u) : (PySem.stored kvs k v).length = kvs.length := by
  unfold PySem.stored
  rw [if_pos]
  · rw [List.length_map]
  · have hs : (PySem.valueAt kvs k).isSome = true := by rw [h]; rfl
    rw [valueAt_isSome] at hs
    obtain ⟨p, hp, e⟩ := List.mem_map.mp (of_decide_eq_true hs)
    exact List.any_eq_true.mpr ⟨p, hp, by simpa using e⟩
theorem natInts_at {vs : List Value} {r : List Nat} (h : IntsAre vs (natInts r)) {t x : Nat} (hx : r[t]? = some x) : ∃ tk, vs[t]? = some (.int (x : Int) tk) := by
  have hl := (List.getElem?_eq_some_iff.mp hx).1
  have hl2 : t < (natInts r).length := by unfold natInts; rw [List.length_map]; exact hl
  have hv : t < vs.length := by rw [h.length]; exact hl2
  obtain ⟨tk, htk⟩ := ints_at h hl2 (List.getElem?_eq_getElem hv)
  refine ⟨tk, ?_⟩
  rw [List.getElem?_eq_getElem hv, htk]
  have : (natInts r)[t] = (x : Int) := by
    have e := List.getElem?_eq_getElem hl2
    unfold natInts at e ⊢
    rw [List.getElem?_map, hx] at e
    exact (Option.some.inj e).symm
  rw [this]
end
theorem reset_26 : True := by
  w_top off
  trivial
section
/-- the invariants of its loops -/
inductive JO1 (w : World) (news : List (Addr × Obj)) (cells : List Cell) (dA ceL wA uA rA : Addr) (i : Nat) (m₁ : Str → Option Value) (nw : List (Addr × Obj)) : Prop
  | mk (m' : Str → Option Value) (oW : Obj) (kW : List (Int × Value)) (oU : Obj) (kU : List (Int × Value)) (us : List UE) (rv : List Value) (kr : Nat) (tl : List (Addr × Obj))
    (h1 : m₁ = lm [(Str.ofString "driven", .ref dA), (Str.ofString "cells", .ref ceL), (Str.ofString "waiting", .ref wA), (Str.ofString "users", .ref uA), (Str.ofString "ready", .ref rA)] m')
    (h2 : nw = (rA, listOf rv.toArray kr) :: (uA, oU) :: (wA, oW) :: tl) (h3 : oU.IsDictOf (PySem.intKind Challenge.rw_nn0302_01.row.prog w) kU) (h4 : Us tl kU us cells i [] rA)
    (h5 : oW.IsDictOf (PySem.intKind Challenge.rw_nn0302_01.row.prog w) kW) (h6 : WIn kW cells i) (h7 : IntsAre rv (natInts (ready0 cells i))) (h8 : ∀ p ∈ news, p ∈ tl) (h9 : ∀ p ∈ tl, p.1 ≠ rA) (h10 : ∀ p ∈ tl, p.1 ≠ uA) (h11 : ∀ p ∈ tl, p.1 ≠ wA)
inductive JO2 (w : World) (news : List (Addr × Obj)) (cells : List Cell) (dA ceL wA uA rA : Addr) (oW : Obj) (rv : List Value) (kr : Nat) (i : Nat) (ti : Tok) (I : Addr) (oI : Obj) (xs : List Int) (j : Nat) (m₁ : Str → Option Value) (nw : List (Addr × Obj)) : Prop
  | mk (m' : Str → Option Value) (oU : Obj) (kU : List (Int × Value)) (us : List UE) (tl : List (Addr × Obj)) (tc' : Tok) (cnt : Nat)
    (h1 : m₁ = lm [(Str.ofString "driven", .ref dA), (Str.ofString "cells", .ref ceL), (Str.ofString "waiting", .ref wA), (Str.ofString "users", .ref uA), (Str.ofString "ready", .ref rA), (Str.ofString "index", .int ((i : Nat) : Int) ti), (Str.ofString "count", .int ((cnt : Nat) : Int) tc')] m')
    (h2 : nw = (I, oI) :: (rA, listOf rv.toArray kr) :: (uA, oU) :: (wA, oW) :: tl) (h3 : oU.IsDictOf (PySem.intKind Challenge.rw_nn0302_01.row.prog w) kU) (h4 : Us tl kU us cells i (xs.take j) rA)
    (h5 : ∀ p ∈ news, p ∈ tl) (h6 : ∀ p ∈ tl, p.1 ≠ rA) (h7 : ∀ p ∈ tl, p.1 ≠ uA) (h8 : ∀ p ∈ tl, p.1 ≠ wA) (h9 : ∀ p ∈ tl, p.1 ≠ I) (h10 : cnt = (predsL cells (xs.take j)).length)
inductive JO3 (w : World) (cells : List Cell) (tl : List (Addr × Obj)) (oU : Obj) (wA uA rA : Addr) (k : Nat) (m₁ : Str → Option Value) (nw : List (Addr × Obj)) : Prop
  | mk (m' : Str → Option Value) (oW : Obj) (kW : List (Int × Value)) (rv : List Value) (kr : Nat) (r : List Nat) (W : Nat → Int) (t : Nat) (tt : Tok)
    (h1 : m₁ = lm [(Str.ofString "waiting", .ref wA), (Str.ofString "users", .ref uA), (Str.ofString "ready", .ref rA), (Str.ofString "turn", .int ((t : Nat) : Int) tt)] m') (h2 : nw = (rA, listOf rv.toArray kr) :: (uA, oU) :: (wA, oW) :: tl)
    (h3 : oW.IsDictOf (PySem.intKind Challenge.rw_nn0302_01.row.prog w) kW) (h4 : kW.length ≤ cells.length) (h5 : ∀ g, gateAt cells g = true → ∃ tk, PySem.valueAt kW (g : Int) = some (.int (W g) tk)) (h6 : IntsAre rv (natInts r)) (h7 : Kahn cells t r W) (h8 : k = cells.length - t)
inductive JO4 (w : World) (cells : List Cell) (tl : List (Addr × Obj)) (oU : Obj) (wA uA rA : Addr) (t : Nat) (tt : Tok) (x : Nat) (uv : List Nat) (j : Nat) (m₁ : Str → Option Value) (nw : List (Addr × Obj)) : Prop
  | mk (m' : Str → Option Value) (oW : Obj) (kW : List (Int × Value)) (rv : List Value) (kr : Nat) (r : List Nat) (W : Nat → Int)
    (h1 : m₁ = lm [(Str.ofString "waiting", .ref wA), (Str.ofString "users", .ref uA), (Str.ofString "ready", .ref rA), (Str.ofString "turn", .int ((t : Nat) : Int) tt)] m') (h2 : nw = (rA, listOf rv.toArray kr) :: (uA, oU) :: (wA, oW) :: tl)
    (h3 : oW.IsDictOf (PySem.intKind Challenge.rw_nn0302_01.row.prog w) kW) (h4 : kW.length ≤ cells.length) (h5 : ∀ g, gateAt cells g = true → ∃ tk, PySem.valueAt kW (g : Int) = some (.int (W g) tk)) (h6 : IntsAre rv (natInts r)) (h7 : KahnIn cells t x r (uv.take j) W)
theorem ordered {w : World} {loose : List Str} {mean : ExcName → Option Value} {mg mb : Str → Option Value} {dp un : Nat} {gd : Option (List Code)} {cn : Str} {cs : Scope} {a : Addr} {ccd : Value} {cl : List (Str × Addr)} {outer : List Env} {A₀ : Around} {base h₀ : Heap} {L : Addr} {m : Str → Option Value} {news : List (Addr × Obj)} {s : Shared} {Q E : Value → Shared → Prop} {nt nd inL outL ceL dA : Addr} {k1 k2 k3 k4 k5 tc : Tok} {nv : Value} {c : Int} {cv : List Value} {n1 : Nat} {cells : List Cell} {oD : Obj} {kvsD : List (Int × Value)} (B : Below A₀ base outer h₀) (F : Fr h₀ L s.heap m) (X : (hd.heap_39 w.params).In h₀) (N : News h₀ L s.heap news) (T : Top hd.view_39 loose mean mg mb h₀) (hk : cs.kind = .function) (hdp : dp < 900) (hu : un < 900)
    (hnt : (nt, instObj 134 nd) ∈ news) (hnd : (nd, netD w k1 k2 k3 k4 k5 nv c tc inL outL ceL) ∈ news) (hce : (ceL, listOf cv.toArray n1) ∈ news) (hdA : (dA, oD) ∈ news)
    (hoD : oD.IsDictOf (PySem.intKind Challenge.rw_nn0302_01.row.prog w) kvsD) (hDrv : DrvAre kvsD cells cells.length) (hlo : (dA == sysModules) = false)
    (hC : CellsIn news cv cells) (hlen : cells.length ≤ 12) (hins : ∀ x ∈ cells, x.ins.length ≤ 4)
    (ret : ∀ D ys r n h' tk', Fr h₀ L h' m → News h₀ L h' ((D, listOf ys.toArray n) :: news) → IntsAre ys (natInts r) → Ord cells r → (∀ p ∈ news, p.1 < D) → Q (.ref D) { s with heap := h', toks := tk' }) :
    wpAny (model Challenge.rw_nn0302_01.row.prog w) (ktrTop dp un gd cn cs L a ccd cl outer) (call (.ref 159) [.ref nt, .ref dA]) Q E s := by
  obtain ⟨hcv, hC⟩ := hC
  refine wpAny_noRaise ?_
  refine wpAny_call ?_
  k_dflt k_enter
  k_steps
  refine hold_in ?_
  rename_i g1 L1 h1 FG1 B1 X1 T1 h2 wA h3 oW0 loW _ _ hW0 _ aa h4 uA h5 oU0 loU _ _ hU0 _ bb' h6 rA h7 cc h8 F8 N8 tk8 h9 tk9 t1 u1 v1 hr F9 N9 K9
  have a5 : ∀ p ∈ news, @LT.lt Nat _ p.1 wA := fun p hp => lt_allLt aa p hp
  have b5 : ∀ p ∈ news, @LT.lt Nat _ p.1 uA := fun p hp => lt_allLt bb' p (.tail _ hp)
  have c5 : ∀ p ∈ news, @LT.lt Nat _ p.1 rA := fun p hp => lt_allLt cc p (.tail _ (.tail _ hp))
  refine loop_range (n := cells.length) (JO1 w news cells dA ceL wA uA rA)
      (by rfl) hr (range_small (by omega) (by omega)) (range_size (by omega)) F9 N9 ⟨_, _, [], _, [], [], [], _, news, (lm_eq (by repeat (first | exact List.forall_mem_nil _ | refine List.forall_mem_cons.mpr ⟨rfl, ?_⟩))).symm, rfl, hU0, ?_, hW0, ⟨Nat.le_refl _, fun g h => absurd h (Nat.not_lt_zero _)⟩, .nil, fun p hp => hp, fun p hp => Nat.ne_of_lt (c5 p hp), fun p hp => Nat.ne_of_lt (b5 p hp), fun p hp => Nat.ne_of_lt (a5 p hp)⟩ ?_ ?_
  · exact ⟨⟨rfl, .nil, (fun u hu => nomatch hu)⟩, (fun u hu => nomatch hu), (fun k g _ => by simp [usersOf, predsL]), (fun u hu => nomatch hu), (fun u hu => nomatch hu), Nat.zero_le _⟩
  · rintro i ti m₁ nw I oI h tk hi ⟨m', oW, kW, oU, kU, us, rv, kr, tl, rfl, rfl, hU, hUs, hW, hWi, hrv, s1, s2, s3, s4⟩ off F3 N3
    refine hideQ fun RR hQQ => ?_
    have mnt := s1 _ hnt
    have mnd := s1 _ hnd
    have mce := s1 _ hce
    have mdA := s1 _ hdA
    obtain ⟨v, hv, a', ta', m2, m3, pv, ws, t1, t2, rfl, ha, hta, hws⟩ := hC i hi
    have hv' : cv[((i : Nat) : Int).toNat]? = some (.ref a') := by simpa using hv
    simp only [Int.zero_add] at F3
    have hta0 := hta
    replace ha := s1 _ ha
    replace hta := s1 _ hta
    have hkw := hWi.1
    have hIr : @Ne Nat rA I := off _ (.head _)
    have hIu : @Ne Nat uA I := off _ (.tail _ (.head _))
    have hIw : @Ne Nat wA I := off _ (.tail _ (.tail _ (.head _)))
    have hIt : ∀ p ∈ tl, p.1 ≠ I := fun p hp => off p (by repeat (first | exact hp | apply List.mem_cons_of_mem))
    have hex : ∀ (e' l' : List (Addr × Obj)), e'.map (·.1) = [rA, uA, wA] → (∀ p ∈ l', p.1 ≠ I) → ∀ p ∈ e' ++ l', p.1 ≠ I := fun e' l' he hl => off_tail (e := [(rA, listOf rv.toArray kr), (uA, oU), (wA, oW)]) (l := tl) he off hl
    have hgi := gateAt_of hi
    have h4 := hins _ (List.getElem_mem hi)
    have hrl := hrv.length
    have hr0 := ready0_length cells i
    simp only [natInts, List.length_map] at hrl
    k_steps
    · rename isState _ = true => hst
      subst hQQ
      rw [hst] at hgi
      refine TEnd.cont (by k_asm) (by k_asm) (nw := (rA, listOf rv.toArray kr) :: (uA, oU) :: (wA, oW) :: tl) (by k_allIn) off ⟨_, oW, kW, oU, kU, us, rv, kr, tl, (lm_eq (by repeat (first | exact List.forall_mem_nil _ | refine List.forall_mem_cons.mpr ⟨rfl, ?_⟩))).symm, rfl, hU, hUs.row (fun h => by rw [hgi] at h; cases h) (Nat.zero_le _), hW, hWi.skip hgi, ?_, s1, s2, s3, s4⟩
      rw [ready0_succ, hgi]
      simpa using hrv
    · rename isState _ = false => hst
      refine hold_in ?_
      rw [hst] at hgi
      refine loop_tuple (l := ta') (vs := ws) (k := m3) (JO2 w news cells dA ceL wA uA rA oW rv kr i ti I oI cells[i].ins) (by rfl)
        (by rintro j m nw ⟨m', oU, kU, us, tl, tc', cnt, -, rfl, -, -, s1, -⟩; exact .tail _ (.tail _ (.tail _ (.tail _ (s1 _ hta0))))) (by k_asm) (by k_asm) ⟨_, oU, kU, us, tl, _, 0, (lm_eq (by repeat (first | exact List.forall_mem_nil _ | refine List.forall_mem_cons.mpr ⟨rfl, ?_⟩))).symm, rfl, hU, hUs, s1, s2, s3, s4, hIt, by simp [predsL]⟩ ?_ ?_
      · rintro j v m₁ nw I2 oI2 h tk hvj ⟨m', oU, kU, us, tl, tc', cnt, rfl, rfl, hU, hUs, s1, s2, s3, s4, s5, hcnt⟩ off2 F4 N4
        have mnt := s1 _ hnt
        have mnd := s1 _ hnd
        have mce := s1 _ hce
        have mdA := s1 _ hdA
        refine hideQ fun RR hQQ => ?_
        have hj : j < cells[i].ins.length := by rw [← hws.length]; exact (List.getElem?_eq_some_iff.mp hvj).1
        obtain ⟨t3, rfl⟩ := ints_at hws hj hvj
        have htk : cells[i].ins.take (j + 1) = cells[i].ins.take j ++ [cells[i].ins[j]] := List.take_succ_eq_append_getElem hj
        have hJr : @Ne Nat rA I2 := off2 _ (.tail _ (.head _))
        have hJu : @Ne Nat uA I2 := off2 _ (.tail _ (.tail _ (.head _)))
        have hJw : @Ne Nat wA I2 := off2 _ (.tail _ (.tail _ (.tail _ (.head _))))
        have hJt : ∀ p ∈ tl, p.1 ≠ I2 := fun p hp => off2 p (by repeat (first | exact hp | apply List.mem_cons_of_mem))
        have hpl := predsL_length cells (cells[i].ins.take j)
        rw [List.length_take] at hpl
        have hnu := hUs.num
        rw [List.length_take] at hnu
        have hkul : kU.length = us.length := by rw [hUs.in_.1, List.length_map]
        rcases drv_val hDrv (isDict_nodup hoD) cells[i].ins[j] with ⟨q, hq, hql, hqo, t4, hqv⟩ | ⟨hq, hqv⟩
        · obtain ⟨v2, hv2, a2', ta2, m4, m5, pv2, ws2, t5, t6, rfl, hb, -, -⟩ := hC q hql
          have hb0 := hb
          replace hb := s1 _ hb
          have hv2' : cv[((q : Nat) : Int).toNat]? = some (.ref a2') := by simpa using hv2
          have hgq := gateAt_of hql
          cases hsq : isState cells[q].kind with
          | true =>
            rw [hsq] at hgq
            k_steps
            subst hQQ
            refine TEnd.next (by k_asm) (by k_asm) (nw := (I, oI) :: (rA, listOf rv.toArray kr) :: (uA, oU) :: (wA, oW) :: tl) (by k_allIn) off2 ⟨_, oU, kU, us, tl, tc', cnt, (lm_eq (by repeat (first | exact List.forall_mem_nil _ | refine List.forall_mem_cons.mpr ⟨rfl, ?_⟩))).symm, rfl, hU, by rw [htk]; exact hUs.skip (predsL_state hq hgq), s1, s2, s3, s4, s5, ?_⟩
            rw [htk, predsL_append, predsL_state hq hgq, List.append_nil]
            exact hcnt
          | false =>
            rw [hsq] at hgq
            have hsz := hUs.size
            rw [List.length_take] at hsz
            rcases usIn_get hUs.in_ q with ⟨u, hum, huk, -, huv⟩ | ⟨hkn, -, huv⟩
            · have huS : (PySem.valueAt kU (q : Int)).isSome = true := by rw [huv]; rfl
              have hus := hsz u hum
              obtain ⟨uvs, un', hui, huvs⟩ := hUs.in_.2.2 u hum
              have hul := huvs.length
              simp only [natInts, List.length_map] at hul
              have hur := hUs.hi u hum
              have hg1 : @Ne Nat u.addr I := s5 _ hui
              have hg2 : @Ne Nat u.addr I2 := hJt _ hui
              have hg3 : @Ne Nat u.addr wA := s4 _ hui
              have hg4 : @Ne Nat u.addr uA := s3 _ hui
              have hflt : ∀ p ∈ tl.filter (fun p => decide (p.1 ≠ u.addr)), p.1 ≠ u.addr := fun p hp => by simpa using (List.mem_filter.mp hp).2
              have hsub : ∀ p ∈ tl.filter (fun p => decide (p.1 ≠ u.addr)), p ∈ tl := fun p hp => (List.mem_filter.mp hp).1
              have hnw : ∀ p ∈ news, p ∈ tl.filter (fun p => decide (p.1 ≠ u.addr)) := fun p hp => List.mem_filter.mpr ⟨s1 p hp, by
                have h1 : @LT.lt Nat _ p.1 rA := c5 p hp
                have : @Ne Nat p.1 u.addr := Nat.ne_of_lt (Nat.lt_trans h1 hur)
                simpa using this⟩
              have N5 : News _ _ h ((u.addr, listOf uvs.toArray un') :: (I2, oI2) :: (I, oI) :: (rA, listOf rv.toArray kr) :: (uA, oU) :: (wA, oW) :: tl.filter (fun p => decide (p.1 ≠ u.addr))) := fun p hp => N4 p (by
                rcases List.mem_cons.mp hp with rfl | hp
                · repeat (first | exact hui | apply List.mem_cons_of_mem)
                repeat (first | (rcases List.mem_cons.mp hp with rfl | hp; · (repeat (first | exact List.Mem.head _ | apply List.Mem.tail))))
                repeat (first | exact hsub _ hp | apply List.mem_cons_of_mem))
              clear N4
              replace hb := hnw _ hb0
              replace mnt := hnw _ hnt
              replace mnd := hnw _ hnd
              replace mce := hnw _ hce
              replace mdA := hnw _ hdA
              k_steps
              subst hQQ
              have q2 : @Ne Nat u.addr rA := Nat.ne_of_gt hur
              refine TEnd.next (by k_asm) (by k_asm) (nw := (I, oI) :: (rA, listOf rv.toArray kr) :: (uA, oU) :: (wA, oW) :: (u.addr, listOf (uvs ++ [Value.int ((i : Nat) : Int) ti]).toArray (un' + 1)) :: tl.filter (fun p => decide (p.1 ≠ u.addr))) (by rw [← List.push_toArray]; k_allIn)
                (off_tail (e := [(I, oI), (rA, listOf rv.toArray kr), (uA, oU), (wA, oW)]) (e' := [(I, oI), (rA, listOf rv.toArray kr), (uA, oU), (wA, oW)]) rfl off2 (List.forall_mem_cons.mpr ⟨hg2, fun p hp => hJt p (hsub p hp)⟩))
                ⟨_, oU, kU, push us q i, (u.addr, listOf (uvs ++ [Value.int ((i : Nat) : Int) ti]).toArray (un' + 1)) :: tl.filter (fun p => decide (p.1 ≠ u.addr)), _, cnt + 1, (lm_eq (by repeat (first | exact List.forall_mem_nil _ | refine List.forall_mem_cons.mpr ⟨rfl, ?_⟩))).symm, rfl, hU, by rw [htk]; exact hUs.push_old (predsL_gate hq hgq) hgi hum huk (isDict_nodup hU) huvs, (fun p hp => .tail _ (hnw p hp)),
                  List.forall_mem_cons.mpr ⟨q2, fun p hp => s2 p (hsub p hp)⟩, List.forall_mem_cons.mpr ⟨hg4, fun p hp => s3 p (hsub p hp)⟩, List.forall_mem_cons.mpr ⟨hg3, fun p hp => s4 p (hsub p hp)⟩, List.forall_mem_cons.mpr ⟨hg1, fun p hp => s5 p (hsub p hp)⟩, ?_⟩
              rw [htk, predsL_append, predsL_gate hq hgq, List.length_append, hcnt]; rfl
            · have huS : (PySem.valueAt kU (q : Int)).isSome = false := by rw [huv]; rfl
              k_steps
              rename_i D hA dd hB oN hDN hC' FN NN zz
              have d1 : @LT.lt Nat _ I2 D := lt_all dd (.head _)
              have d2 : @LT.lt Nat _ I D := lt_all dd (.tail _ (.head _))
              have d3 : @LT.lt Nat _ rA D := lt_all dd (.tail _ (.tail _ (.head _)))
              have d4 : @LT.lt Nat _ uA D := lt_all dd (.tail _ (.tail _ (.tail _ (.head _))))
              have d5 : @LT.lt Nat _ wA D := lt_all dd (.tail _ (.tail _ (.tail _ (.tail _ (.head _)))))
              have d10 : ∀ p ∈ tl, @LT.lt Nat _ p.1 D := fun p hp => lt_allLt dd p (.tail _ (.tail _ (.tail _ (.tail _ (.tail _ hp)))))
              subst hQQ
              refine TEnd.next (by k_asm) (by k_asm) (nw := (I, oI) :: (rA, listOf rv.toArray kr) :: (uA, oN) :: (wA, oW) :: (D, listOf [Value.int ((i : Nat) : Int) ti].toArray (0 + 1)) :: tl) (by rw [show ([Value.int ((i : Nat) : Int) ti] : List Value).toArray = #[].push (Value.int ((i : Nat) : Int) ti) from rfl]; k_allIn)
                (off_tail (e := [(I, oI), (rA, listOf rv.toArray kr), (uA, oU), (wA, oW)]) (e' := [(I, oI), (rA, listOf rv.toArray kr), (uA, oN), (wA, oW)]) rfl off2 (List.forall_mem_cons.mpr ⟨Nat.ne_of_gt d1, hJt⟩))
                ⟨_, oN, _, us ++ [⟨q, D, [i]⟩], (D, listOf [Value.int ((i : Nat) : Int) ti].toArray (0 + 1)) :: tl, _, cnt + 1, (lm_eq (by repeat (first | exact List.forall_mem_nil _ | refine List.forall_mem_cons.mpr ⟨rfl, ?_⟩))).symm, rfl, hDN, by rw [htk]; exact hUs.push_new (predsL_gate hq hgq) hgi hkn d3 d10, (fun p hp => .tail _ (s1 p hp)),
                  List.forall_mem_cons.mpr ⟨Nat.ne_of_gt d3, s2⟩, List.forall_mem_cons.mpr ⟨Nat.ne_of_gt d4, s3⟩, List.forall_mem_cons.mpr ⟨Nat.ne_of_gt d5, s4⟩, List.forall_mem_cons.mpr ⟨Nat.ne_of_gt d2, s5⟩, ?_⟩
              rw [htk, predsL_append, predsL_gate hq hgq, List.length_append, hcnt]; rfl
        · k_steps
          subst hQQ
          refine TEnd.next (by k_asm) (by k_asm) (nw := (I, oI) :: (rA, listOf rv.toArray kr) :: (uA, oU) :: (wA, oW) :: tl) (by k_allIn) off2 ⟨_, oU, kU, us, tl, tc', cnt, (lm_eq (by repeat (first | exact List.forall_mem_nil _ | refine List.forall_mem_cons.mpr ⟨rfl, ?_⟩))).symm, rfl, hU, by rw [htk]; exact hUs.skip (predsL_none hq), s1, s2, s3, s4, s5, ?_⟩
          rw [htk, predsL_append, predsL_none hq, List.append_nil]
          exact hcnt
      · rintro m₁ nw h tk ⟨m', oU, kU, us, tl, tc', cnt, rfl, rfl, hU, hUs, s1, s2, s3, s4, s5, hcnt⟩ F4 N4
        have mnt := s1 _ hnt
        have mnd := s1 _ hnd
        have mce := s1 _ hce
        have mdA := s1 _ hdA
        have hall : cells[i].ins.take ws.length = cells[i].ins := List.take_of_length_le (by rw [hws.length]; exact Nat.le_refl _)
        rw [hall] at hUs hcnt
        have hpr : preds cells i = predsL cells cells[i].ins := by unfold preds; rw [insAt_of hi]
        rw [← hpr] at hcnt
        have hrow := hUs.row (fun _ => (insAt_of hi).symm) h4
        subst hcnt
        k_steps
        · rename Obj.IsDictOf _ _ (PySem.stored kW _ _) => hW2
          rename ((_ : Nat) : Int) = 0 => h0
          subst hQQ
          refine TEnd.next (by k_asm) (by k_asm) (nw := (rA, listOf (rv ++ [Value.int ((i : Nat) : Int) ti]).toArray (kr + 1)) :: (uA, oU) :: (wA, _) :: tl) (by rw [← List.push_toArray]; k_allIn)
            (by exact hex [(rA, _), (uA, oU), (wA, _)] _ rfl s5) ⟨_, _, _, oU, kU, us, rv ++ [Value.int ((i : Nat) : Int) ti], kr + 1, tl, (lm_eq (by repeat (first | exact List.forall_mem_nil _ | refine List.forall_mem_cons.mpr ⟨rfl, ?_⟩))).symm, rfl, hU, hrow, hW2, hWi.put, ?_, s1, s2, s3, s4⟩
          rw [ready0_succ, hgi, List.length_eq_zero_iff.mp (by omega : (preds cells i).length = 0)]
          unfold natInts
          rw [List.map_append]
          exact IntsAre.append hrv (.cons _ _ .nil)
        · rename Obj.IsDictOf _ _ (PySem.stored kW _ _) => hW2
          rename ((_ : Nat) : Int) ≠ 0 => h0
          subst hQQ
          refine TEnd.next (by k_asm) (by k_asm) (nw := (rA, listOf rv.toArray kr) :: (uA, oU) :: (wA, _) :: tl) (by k_allIn)
            (by exact hex [(rA, listOf rv.toArray kr), (uA, oU), (wA, _)] _ rfl s5) ⟨_, _, _, oU, kU, us, rv, kr, tl, (lm_eq (by repeat (first | exact List.forall_mem_nil _ | refine List.forall_mem_cons.mpr ⟨rfl, ?_⟩))).symm, rfl, hU, hrow, hW2, hWi.put, ?_, s1, s2, s3, s4⟩
          rw [ready0_succ, show (gateAt cells i && (preds cells i).isEmpty) = false by
            rw [Bool.and_eq_false_iff]; right
            cases hp : preds cells i with
            | nil => rw [hp] at h0; exact absurd rfl h0
            | cons _ _ => rfl]
          simpa using hrv
  · rintro m₁ nw h tk ⟨m', oW, kW, oU, kU, us, rv, kr, tl, rfl, rfl, hU, hUs, hW, hWi, hrv, s1, s2, s3, s4⟩ F3 N3
    have mnt := s1 _ hnt
    have mnd := s1 _ hnd
    have mce := s1 _ hce
    have mdA := s1 _ hdA
    k_steps
    refine hold_in ?_
    have lt_n : ∀ {r : List Nat}, r.Nodup → (∀ x ∈ r, gateAt cells x = true) → r.length ≤ cells.length := fun hn hg => nodup_lt_length hn fun x hx => gateAt_lt (hg x hx)
    have hrl := hrv.length
    have hr0 := ready0_length cells cells.length
    simp only [natInts, List.length_map] at hrl
    refine while_inv (k := cells.length) (JO3 w cells tl oU wA uA rA) (by passes_own) (by k_asm) (by k_asm)
      ⟨_, oW, kW, rv, kr, ready0 cells cells.length, _, 0, _, (lm_eq (by repeat (first | exact List.forall_mem_nil _ | refine List.forall_mem_cons.mpr ⟨rfl, ?_⟩))).symm, rfl, hW, hWi.1, fun g hg => hWi.2 g (gateAt_lt hg) hg, hrv, kahn_init cells, rfl⟩ ?_
    rintro k m₁ nw h tk ⟨m', oW, kW, rv, kr, r, W, t, tt, rfl, rfl, hW, hkl, hWv, hrv, hK, rfl⟩ F4 N4
    have hrl2 := hrv.length
    simp only [natInts, List.length_map] at hrl2
    have hrn := lt_n hK.nodup hK.gate
    have hle := hK.le
    by_cases hlt : t < r.length
    · obtain ⟨x, hx⟩ : ∃ x, r[t]? = some x := ⟨_, List.getElem?_eq_getElem hlt⟩
      obtain ⟨tx, htx⟩ := natInts_at hrv hx
      have htx' : rv[((t : Nat) : Int).toNat]? = some (.int (x : Int) tx) := by simpa using htx
      have hcnt : ∀ g, gateAt cells g = true → (usersOf us x).count g = (preds cells g).count x := fun g hg => by
        rw [hUs.cnt x g hg, if_pos (gateAt_lt hg), if_neg (Nat.ne_of_lt (gateAt_lt hg)), Nat.add_zero]
      have hKI := hK.start hx
      rcases usIn_get hUs.in_ x with ⟨u, hum, huk, huo, huv⟩ | ⟨hkn, huo, huv⟩
      · rw [huo] at hcnt
        obtain ⟨uvs, un', hui, huvs⟩ := hUs.in_.2.2 u hum
        have hul := huvs.length
        simp only [natInts, List.length_map] at hul
        k_steps
        refine hold_in ?_
        refine loop_list (l := u.addr) (vs := uvs) (k := un') (JO4 w cells tl oU wA uA rA t tt x u.vals) (by rfl)
          (by rintro j m nw ⟨m', oW, kW, rv, kr, r, W, -, rfl, -⟩; exact .tail _ (.tail _ (.tail _ hui))) (by k_asm) (news := (rA, listOf rv.toArray kr) :: (uA, oU) :: (wA, oW) :: tl) (fun p hp => (by assumption : News _ _ _ (_ :: (rA, listOf rv.toArray kr) :: _)) p (.tail _ hp))
          ⟨_, oW, kW, rv, kr, r, W, (lm_eq (by repeat (first | exact List.forall_mem_nil _ | refine List.forall_mem_cons.mpr ⟨rfl, ?_⟩))).symm, rfl, hW, hkl, hWv, hrv, by simpa using hKI⟩ ?_ ?_
        · rintro j v m₁ nw I oI h tk hvj ⟨m', oW, kW, rv, kr, r, W, rfl, rfl, hW, hkl, hWv, hrv, hKI⟩ off F5 N5
          refine hideQ fun RR hQQ => ?_
          have hj : j < u.vals.length := by rw [← hul]; exact (List.getElem?_eq_some_iff.mp hvj).1
          obtain ⟨g, hg⟩ : ∃ g, u.vals[j]? = some g := ⟨_, List.getElem?_eq_getElem hj⟩
          obtain ⟨tg, htg⟩ := natInts_at huvs hg
          obtain rfl : v = .int (g : Int) tg := Option.some.inj (hvj.symm.trans htg)
          have hgg : gateAt cells g = true := hUs.gate u hum g (List.mem_of_getElem? hg)
          obtain ⟨tw, htw⟩ := hWv g hgg
          have htk : u.vals.take (j + 1) = u.vals.take j ++ [g] := by rw [List.take_succ, hg]; rfl
          have hb : (u.vals.take j).count g + 1 ≤ (preds cells g).count x := by
            rw [← hcnt g hgg]
            have h1 : (u.vals.take (j + 1)).count g ≤ u.vals.count g := (List.take_sublist _ _).count_le g
            rw [htk, List.count_append] at h1
            simpa using h1
          have hst := hKI.step hgg hb
          have hrl2 := hrv.length
          simp only [natInts, List.length_map] at hrl2
          have hrn := lt_n hKI.nodup hKI.gate
          have hso := stored_length_old (.int (W g - 1) 0) htw
          have hIr : @Ne Nat rA I := off _ (.head _)
          have hIu : @Ne Nat uA I := off _ (.tail _ (.head _))
          have hIw : @Ne Nat wA I := off _ (.tail _ (.tail _ (.head _)))
          have hWv2 : ∀ tk2 g', gateAt cells g' = true → ∃ tk, PySem.valueAt (PySem.stored kW (g : Int) (.int (W g - 1) tk2)) (g' : Int) = some (.int (if g' = g then W g - 1 else W g') tk) := fun tk2 g' hg' => by
            by_cases e : g' = g
            · subst e; rw [if_pos rfl]; exact ⟨_, valueAt_stored_self _ _ _⟩
            · rw [if_neg e, valueAt_stored_ne _ _ (by omega)]; exact hWv g' hg'
          k_steps
          · rename Obj.IsDictOf _ _ (PySem.stored kW _ _) => hW2
            rename W g - 1 = 0 => h0
            subst hQQ
            rw [if_pos h0] at hst
            refine TEnd.next (by k_asm) (by k_asm) (nw := (rA, listOf (rv ++ [Value.int (g : Int) tg]).toArray (kr + 1)) :: (uA, oU) :: (wA, _) :: tl) (by rw [← List.push_toArray]; k_allIn) (by refine off_fst ?_ off; rfl)
              ⟨_, _, _, rv ++ [Value.int (g : Int) tg], kr + 1, r ++ [g], _, (lm_eq (by repeat (first | exact List.forall_mem_nil _ | refine List.forall_mem_cons.mpr ⟨rfl, ?_⟩))).symm, rfl, hW2, by rw [stored_length_old _ htw]; exact hkl, hWv2 _, ?_, by rw [htk]; exact hst⟩
            unfold natInts
            rw [List.map_append]
            exact IntsAre.append hrv (.cons _ _ .nil)
          · rename Obj.IsDictOf _ _ (PySem.stored kW _ _) => hW2
            rename W g - 1 ≠ 0 => h0
            subst hQQ
            rw [if_neg h0] at hst
            exact TEnd.next (by k_asm) (by k_asm) (nw := (rA, listOf rv.toArray kr) :: (uA, oU) :: (wA, _) :: tl) (by k_allIn) (by refine off_fst ?_ off; rfl)
              ⟨_, _, _, rv, kr, r, _, (lm_eq (by repeat (first | exact List.forall_mem_nil _ | refine List.forall_mem_cons.mpr ⟨rfl, ?_⟩))).symm, rfl, hW2, by rw [stored_length_old _ htw]; exact hkl, hWv2 _, hrv, by rw [htk]; exact hst⟩
        · rintro m₁ nw h tk ⟨m', oW, kW, rv, kr, r, W, rfl, rfl, hW, hkl, hWv, hrv, hKI⟩ F5 N5
          have hall : u.vals.take uvs.length = u.vals := List.take_of_length_le (by rw [hul]; exact Nat.le_refl _)
          rw [hall] at hKI
          k_steps
          exact WEnd.next (cells.length - (t + 1)) (by omega) (by k_asm) (by k_asm) (nw := (rA, listOf rv.toArray kr) :: (uA, oU) :: (wA, oW) :: tl) (by k_allIn) ⟨_, oW, kW, rv, kr, r, W, t + 1, _, (lm_eq (by repeat (first | exact List.forall_mem_nil _ | refine List.forall_mem_cons.mpr ⟨rfl, ?_⟩))).symm, rfl, hW, hkl, hWv, hrv, hKI.done hcnt, rfl⟩
      · rw [huo] at hcnt
        k_steps
        refine hold_in ?_
        refine loop_empty (by rfl) (by k_asm) (by k_asm) ?_
        intro h tk F5 N5
        k_steps
        exact WEnd.next (cells.length - (t + 1)) (by omega) (by k_asm) (by k_asm) (nw := (rA, listOf rv.toArray kr) :: (uA, oU) :: (wA, oW) :: tl) (by k_allIn) ⟨_, oW, kW, rv, kr, r, W, t + 1, _, (lm_eq (by repeat (first | exact List.forall_mem_nil _ | refine List.forall_mem_cons.mpr ⟨rfl, ?_⟩))).symm, rfl, hW, hkl, hWv, hrv, hKI.done hcnt, rfl⟩
    · k_steps
      rename_i kF kN _ _
      obtain rfl : t = r.length := by omega
      exact ret _ rv r kr _ _ kF (fun p hp => kN p (by
        rcases List.mem_cons.mp hp with rfl | hp
        · exact .head _
        · exact .tail _ (.tail _ (.tail _ (s1 p hp))))) hrv hK.final c5
end
local macro_rules | `(tactic| walk_at "call ref") => `(tactic| ((with_reducible show wpAny _ _ (call (Value.ref 152) [Value.ref _]) _ _ _); refine hold_of ?_))
local macro_rules | `(tactic| walk_at "call ref") => `(tactic| ((with_reducible show wpAny _ _ (call (Value.ref 159) [Value.ref _, Value.ref _]) _ _ _); refine hold_of ?_))
local macro_rules | `(tactic| walk_at "call ref") => `(tactic| ((with_reducible show wpAny _ _ (call (Value.ref 145) [Value.ref _]) _ _ _); refine hold_of ?_))
local macro_rules | `(tactic| walk_at "call ref") => `(tactic| ((with_reducible show wpAny _ _ (call (Value.ref 166) [Value.ref _]) _ _ _); refine hold_of ?_))
theorem reset_27 : True := by
  w_top off
  trivial
section
noncomputable def combScope (w : World) : Scope := by refine' lookScope (K := hd.heap_39 w.params) (f := 166) ?h; (case h => k_dflt k_is)
theorem CellsIn.mono {news news' : List (Addr × Obj)} {cv : List Value} {cells : List Cell} (h : CellsIn news cv cells) (sub : ∀ p ∈ news, p ∈ news') : CellsIn news' cv cells :=
  ⟨h.1, fun i hi => by
    obtain ⟨v, hv, a, ta, n, n', pv, vs, t1, t2, e, h1, h2, h3⟩ := h.2 i hi
    exact ⟨v, hv, a, ta, n, n', pv, vs, t1, t2, e, sub _ h1, sub _ h2, h3⟩⟩
theorem comb_order {w : World} {loose : List Str} {mean : ExcName → Option Value} {mg mb : Str → Option Value} {dp un : Nat} {gd : Option (List Code)} {cn : Str} {cs : Scope} {a : Addr} {ccd : Value} {cl : List (Str × Addr)} {outer : List Env} {A₀ : Around} {base h₀ : Heap} {L : Addr} {m : Str → Option Value} {news : List (Addr × Obj)} {s : Shared} {Q E : Value → Shared → Prop} {nt nd inL outL ceL tI gl2 : Addr} {k1 k2 k3 k4 k5 tc ta : Tok} {nv : Value} {c : Int} {cv gv : List Value} {n1 n2 n3 n4 : Nat} {given : List Int} {cells : List Cell} (B : Below A₀ base outer h₀) (F : Fr h₀ L s.heap m) (X : (hd.heap_39 w.params).In h₀) (N : News h₀ L s.heap news) (T : Top hd.view_39 loose mean mg mb h₀) (hk : cs.kind = .function) (hdp : dp < 850) (hu : un < 850)
    (hnt : (nt, instObj 134 nd) ∈ news) (hnd : (nd, netD w k1 k2 k3 k4 k5 nv c tc inL outL ceL) ∈ news) (hce : (ceL, listOf cv.toArray n1) ∈ news) (hin : (inL, listOf [Value.ref tI].toArray n2) ∈ news)
    (hti : (tI, tupObj [.str (Str.ofString "a") ta, .ref gl2] n3) ∈ news) (hgl : (gl2, listOf gv.toArray n4) ∈ news) (hg : IntsAre gv given) (hgn : given.length ≤ 12)
    (hC : CellsIn news cv cells) (hlen : cells.length ≤ 12) (hgb : ∀ x ∈ given, 0 ≤ x ∧ x < 100) (hcb : ∀ x ∈ cells, 0 ≤ x.out ∧ x.out < 100) (hins : ∀ x ∈ cells, x.ins.length ≤ 4)
    (ret : ([0, 1] ++ given ++ cells.map Cell.out : List Int).Nodup → ∀ D ys r n h' tk', Fr h₀ L h' m → News h₀ L h' ((D, listOf ys.toArray n) :: news) → IntsAre ys (natInts r) → Ord cells r → cells.length ≤ r.length + (idxs (fun x => isState x.kind) cells cells.length).length → (∀ p ∈ news, p.1 < D) → Q (.ref D) { s with heap := h', toks := tk' })
    (err : ¬ ([0, 1] ++ given ++ cells.map Cell.out : List Int).Nodup → SynthUp base h₀ L m (envX cn cs L a ccd cl :: outer) (Str.ofString "two_drivers") news E s)
    (err2 : ([0, 1] ++ given ++ cells.map Cell.out : List Int).Nodup → ∀ r, Ord cells r → r.length + (idxs (fun x => isState x.kind) cells cells.length).length < cells.length → SynthUp base h₀ L m (envX cn cs L a ccd cl :: outer) (Str.ofString "combinational_loop") news E s) :
    wpAny (model Challenge.rw_nn0302_01.row.prog w) (ktrTop dp un gd cn cs L a ccd cl outer) (call (.ref 166) [.ref nt]) Q E s := by
  refine wpAny_call ?_
  k_dflt k_enter
  k_steps
  refine hold_in ?_
  rename_i g1 L1 h1 FG1 F1 N1 B1 X1 T1
  have lift : ∀ {k : Str} {news' : List (Addr × Obj)} {s₂ : Shared}, (∀ p ∈ news, p ∈ news') → SynthUp base h₀ L m (envX cn cs L a ccd cl :: outer) k news E s → (∃ h tk, s₂ = { s with heap := h, toks := tk }) → ∀ {m₁ : Str → Option Value}, SynthUp base g1 L1 m₁ (envX (Str.ofString "comb_order") (combScope w) L1 166 (.ref 165) [] :: envX cn cs L a ccd cl :: outer) k news' ek s₂ := by
    rintro k news' s₂ sub er ⟨h2, tk2, rfl⟩ m₁ e dx es n t h' tk' g F U R hge
    exact leave_onD B1 F R U fun h'' R' U' => er e dx es n t h'' tk' g1 FG1 U' (R'.less fun p hp => by
      rcases List.mem_cons.mp hp with rfl | hp
      · exact .head _
      · exact .tail _ (sub p hp)) hge
  k_dflt (refine' drivers B1 F1 X1 N1 T1 ?hk ?hdp ?hu hnt hnd hce hin hti hgl hg hgn hC hlen hgb hcb ?ret ?err; (case hk => first | exact rfl | assumption); (case hdp => ((try simp only [depth_under_make, depth_under_kw, depth_in1, depth_deeper, depth_caller]); (try dsimp only [ktrTop]); first | omega | decide)); (case hu => ((try simp only [units_in1, units_deeper, Around.mark_units, units_caller]); (try dsimp only [ktrTop]); first | omega | decide)))
  case err => exact fun hn => lift (fun p hp => hp) (err hn) ⟨_, _, rfl⟩
  intro hn D o kvs h' tk' F2 N2 hO hDrv hlt hlo
  k_steps
  refine hold_in ?_
  have hC2 : CellsIn ((D, o) :: news) cv cells := hC.mono fun p hp => .tail _ hp
  k_dflt (refine' ordered B1 (by k_asm) X1 N2 T1 ?hk ?hdp ?hu (.tail _ hnt) (.tail _ hnd) (.tail _ hce) (.head _) hO hDrv hlo hC2 hlen hins ?_; (case hk => first | exact rfl | assumption); (case hdp => ((try simp only [depth_under_make, depth_under_kw, depth_in1, depth_deeper, depth_caller]); (try dsimp only [ktrTop]); first | omega | decide)); (case hu => ((try simp only [units_in1, units_deeper, Around.mark_units, units_caller]); (try dsimp only [ktrTop]); first | omega | decide)))
  intro D2 ys r n h2 tk2 F3 N3 hys hOrd hlt2
  have hyl := hys.length
  simp only [natInts, List.length_map] at hyl
  have hrn := nodup_lt_length hOrd.nodup fun x hx => gateAt_lt (hOrd.gate x hx)
  have hcvl := hC.1
  k_steps
  refine hold_in ?_
  have hC3 : CellsIn ((D2, listOf ys.toArray n) :: (D, o) :: news) cv cells := hC2.mono fun p hp => .tail _ hp
  k_dflt (refine' state_cells B1 (by k_asm) X1 (by k_asm) T1 ?hk ?hdp ?hu (.tail _ (.tail _ hnt)) (.tail _ (.tail _ hnd)) (.tail _ (.tail _ hce)) hC3 hlen ?_; (case hk => first | exact rfl | assumption); (case hdp => ((try simp only [depth_under_make, depth_under_kw, depth_in1, depth_deeper, depth_caller]); (try dsimp only [ktrTop]); first | omega | decide)); (case hu => ((try simp only [units_in1, units_deeper, Around.mark_units, units_caller]); (try dsimp only [ktrTop]); first | omega | decide)))
  intro D3 ys3 n3' h3 tk3 F4 N4 hys3 hlt3
  have hyl3 := hys3.length
  have hil := idxs_length_le (fun x => isState x.kind) cells cells.length
  have hce' : (ceL, listOf cv.toArray n1) ∈ ((D3, listOf ys3.toArray n3') :: (D2, listOf ys.toArray n) :: (D, o) :: news) := .tail _ (.tail _ (.tail _ hce))
  have N5 : News _ _ h3 ((nt, instObj 134 nd) :: (nd, netD w k1 k2 k3 k4 k5 nv c tc inL outL ceL) :: (ceL, listOf cv.toArray n1) :: (D3, listOf ys3.toArray n3') :: (D2, listOf ys.toArray n) :: (D, o) :: news) :=
    List.forall_mem_cons.mpr ⟨N4 _ (.tail _ (.tail _ (.tail _ hnt))), List.forall_mem_cons.mpr ⟨N4 _ (.tail _ (.tail _ (.tail _ hnd))), List.forall_mem_cons.mpr ⟨N4 _ hce', N4⟩⟩⟩
  k_steps
  · rename getL _ _ = some (some _) => hge
    exact raise_up B1 FG1 (by k_asm) (by k_asm) (fun p hp => by repeat (first | exact hp | apply List.mem_cons_of_mem)) (by assumption) (by assumption) hge (err2 hn r hOrd (by omega)) rfl
  · rename_i kF kN _ _
    exact ret hn D2 ys r n _ _ kF (fun p hp => kN p (by
      rcases List.mem_cons.mp hp with rfl | hp
      · exact .tail _ (.tail _ (.tail _ (.tail _ (.head _))))
      · exact .tail _ (.tail _ (.tail _ (.tail _ (.tail _ (.tail _ hp))))))) hys hOrd (by omega) (fun p hp => hlt2 p (.tail _ hp))
end
theorem reset_28 : True := by
  w_top off
  trivial
section
/-- the net that the cell g drives -/
noncomputable def outAt (cells : List Cell) (g : Nat) : Int := match cells[g]? with | some c => c.out | none => 0
theorem outAt_of {cells : List Cell} {i : Nat} (hi : i < cells.length) : outAt cells i = cells[i].out := by
  unfold outAt; rw [List.getElem?_eq_getElem hi]
/-- the combinational cells, rising -/
noncomputable def gates (cells : List Cell) : List Nat := (List.range cells.length).filter (gateAt cells)
theorem mem_gates {cells : List Cell} {g : Nat} : g ∈ gates cells ↔ gateAt cells g = true := by
  unfold gates
  rw [List.mem_filter, List.mem_range]
  exact ⟨fun h => h.2, fun h => ⟨gateAt_lt h, h⟩⟩
noncomputable def readyOf (cells : List Cell) (left : List Nat) (done : List Int) : List Nat := left.filter fun g => (insAt cells g).all fun x => decide (x ∈ done)
noncomputable def done0 (cells : List Cell) (pool : List Int) : List Int := pool.filter fun x => decide (x ∉ (gates cells).map (outAt cells))
/-- the law's layers: what is left and what is driven -/
noncomputable def lay (cells : List Cell) (pool : List Int) : Nat → List Nat × List Int
  | 0 => (gates cells, done0 cells pool)
  | k + 1 => ((lay cells pool k).1.filter fun g => decide (g ∉ readyOf cells (lay cells pool k).1 (lay cells pool k).2), (lay cells pool k).2 ++ (readyOf cells (lay cells pool k).1 (lay cells pool k).2).map (outAt cells))
theorem mem_readyOf {cells : List Cell} {l : List Nat} {d : List Int} {g : Nat} : g ∈ readyOf cells l d ↔ g ∈ l ∧ ∀ x ∈ insAt cells g, x ∈ d := by
  unfold readyOf
  rw [List.mem_filter, List.all_eq_true]
  simp
theorem lay_gate {cells : List Cell} {pool : List Int} : ∀ {k g : Nat}, g ∈ (lay cells pool k).1 → gateAt cells g = true
  | 0, _, h => mem_gates.mp h
  | _ + 1, _, h => lay_gate (List.mem_filter.mp h).1
theorem lay_done {cells : List Cell} {pool : List Int} {x : Int} (h : x ∈ done0 cells pool) : ∀ k, x ∈ (lay cells pool k).2
  | 0 => h
  | k + 1 => List.mem_append_left _ (lay_done h k)
theorem lay_next {cells : List Cell} {pool : List Int} {k g : Nat} : g ∈ (lay cells pool (k + 1)).1 ↔ g ∈ (lay cells pool k).1 ∧ g ∉ readyOf cells (lay cells pool k).1 (lay cells pool k).2 := by
  show g ∈ List.filter _ _ ↔ _
  rw [List.mem_filter]
  simp
theorem lay_out {cells : List Cell} {pool : List Int} : ∀ {k g : Nat}, gateAt cells g = true → g ∉ (lay cells pool k).1 → outAt cells g ∈ (lay cells pool k).2
  | 0, _, hg, h => absurd (mem_gates.mpr hg) h
  | k + 1, g, hg, h => by
    by_cases hk : g ∈ (lay cells pool k).1
    · have hr : g ∈ readyOf cells (lay cells pool k).1 (lay cells pool k).2 := by
        by_cases hr : g ∈ readyOf cells (lay cells pool k).1 (lay cells pool k).2
        · exact hr
        · exact absurd (lay_next.mpr ⟨hk, hr⟩) h
      exact List.mem_append_right _ (List.mem_map.mpr ⟨g, hr, rfl⟩)
    · exact List.mem_append_left _ (lay_out hg hk)
theorem out_inj {cells : List Cell} (hn : (cells.map Cell.out).Nodup) {i j : Nat} (hi : i < cells.length) (hj : j < cells.length) (h : outAt cells i = outAt cells j) : i = j := by
  rw [outAt_of hi, outAt_of hj] at h
  have hp := List.pairwise_iff_getElem.mp hn
  rcases Nat.lt_trichotomy i j with h1 | h1 | h1
  · exact absurd (by rw [List.getElem_map, List.getElem_map]; exact h) (hp i j (by simpa using hi) (by simpa using hj) h1)
  · exact h1
  · exact absurd (by rw [List.getElem_map, List.getElem_map]; exact h.symm) (hp j i (by simpa using hj) (by simpa using hi) h1)
theorem drv_out {cells : List Cell} (hn : (cells.map Cell.out).Nodup) {j : Nat} (hj : j < cells.length) : drv cells (outAt cells j) = some j := by
  unfold drv
  cases hf : (List.range cells.length).find? fun k => (cells[k]?).any fun c => c.out == outAt cells j with
  | none =>
    have := List.find?_eq_none.mp hf j (List.mem_range.mpr hj)
    rw [List.getElem?_eq_getElem hj, outAt_of hj] at this
    simp at this
  | some k =>
    have h1 := List.find?_some hf
    have hk : k < cells.length := List.mem_range.mp (List.mem_of_find?_eq_some hf)
    rw [List.getElem?_eq_getElem hk] at h1
    simp only [Option.any_some, beq_iff_eq] at h1
    rw [out_inj hn hk hj (by rw [outAt_of hk]; exact h1)]
theorem mem_preds_of {cells : List Cell} (hn : (cells.map Cell.out).Nodup) {g j : Nat} (hj : gateAt cells j = true) (hx : outAt cells j ∈ insAt cells g) : j ∈ preds cells g := by
  unfold preds predsL
  rw [List.mem_filterMap]
  exact ⟨_, hx, by rw [drv_out hn (gateAt_lt hj), Option.filter_some, if_pos hj]⟩
theorem preds_mem {cells : List Cell} {g p : Nat} (h : p ∈ preds cells g) : gateAt cells p = true ∧ outAt cells p ∈ insAt cells g := by
  unfold preds predsL at h
  rw [List.mem_filterMap] at h
  obtain ⟨x, hx, hp⟩ := h
  cases hd : drv cells x with
  | none => rw [hd] at hp; cases hp
  | some j =>
    rw [hd, Option.filter_some] at hp
    by_cases hg : gateAt cells j = true
    · rw [if_pos hg] at hp
      obtain rfl := Option.some.inj hp
      refine ⟨hg, ?_⟩
      have h1 := List.find?_some hd
      have hj := gateAt_lt hg
      rw [List.getElem?_eq_getElem hj] at h1
      simp only [Option.any_some, beq_iff_eq] at h1
      rw [outAt_of hj, h1]; exact hx
    · rw [if_neg hg] at hp; cases hp
theorem lay_placed {cells : List Cell} {pool : List Int} {r : List Nat} (hn : (cells.map Cell.out).Nodup) (hO : Ord cells r) (hp : ∀ g, gateAt cells g = true → ∀ x ∈ insAt cells g, x ∈ pool) :
    ∀ (k i : Nat) (x : Nat), i < k → r[i]? = some x → x ∉ (lay cells pool k).1 := by
  intro k
  induction k with
  | zero => intro i x h; exact absurd h (Nat.not_lt_zero _)
  | succ k ih =>
    intro i x hi hx hm
    obtain ⟨hm1, hm2⟩ := lay_next.mp hm
    rcases Nat.lt_succ_iff_lt_or_eq.mp hi with hi | rfl
    · exact ih i x hi hx hm1
    · refine hm2 (mem_readyOf.mpr ⟨hm1, fun y hy => ?_⟩)
      by_cases hg : y ∈ (gates cells).map (outAt cells)
      · obtain ⟨j, hj, rfl⟩ := List.mem_map.mp hg
        have hj := mem_gates.mp hj
        have hpr := hO.ord i x hx j (mem_preds_of hn hj hy)
        obtain ⟨t, ht, e⟩ := List.mem_iff_getElem.mp hpr
        rw [List.length_take] at ht
        rw [List.getElem_take] at e
        exact lay_out hj (ih t j (by omega) (by rw [List.getElem?_eq_getElem (by omega), e]))
      · refine lay_done (List.mem_filter.mpr ⟨hp x (hO.gate x (List.mem_of_getElem? hx)) y hy, ?_⟩) _
        simpa using hg
theorem lay_stuck {cells : List Cell} {pool : List Int} {r : List Nat} (hn : (cells.map Cell.out).Nodup) (hO : Ord cells r) :
    ∀ (k g : Nat), gateAt cells g = true → g ∉ r → g ∈ (lay cells pool k).1 ∧ outAt cells g ∉ (lay cells pool k).2 := by
  intro k
  induction k with
  | zero =>
    intro g hg _
    refine ⟨mem_gates.mpr hg, fun h => ?_⟩
    have := (List.mem_filter.mp h).2
    simp only [decide_eq_true_eq] at this
    exact this (List.mem_map.mpr ⟨g, mem_gates.mpr hg, rfl⟩)
  | succ k ih =>
    intro g hg hr
    obtain ⟨h1, h2⟩ := ih g hg hr
    have hnr : ∀ g, gateAt cells g = true → g ∉ r → g ∉ readyOf cells (lay cells pool k).1 (lay cells pool k).2 := fun g hg hr h => by
      obtain ⟨p, hp, hpr⟩ := hO.full g hg hr
      obtain ⟨hpg, hpo⟩ := preds_mem hp
      exact (ih p hpg hpr).2 ((mem_readyOf.mp h).2 _ hpo)
    refine ⟨lay_next.mpr ⟨h1, hnr g hg hr⟩, fun h => ?_⟩
    rcases List.mem_append.mp h with h | h
    · exact h2 h
    · obtain ⟨j, hj, e⟩ := List.mem_map.mp h
      have hjg : gateAt cells j = true := lay_gate (mem_readyOf.mp hj).1
      obtain rfl := out_inj hn (gateAt_lt hjg) (gateAt_lt hg) e
      exact hnr j hg hr hj
theorem pigeon : ∀ {r l : List Nat}, r.Nodup → (∀ x ∈ r, x ∈ l) → r.length ≤ l.length
  | [], _, _, _ => Nat.zero_le _
  | x :: r, l, hn, h => by
    obtain ⟨hx, hn⟩ := List.nodup_cons.mp hn
    have hm := h x (.head _)
    have := pigeon (r := r) (l := l.erase x) hn fun y hy => by
      have hne : y ≠ x := fun e => hx (e ▸ hy)
      exact (List.mem_erase_of_ne hne).mpr (h y (.tail _ hy))
    rw [List.length_erase_of_mem hm] at this
    have hl : 0 < l.length := List.length_pos_of_mem hm
    rw [List.length_cons]; omega
theorem gates_nodup (cells : List Cell) : (gates cells).Nodup := List.Nodup.sublist List.filter_sublist List.nodup_range
theorem gates_states (cells : List Cell) : (gates cells).length + (idxs (fun x => isState x.kind) cells cells.length).length = cells.length := by
  unfold gates idxs
  rw [List.length_map]
  have key : ∀ l : List Nat, (∀ x ∈ l, x < cells.length) → (l.filter (gateAt cells)).length + (l.filter fun j => (cells[j]?).any fun x => isState x.kind).length = l.length := by
    intro l
    induction l with
    | nil => intro _; rfl
    | cons a l ih =>
      intro h
      have ha := h a (.head _)
      have := ih fun x hx => h x (.tail _ hx)
      have e1 := gateAt_of ha
      have e2 : (cells[a]?).any (fun x => isState x.kind) = isState cells[a].kind := by rw [List.getElem?_eq_getElem ha]; rfl
      cases hs : isState cells[a].kind with
      | true =>
        rw [hs] at e1 e2
        rw [List.filter_cons_of_neg (by rw [e1]; decide), List.filter_cons_of_pos (p := fun j => (cells[j]?).any fun (x : Cell) => isState x.kind) e2, List.length_cons, List.length_cons]; omega
      | false =>
        rw [hs] at e1 e2
        rw [List.filter_cons_of_pos e1, List.filter_cons_of_neg (p := fun j => (cells[j]?).any fun (x : Cell) => isState x.kind) (by rw [e2]; decide), List.length_cons, List.length_cons]; omega
  have := key (List.range cells.length) fun x hx => List.mem_range.mp hx
  rw [List.length_range] at this
  exact this
theorem lay_empty {cells : List Cell} {pool : List Int} {r : List Nat} (hn : (cells.map Cell.out).Nodup) (hO : Ord cells r) (hp : ∀ g, gateAt cells g = true → ∀ x ∈ insAt cells g, x ∈ pool)
    (hl : cells.length ≤ r.length + (idxs (fun x => isState x.kind) cells cells.length).length) : (lay cells pool cells.length).1 = [] ∧ r.Perm (gates cells) := by
  have hs := gates_states cells
  have hrg : ∀ x ∈ r, x ∈ gates cells := fun x hx => mem_gates.mpr (hO.gate x hx)
  have hall : ∀ g, gateAt cells g = true → g ∈ r := fun g hg => by
    by_cases hr : g ∈ r
    · exact hr
    · have := pigeon (r := g :: r) (l := gates cells) (List.nodup_cons.mpr ⟨hr, hO.nodup⟩) fun x hx => by
        rcases List.mem_cons.mp hx with rfl | hx
        · exact mem_gates.mpr hg
        · exact hrg x hx
      rw [List.length_cons] at this; omega
  have hrl : r.length ≤ cells.length := nodup_lt_length hO.nodup fun x hx => gateAt_lt (hO.gate x hx)
  constructor
  · refine List.eq_nil_iff_forall_not_mem.mpr fun g hg => ?_
    obtain ⟨i, hi, e⟩ := List.mem_iff_getElem.mp (hall g (lay_gate hg))
    exact lay_placed hn hO hp cells.length i g (by omega) (by rw [List.getElem?_eq_getElem hi, e]) hg
  · rw [List.perm_iff_count]
    intro a
    by_cases ha : a ∈ r
    · rw [hO.nodup.count, (gates_nodup cells).count, if_pos ha, if_pos (hrg a ha)]
    · rw [List.count_eq_zero_of_not_mem ha, List.count_eq_zero_of_not_mem fun h => ha (hall a (mem_gates.mp h))]
theorem lay_some {cells : List Cell} {pool : List Int} {r : List Nat} (hn : (cells.map Cell.out).Nodup) (hO : Ord cells r)
    (hl : r.length + (idxs (fun x => isState x.kind) cells cells.length).length < cells.length) : (lay cells pool cells.length).1 ≠ [] := by
  intro h
  have hs := gates_states cells
  have hall : ∀ g ∈ gates cells, g ∈ r := fun g hg => by
    by_cases hr : g ∈ r
    · exact hr
    · have := (lay_stuck (pool := pool) hn hO cells.length g (mem_gates.mp hg) hr).1
      rw [h] at this; exact nomatch this
  have := pigeon (gates_nodup cells) hall
  omega
theorem natInts_pairwise : ∀ {l : List Nat}, l.Pairwise (· < ·) → (natInts l).Pairwise (· ≤ ·) := fun h => by
  unfold natInts
  rw [List.pairwise_map]
  exact h.imp fun h => by omega
theorem gates_sorted (cells : List Cell) : (natInts (gates cells)).Pairwise (· ≤ ·) := natInts_pairwise (List.Pairwise.sublist List.filter_sublist List.pairwise_lt_range)
theorem sorted_unique : ∀ {a b : List Int}, a.Perm b → a.Pairwise (· ≤ ·) → b.Pairwise (· ≤ ·) → a = b := fun p ha hb => List.Perm.eq_of_pairwise (fun _ _ _ _ h1 h2 => Int.le_antisymm h1 h2) ha hb p
theorem sorted_gates {cells : List Cell} {r : List Nat} {ns : List Int} (hr : r.Perm (gates cells)) (h : ns.Perm (natInts r)) (hs : ns.Pairwise (· ≤ ·)) : ns = natInts (gates cells) :=
  sorted_unique (h.trans (hr.map _)) hs (gates_sorted cells)
end
theorem reset_29 : True := by
  w_top off
  trivial
section
theorem off1_all {D : Addr} : ∀ {l : List (Addr × Obj)}, LCg.Off1 D l → ∀ p ∈ l, @Ne Nat p.1 D
  | [], _, _, h => nomatch h
  | _ :: _, ⟨h1, h2⟩, p, h => by
    rcases List.mem_cons.mp h with rfl | h
    · exact h1
    · exact off1_all h2 p h
theorem gates_succ (cells : List Cell) (i : Nat) : (List.range (i + 1)).filter (gateAt cells) = (List.range i).filter (gateAt cells) ++ if gateAt cells i = true then [i] else [] := by
  rw [List.range_succ, List.filter_append]
  congr 1
  by_cases h : gateAt cells i = true
  · rw [if_pos h, List.filter_cons_of_pos h]; rfl
  · rw [if_neg h, List.filter_cons_of_neg h]; rfl
theorem natInts_append (a b : List Nat) : natInts (a ++ b) = natInts a ++ natInts b := List.map_append
theorem is_state_any (k : Str) : ([Str.ofString "flop", Str.ofString "latch"].any fun x => x == k) = isState k := by
  unfold isState
  rw [List.any_cons, List.any_cons, List.any_nil, Bool.or_false, Bool.beq_comm (a := Str.ofString "flop"), Bool.beq_comm (a := Str.ofString "latch")]
theorem lawE {w : World} {loose : List Str} {mean : ExcName → Option Value} {mg mb : Str → Option Value} {cx : Cx} {A₀ : Around} {base h₀ : Heap} {L : Addr} {m : Str → Option Value} {s : Shared} {Q : Flow → Shared → Prop} {rL : Addr} {rv : List Value} {kr : Nat} {cells : List Cell} {o o3 : Obj} {many : Int} {tkm : Tok} {news : List (Addr × Obj)}
    (B : Below A₀ base cx.outer h₀) (X : (hd.heap_39 w.params).In h₀) (T : Top hd.view_39 loose mean mg mb h₀) (hdp : cx.dp < 800) (hu : cx.un < 800) (F : Fr h₀ L s.heap (lm [(Str.ofString "many", .int many tkm)] m)) (N : News h₀ L s.heap ((L + 1 + 1 + 1, o3) :: news)) (hn3 : ∀ p ∈ news, p.1 ≠ L + 1 + 1 + 1) (ho3 : o3.data = .cell none)
    (hrL : (rL, listOf rv.toArray kr) ∈ news) (hrc : (L + 1, o) ∈ news) (hro : o.data = .cell (some (.ref rL))) (hR : RowsIn news rv cells) (hcl : (cells.length : Int) = many) (hm1 : many < 13)
    (ret : ∀ gA gv h' tk' o', Fr h₀ L h' (lm [(Str.ofString "many", .int many tkm)] m) → News h₀ L h' ((L + 1 + 1 + 1, o') :: (gA, LCg.lst gv) :: news) → o'.data = .cell (some (.ref gA)) → IntsAre gv (natInts (gates cells)) → 
      (∀ p ∈ news, @Ne Nat p.1 gA) → @Ne Nat (L + 1 + 1 + 1) gA → Q .next { s with heap := h', toks := tk' }) :
    wpAny (model Challenge.rw_nn0302_01.row.prog w) (lawAt cx w L) (execs (piece w 14 1) (lawEnv cx w L)) Q (fun _ _ => False) s := by
  have hrl := hR.1
  unfold piece lawBody lookBody
  dsimp only [List.drop, List.take]
  k_steps
  refine hold_in ?_
  rename_i v1 v2 v3 v4 v5 hr F2 N2 K2
  refine compT_range (n := cells.length) (fun i ys nw => nw = (L + 1 + 1 + 1, o3) :: news ∧ IntsAre ys (natInts ((List.range i).filter (gateAt cells)))) (by rfl) (by k_asm) (by k_asm) hr (range_small (by omega) (by omega)) (range_size (by omega)) (by rw [sizeLine_eq]; omega) ⟨rfl, .nil⟩ ?_ ?_
  · rintro i ti ys nw I oI C oC D m₂ h tk E' hi ⟨rfl, hy⟩ hC hx F3 N3 off ne
    obtain ⟨v', hv', a1, la, q1, q2, vs, t1, t2, rfl, ha, hla, hI⟩ := hR.2 i hi
    have hv2 : rv[(0 + (i : Int)).toNat]? = some (.ref a1) := by simpa using hv'
    have hg := gateAt_of hi
    have hgs := gates_succ cells i
    k_steps
    · refine hold_in ?_
      rename _ = true => hst
      have hst := (is_state_any cells[i].kind).symm.trans hst
      rw [hst] at hg
      rw [hgs, hg, if_neg (by decide), List.append_nil]
      exact compEnd ((L + 1 + 1 + 1, o3) :: news) (by k_asm) (by k_asm) (by k_allIn) off trivial ⟨rfl, hy⟩
    · refine hold_in ?_
      rename _ = false => hst
      have hst := (is_state_any cells[i].kind).symm.trans hst
      rw [hst] at hg
      rw [hgs, hg, if_pos (by decide), natInts_append]
      refine compEnd ((L + 1 + 1 + 1, o3) :: news) (by k_asm) (by k_asm) (by k_allIn) off trivial ⟨rfl, ?_⟩
      rw [Int.zero_add]
      exact ints_snoc hy
  · rintro g ys nw ⟨rfl, hy⟩
    k_steps
    rename_i D1 h1 tk1 o1 h2 o2 F4 N4 hd4
    exact ret D1 ys _ _ _ F4 (fun p hp => N4 p (by revert p; k_allIn)) hd4 hy (off1_all o1.2) o1.1
end
theorem reset_30 : True := by
  w_top off
  trivial
section
theorem filter_step {l : List Int} {i : Nat} (hi : i < l.length) (p : Int → Bool) : (l.take (i + 1)).filter p = (l.take i).filter p ++ if p l[i] = true then [l[i]] else [] := by
  rw [List.take_succ_eq_append_getElem hi, List.filter_append]
  congr 1
  by_cases h : p l[i] = true
  · rw [if_pos h, List.filter_cons_of_pos h]; rfl
  · rw [if_neg h, List.filter_cons_of_neg h]; rfl
theorem any_dec (l : List Int) (k : Int) : (l.any fun x => x == k) = decide (k ∈ l) := by
  rw [Bool.eq_iff_iff, List.any_eq_true, decide_eq_true_eq]
  constructor
  · rintro ⟨x, hx, he⟩
    rw [← eq_of_beq he]; exact hx
  · exact fun h => ⟨k, h, beq_self_eq_true k⟩
/-- the nets that the cells gs drive -/
noncomputable def outsOf (cells : List Cell) (gs : List Nat) : List Int := gs.map (outAt cells)
theorem natInts_get {l : List Nat} {i : Nat} (h : i < (natInts l).length) : ∃ hi : i < l.length, (natInts l)[i] = ((l[i] : Nat) : Int) := by
  unfold natInts at h ⊢
  rw [List.length_map] at h
  exact ⟨h, List.getElem_map _⟩
theorem lawF {w : World} {loose : List Str} {mean : ExcName → Option Value} {mg mb : Str → Option Value} {cx : Cx} {A₀ : Around} {base h₀ : Heap} {L : Addr} {m : Str → Option Value} {s : Shared} {Q : Flow → Shared → Prop} {rL pL gA : Addr} {rv plv gv : List Value} {kr : Nat} {poolI : List Int} {cells : List Cell} {o o3 o4 : Obj} {news : List (Addr × Obj)}
    (B : Below A₀ base cx.outer h₀) (X : (hd.heap_39 w.params).In h₀) (T : Top hd.view_39 loose mean mg mb h₀) (hdp : cx.dp < 800) (hu : cx.un < 800) (F : Fr h₀ L s.heap (lm [(Str.ofString "pool", .ref pL)] m)) (N : News h₀ L s.heap ((L + 1 + 1 + 1 + 1, o4) :: news)) (hn4 : ∀ p ∈ news, p.1 ≠ L + 1 + 1 + 1 + 1) (ho4 : o4.data = .cell none)
    (hrL : (rL, listOf rv.toArray kr) ∈ news) (hrc : (L + 1, o) ∈ news) (hro : o.data = .cell (some (.ref rL))) (hgA : (gA, LCg.lst gv) ∈ news) (hgc : (L + 1 + 1 + 1, o3) ∈ news) (hgo : o3.data = .cell (some (.ref gA)))
    (hpL : (pL, listOf plv.toArray 0) ∈ news) (hR : RowsIn news rv cells) (hcl : cells.length ≤ 12) (hG : IntsAre gv (natInts (gates cells))) (hP : IntsAre plv poolI) (hpl : plv.length ≤ 20)
    (ret : ∀ dA dv h' tk' o', Fr h₀ L h' (lm [(Str.ofString "pool", .ref pL)] m) → News h₀ L h' ((L + 1 + 1 + 1 + 1, o') :: (dA, LCg.lst dv) :: news) → o'.data = .cell (some (.ref dA)) → IntsAre dv (done0 cells poolI) → 
      (∀ p ∈ news, @Ne Nat p.1 dA) → @Ne Nat (L + 1 + 1 + 1 + 1) dA → Q .next { s with heap := h', toks := tk' }) :
    wpAny (model Challenge.rw_nn0302_01.row.prog w) (lawAt cx w L) (execs (piece w 15 1) (lawEnv cx w L)) Q (fun _ _ => False) s := by
  have hrl := hR.1
  have hpl2 := hP.length
  have hgl := hG.length
  have hgn : (gates cells).length ≤ 12 := Nat.le_trans (by have := gates_states cells; omega) hcl
  simp only [natInts, List.length_map] at hgl
  unfold piece lawBody lookBody
  dsimp only [List.drop, List.take]
  k_steps
  refine hold_in ?_
  refine compT_list (k := 0) (fun i ys nw => nw = (L + 1 + 1 + 1 + 1, o4) :: news ∧ IntsAre ys ((poolI.take i).filter fun x => decide (x ∉ (gates cells).map (outAt cells)))) (by rfl) (by k_asm) (by k_asm) (by k_mem) (by rw [sizeLine_eq]; omega) ⟨rfl, .nil⟩ ?_ ?_
  · rintro i v ys nw I oI C oC D m₂ h tk E' hv ⟨rfl, hy⟩ hC hx F3 N3 off ne
    have hi : i < poolI.length := by
      have := (List.getElem?_eq_some_iff.mp hv).1
      omega
    obtain ⟨tv, rfl⟩ := ints_at hP hi hv
    have hst := filter_step hi fun x => decide (x ∉ (gates cells).map (outAt cells))
    k_steps
    refine hold_in ?_
    refine comp_list (k := gv.length) (fun j zs nw2 => nw2 = (I, oI) :: (C, oC) :: (D, LCg.lst ys) :: (L + 1 + 1 + 1 + 1, o4) :: news ∧ IntsAre zs (outsOf cells ((gates cells).take j))) (by rfl) (by k_asm) (by k_asm) (by k_mem) (by rw [sizeLine_eq]; omega) ⟨rfl, .nil⟩ ?_ ?_
    · rintro j v zs nw2 I2 oI2 C2 oC2 D2 m2 hh2 tk2 E2 hv2 ⟨rfl, hz⟩ hC2 hx2 F4 N4 off2 ne2
      have hj : j < (natInts (gates cells)).length := by
        rw [← hG.length]; exact (List.getElem?_eq_some_iff.mp hv2).1
      obtain ⟨tg, rfl⟩ := ints_at hG hj hv2
      obtain ⟨hj2, e2⟩ := natInts_get hj
      rw [e2] at hx2 hv2
      have hgl2 := gateAt_lt (mem_gates.mp (List.getElem_mem hj2))
      obtain ⟨v', hv', a1, la, q1, q2, vs, t1, t2, rfl, ha, hla, hI⟩ := hR.2 _ hgl2
      have hv3 : rv[(((gates cells)[j] : Nat) : Int).toNat]? = some (.ref a1) := by simpa using hv'
      k_steps
      refine hold_in ?_
      refine compEnd ((I, oI) :: (C, oC) :: (D, LCg.lst ys) :: (L + 1 + 1 + 1 + 1, o4) :: news) (by k_asm) (by k_asm) (by k_allIn) off2 (.inr ⟨_, by k_mem, rfl, _, rfl⟩) ⟨rfl, ?_⟩
      rw [List.take_succ_eq_append_getElem hj2]
      unfold outsOf at hz ⊢
      rw [List.map_append]
      rw [show List.map (outAt cells) [(gates cells)[j]] = [cells[(gates cells)[j]].out] from congrArg (fun x => [x]) (outAt_of hgl2)]
      exact ints_snoc hz
    · rintro g2 zs nw2 ⟨rfl, hz⟩
      rw [hgl, List.take_length] at hz
      k_steps
      · rename _ = true => hin
        rw [any_dec, decide_eq_true_eq] at hin
        replace hin : poolI[i] ∈ (gates cells).map (outAt cells) := hin
        refine hold_in ?_
        rw [hst, if_neg (by rw [decide_eq_true_eq]; exact fun h => h hin), List.append_nil]
        exact compEnd ((L + 1 + 1 + 1 + 1, o4) :: news) (by k_asm) (by k_asm) (by k_allIn) off (.inr ⟨_, .tail _ hpL, rfl, _, rfl⟩) ⟨rfl, hy⟩
      · rename _ = false => hin
        rw [any_dec, decide_eq_false_iff_not] at hin
        replace hin : ¬ poolI[i] ∈ (gates cells).map (outAt cells) := hin
        refine hold_in ?_
        rw [hst, if_pos (decide_eq_true hin)]
        exact compEnd ((L + 1 + 1 + 1 + 1, o4) :: news) (by k_asm) (by k_asm) (by k_allIn) off (.inr ⟨_, .tail _ hpL, rfl, _, rfl⟩) ⟨rfl, ints_snoc hy⟩
  · rintro g ys nw ⟨rfl, hy⟩
    rw [hpl2, List.take_length] at hy
    k_steps
    rename_i D1 h1 tk1 o1 h2 o2 F4 N4 hd4
    exact ret D1 ys _ _ _ F4 (fun p hp => N4 p (by revert p; k_allIn)) hd4 hy (off1_all o1.2) o1.1
end
theorem reset_31 : True := by
  w_top off
  trivial
section
theorem any_nat (l : List Nat) (k : Nat) : ((natInts l).any fun x => x == (k : Int)) = decide (k ∈ l) := by
  rw [any_dec]
  have : ((k : Int) ∈ natInts l) ↔ k ∈ l := by
    unfold natInts
    rw [List.mem_map]
    constructor
    · rintro ⟨a, ha, e⟩
      obtain rfl : a = k := by omega
      exact ha
    · exact fun h => ⟨k, h, rfl⟩
  simp only [this]
theorem eqGives_bool (a b : Bool) : MeetsSeq.EqGives (.bool a) (.bool b) (a == b) := fun prog w A E s Q h => by
  unfold eqBool
  show wpAny _ _ (if (Value.bool a == Value.bool b) = true then _ else _) Q E s
  by_cases hab : (Value.bool a == Value.bool b) = true
  · rw [if_pos hab]
    have e : a = b := by have := eq_of_beq hab; injection this
    subst e
    exact wpAny_bind (wpAny_rule (wpAny_pure (by simpa using h)))
  · rw [if_neg hab]
    exact wpAny_bind (eq_bool (wpAny_truthy_bool h))
noncomputable def isBoolV (k : Bool) : Value → Bool
  | .bool b => b == k
  | _ => false
theorem notin_bools {prog : Program} {w : World} {A : Around} {E : Value → Shared → Prop} {s : Shared} {l : Addr} {vs : List Value} {bs : List Bool} {k : Bool} {Q : Value → Shared → Prop} (hl : s.heap.IsList l vs.toArray) (hb : vs = bs.map Value.bool)
    (h : Q (.bool (!(bs.any (· == k)))) s) : wpAny (model prog w) A (compareOp .NotIn (.bool k) (.ref l)) Q E s := by
  subst hb
  refine SeqInW.notIn_listW (isBoolV k) (fun y hy => ?_) hl ?_
  · obtain ⟨b, -, rfl⟩ := List.mem_map.mp (by simpa using hy : y ∈ bs.map Value.bool)
    exact eqGives_bool b k
  · rw [← Array.any_toList, List.any_map]
    exact h
theorem not_false_any {l : List Int} {d : List Int} : (((l.map fun x => decide (x ∈ d))).any (· == false)) = !(l.all fun x => decide (x ∈ d)) := by
  rw [List.any_map, List.all_eq_not_any_not, Bool.not_not]
  congr 1
  funext x
  simp
theorem filter_split (l : List Nat) (p : Nat → Bool) : (l.filter fun g => decide (g ∉ l.filter p)).length + (l.filter p).length ≤ l.length := by
  have h : (l.filter fun g => decide (g ∉ l.filter p)) = l.filter fun g => !p g := by
    apply List.filter_congr
    intro x hx
    simp only [List.mem_filter, hx, true_and]
    cases hp : p x <;> simp
  rw [h]
  clear h
  induction l with
  | nil => simp
  | cons a l ih =>
    cases hp : p a with
    | true => rw [List.filter_cons_of_neg (by rw [hp]; decide), List.filter_cons_of_pos hp, List.length_cons, List.length_cons]; omega
    | false => rw [List.filter_cons_of_pos (p := fun g => !p g) (by rw [hp]; decide), List.filter_cons_of_neg (by rw [hp]; decide), List.length_cons, List.length_cons]; omega
theorem lay_len (cells : List Cell) (pool : List Int) : ∀ k, (lay cells pool k).1.length + (lay cells pool k).2.length ≤ cells.length + pool.length
  | 0 => by
    show (gates cells).length + (done0 cells pool).length ≤ _
    have := gates_states cells
    have : (done0 cells pool).length ≤ pool.length := List.length_filter_le _ _
    omega
  | k + 1 => by
    have ih := lay_len cells pool k
    show (List.filter _ _).length + (_ ++ _ : List Int).length ≤ _
    rw [List.length_append, List.length_map]
    have := filter_split (lay cells pool k).1 fun g => (insAt cells g).all fun x => decide (x ∈ (lay cells pool k).2)
    unfold readyOf
    omega
theorem filter_stepN {l : List Nat} {i : Nat} (hi : i < l.length) (p : Nat → Bool) : (l.take (i + 1)).filter p = (l.take i).filter p ++ if p l[i] = true then [l[i]] else [] := by
  rw [List.take_succ_eq_append_getElem hi, List.filter_append]
  congr 1
  by_cases h : p l[i] = true
  · rw [if_pos h, List.filter_cons_of_pos h]; rfl
  · rw [if_neg h, List.filter_cons_of_neg h]; rfl
inductive JG (L : Addr) (many : Int) (tkm : Tok) (vn vh vd : Value) (news : List (Addr × Obj)) (cells : List Cell) (poolI : List Int) (k : Nat) (m₁ : Str → Option Value) (nw : List (Addr × Obj)) : Prop
  | mk (m' : Str → Option Value) (lA : Addr) (lv : List Value) (kl : Nat) (dA : Addr) (dv : List Value) (kd : Nat) (o4' o5' : Obj) (c5 : Option Value)
    (h1 : m₁ = lm [(Str.ofString "left", .ref lA), (Str.ofString "many", .int many tkm), (Str.ofString "net", vn), (Str.ofString "held", vh), (Str.ofString "due", vd)] m')
    (h2 : nw = (L + 1 + 1 + 1 + 1, o4') :: (L + 1 + 1 + 1 + 1 + 1, o5') :: (dA, listOf dv.toArray kd) :: (lA, listOf lv.toArray kl) :: news) (h3 : o4'.data = .cell (some (.ref dA))) (h4 : o5'.data = .cell c5)
    (h5 : IntsAre lv (natInts (lay cells poolI k).1)) (h6 : IntsAre dv (lay cells poolI k).2) (h7 : @Ne Nat (L + 1 + 1 + 1 + 1) dA) (h8 : @Ne Nat (L + 1 + 1 + 1 + 1 + 1) dA) (h9 : @Ne Nat (L + 1 + 1 + 1 + 1) lA) (h10 : @Ne Nat (L + 1 + 1 + 1 + 1 + 1) lA) (h11 : ∀ p ∈ news, @Ne Nat p.1 lA)
theorem lawG {w : World} {loose : List Str} {mean : ExcName → Option Value} {mg mb : Str → Option Value} {cx : Cx} {A₀ : Around} {base h₀ : Heap} {L : Addr} {m : Str → Option Value} {s : Shared} {Q : Flow → Shared → Prop} {rL gA dA0 : Addr} {rv gv dv0 : List Value} {kr : Nat} {poolI : List Int} {cells : List Cell} {many : Int} {tkm : Tok} {o o3 o4 o5 : Obj} {vn vh vd : Value} {news : List (Addr × Obj)}
    (B : Below A₀ base cx.outer h₀) (X : (hd.heap_39 w.params).In h₀) (T : Top hd.view_39 loose mean mg mb h₀) (hdp : cx.dp < 800) (hu : cx.un < 800) (F : Fr h₀ L s.heap (lm [(Str.ofString "many", .int many tkm), (Str.ofString "net", vn), (Str.ofString "held", vh), (Str.ofString "due", vd)] m)) (N : News h₀ L s.heap ((L + 1 + 1 + 1 + 1, o4) :: (L + 1 + 1 + 1 + 1 + 1, o5) :: (dA0, LCg.lst dv0) :: news)) (hn4 : ∀ p ∈ news, p.1 ≠ L + 1 + 1 + 1 + 1) (hn5 : ∀ p ∈ news, p.1 ≠ L + 1 + 1 + 1 + 1 + 1) (ho4 : o4.data = .cell (some (.ref dA0))) (ho5 : o5.data = .cell none)
    (hd4 : @Ne Nat (L + 1 + 1 + 1 + 1) dA0) (hd5 : @Ne Nat (L + 1 + 1 + 1 + 1 + 1) dA0) (hrL : (rL, listOf rv.toArray kr) ∈ news) (hrc : (L + 1, o) ∈ news) (hro : o.data = .cell (some (.ref rL))) (hgA : (gA, LCg.lst gv) ∈ news) (hgc : (L + 1 + 1 + 1, o3) ∈ news) (hgo : o3.data = .cell (some (.ref gA)))
    (hR : RowsIn news rv cells) (hcl : (cells.length : Int) = many) (hm1 : many < 13) (hG : IntsAre gv (natInts (gates cells))) (hD0 : IntsAre dv0 (done0 cells poolI)) (hpl : poolI.length ≤ 20) (hins : ∀ x ∈ cells, x.ins.length ≤ 4)
    (ret : ∀ (lA : Addr) lv kl m' h' tk', (∀ p ∈ news, @Ne Nat p.1 lA) → Fr h₀ L h' (lm [(Str.ofString "left", .ref lA), (Str.ofString "many", .int many tkm), (Str.ofString "net", vn), (Str.ofString "held", vh), (Str.ofString "due", vd)] m') → News h₀ L h' ((lA, listOf lv.toArray kl) :: news) → IntsAre lv (natInts (lay cells poolI cells.length).1) → Q .next { s with heap := h', toks := tk' }) :
    wpAny (model Challenge.rw_nn0302_01.row.prog w) (lawAt cx w L) (execs (piece w 16 2) (lawEnv cx w L)) Q (fun _ _ => False) s := by
  have hrl := hR.1
  have hgl := hG.length
  have hgn : (gates cells).length ≤ 12 := by have := gates_states cells; omega
  simp only [natInts, List.length_map] at hgl
  unfold piece lawBody lookBody
  dsimp only [List.drop, List.take]
  k_steps
  refine list_cp (n := gv.length) (by k_asm) (by k_asm) (by k_mem) (by rw [sizeLine_eq]; omega) ?_
  intro h1 lA0 c1 F1 N1 hlt1 hL1
  obtain ⟨hL4, hL5, hL6, hlt1⟩ := hlt1
  k_steps
  refine hold_in ?_
  rename_i h2 F2 N2 h3 tk3 t1 u1 v1 hr F3 N3 K3
  refine loop_range (n := cells.length) (JG L many tkm vn vh vd news cells poolI)
    (by rfl) hr (range_small (by omega) (by omega)) (range_size (by omega)) F3 (fun p hp => N3 p (by revert p; k_allIn)) ⟨_, lA0, gv, c1, dA0, dv0, _, o4, o5, _, (lm_eq (by repeat (first | exact List.forall_mem_nil _ | refine List.forall_mem_cons.mpr ⟨rfl, ?_⟩))).symm, rfl, ho4, ho5, hG, hD0, hd4, hd5, Nat.ne_of_lt hL4, Nat.ne_of_lt hL5, fun p hp => Nat.ne_of_lt (lt_allLt hlt1 p hp)⟩ ?_ ?_
  · rintro k tk1 m₁ nw I oI h tk hk ⟨m', lA, lv, kl, dA, dv, kd, o4', o5', c5, rfl, rfl, ho4, ho5, hlv, hdv, e4, e5, e6, e7, hnl⟩ off F4 N4
    refine hideQ fun RR hQQ => ?_
    have hll := hlv.length
    have hdl := hdv.length
    have hlay := lay_len cells poolI k
    simp only [natInts, List.length_map] at hll
    have hI4 : @Ne Nat (L + 1 + 1 + 1 + 1) I := off _ (.head _)
    have hI5 : @Ne Nat (L + 1 + 1 + 1 + 1 + 1) I := off _ (.tail _ (.head _))
    have hId : @Ne Nat dA I := off _ (.tail _ (.tail _ (.head _)))
    have hIl : @Ne Nat lA I := off _ (.tail _ (.tail _ (.tail _ (.head _))))
    have hIn : ∀ p ∈ news, p.1 ≠ I := fun p hp => off p (.tail _ (.tail _ (.tail _ (.tail _ hp))))
    generalize hdone : (lay cells poolI k).2 = done at *
    generalize hleft : (lay cells poolI k).1 = left at *
    have hnext : lay cells poolI (k + 1) = (left.filter fun g => decide (g ∉ readyOf cells left done), done ++ (readyOf cells left done).map (outAt cells)) := by rw [← hdone, ← hleft]; rfl
    have hlg : ∀ g ∈ left, g < cells.length := fun g hg => gateAt_lt (lay_gate (k := k) (pool := poolI) (by rw [hleft]; exact hg))
    k_steps
    refine hold_in ?_
    rename_i h5 F5 N5
    refine compT_list (k := kl) (fun i ys nw2 => nw2 = (I, oI) :: (L + 1 + 1 + 1 + 1, o4') :: (L + 1 + 1 + 1 + 1 + 1, o5') :: (dA, listOf dv.toArray kd) :: (lA, listOf lv.toArray kl) :: news ∧ IntsAre ys (natInts (readyOf cells (left.take i) done))) (by rfl) (by k_asm) (by k_asm) (by k_mem) (by rw [sizeLine_eq]; omega) ⟨rfl, .nil⟩ ?_ ?_
    · rintro i v ys nw2 I2 oI2 C2 oC2 D2 m2 hh2 tk2 E2 hv ⟨rfl, hy⟩ hC2 hx2 F6 N6 off2 ne2
      have hi' : i < (natInts left).length := by
        rw [← hlv.length]; exact (List.getElem?_eq_some_iff.mp hv).1
      obtain ⟨tg, rfl⟩ := ints_at hlv hi' hv
      obtain ⟨hi, e1⟩ := natInts_get hi'
      rw [e1] at hx2 hv
      have hgl2 := hlg _ (List.getElem_mem hi)
      obtain ⟨v', hv', a1, la, q1, q2, vs, t1, t2, rfl, ha, hla, hI⟩ := hR.2 _ hgl2
      have hv3 : rv[((left[i] : Nat) : Int).toNat]? = some (.ref a1) := by simpa using hv'
      have hil := hI.length
      have hi4 := hins _ (List.getElem_mem hgl2)
      k_steps
      refine hold_in ?_
      refine comp_list (k := q2) (fun j zs nw3 => nw3 = (I2, oI2) :: (C2, oC2) :: (D2, LCg.lst ys) :: (I, oI) :: (L + 1 + 1 + 1 + 1, o4') :: (L + 1 + 1 + 1 + 1 + 1, o5') :: (dA, listOf dv.toArray kd) :: (lA, listOf lv.toArray kl) :: news ∧ zs = ((cells[left[i]].ins.take j).map fun x => decide (x ∈ done)).map Value.bool) (by rfl) (by k_asm) (by k_asm) (by k_mem) (by rw [sizeLine_eq]; omega) ⟨rfl, rfl⟩ ?_ ?_
      · rintro j v zs nw3 I3 oI3 C3 oC3 D3 m3 hh3 tk3 E3 hv5 ⟨rfl, hz⟩ hC3 hx3 F7 N7 off3 ne3
        have hj : j < cells[left[i]].ins.length := by
          rw [← hI.length]; exact (List.getElem?_eq_some_iff.mp hv5).1
        obtain ⟨tz, rfl⟩ := ints_at hI hj hv5
        k_steps
        refine hold_in ?_
        rw [any_dec]
        refine compEnd ((I2, oI2) :: (C2, oC2) :: (D2, LCg.lst ys) :: (I, oI) :: (L + 1 + 1 + 1 + 1, o4') :: (L + 1 + 1 + 1 + 1 + 1, o5') :: (dA, listOf dv.toArray kd) :: (lA, listOf lv.toArray kl) :: news) (by k_asm) (by k_asm) (by k_allIn) off3 (.inr ⟨_, by k_mem, rfl, _, rfl⟩) ⟨rfl, ?_⟩
        rw [hz, List.take_succ_eq_append_getElem hj, List.map_append, List.map_append]
        rfl
      · rintro g2 zs nw3 ⟨rfl, hz⟩
        rw [hil, List.take_length] at hz
        k_steps
        refine notin_bools (News.isList (by k_asm) (.head _)) hz ?_
        rw [not_false_any, Bool.not_not]
        have hst := filter_stepN hi fun g => (insAt cells g).all fun x => decide (x ∈ done)
        have hia := insAt_of hgl2
        k_steps
        · rename _ = true => hin
          refine hold_in ?_
          refine compEnd ((I, oI) :: (L + 1 + 1 + 1 + 1, o4') :: (L + 1 + 1 + 1 + 1 + 1, o5') :: (dA, listOf dv.toArray kd) :: (lA, listOf lv.toArray kl) :: news) (by k_asm) (by k_asm) (by k_allIn) off2 (.inr ⟨_, by k_mem, rfl, _, rfl⟩) ⟨rfl, ?_⟩
          unfold readyOf at hy ⊢
          rw [hst, if_pos (by rw [hia]; exact hin), natInts_append]
          exact ints_snoc hy
        · rename _ = false => hin
          refine hold_in ?_
          refine compEnd ((I, oI) :: (L + 1 + 1 + 1 + 1, o4') :: (L + 1 + 1 + 1 + 1 + 1, o5') :: (dA, listOf dv.toArray kd) :: (lA, listOf lv.toArray kl) :: news) (by k_asm) (by k_asm) (by k_allIn) off2 (.inr ⟨_, by k_mem, rfl, _, rfl⟩) ⟨rfl, ?_⟩
          unfold readyOf at hy ⊢
          rw [hst, if_neg (by rw [hia, hin]; decide), List.append_nil]
          exact hy
    · rintro g2 ys nw2 ⟨rfl, hy⟩
      rw [hll, List.take_length] at hy
      k_steps
      refine hold_in ?_
      have hyl := hy.length
      simp only [natInts, List.length_map] at hyl
      rename_i D6 h6 tk6 F6 o16 h7 o6 F7 N7 hd6
      obtain ⟨i6, c46, c56, da6, la6, nw6⟩ := o16
      have hrl6 : (readyOf cells left done).length ≤ left.length := List.length_filter_le _ _
      have hrlt : ∀ g ∈ readyOf cells left done, g < cells.length := fun g hg => hlg g (mem_readyOf.mp hg).1
      generalize hrdy : readyOf cells left done = rdy at *
      refine comp_list (k := ys.length) (fun j zs nw3 => nw3 = (D6, LCg.lst ys) :: (I, oI) :: (L + 1 + 1 + 1 + 1, o4') :: (L + 1 + 1 + 1 + 1 + 1, o6) :: (dA, listOf dv.toArray kd) :: (lA, listOf lv.toArray kl) :: news ∧ IntsAre zs (outsOf cells (rdy.take j))) (by rfl) (by k_asm) (by k_asm) (by k_mem) (by rw [sizeLine_eq]; omega) ⟨rfl, .nil⟩ ?_ ?_
      · rintro j v zs nw3 I3 oI3 C3 oC3 D3 m3 hh3 tk3 E3 hv5 ⟨rfl, hz⟩ hC3 hx3 F8 N8 off3 ne3
        have hj' : j < (natInts rdy).length := by
          rw [← hy.length]; exact (List.getElem?_eq_some_iff.mp hv5).1
        obtain ⟨tg, rfl⟩ := ints_at hy hj' hv5
        obtain ⟨hj, e1⟩ := natInts_get hj'
        rw [e1] at hx3 hv5
        have hgl2 := hrlt _ (List.getElem_mem hj)
        obtain ⟨v', hv', a1, la, q1, q2, vs, t1, t2, rfl, ha, hla, hI⟩ := hR.2 _ hgl2
        have hv3 : rv[((rdy[j] : Nat) : Int).toNat]? = some (.ref a1) := by simpa using hv'
        k_steps
        refine hold_in ?_
        refine compEnd ((D6, LCg.lst ys) :: (I, oI) :: (L + 1 + 1 + 1 + 1, o4') :: (L + 1 + 1 + 1 + 1 + 1, o6) :: (dA, listOf dv.toArray kd) :: (lA, listOf lv.toArray kl) :: news) (by k_asm) (by k_asm) (by k_allIn) off3 (.inr ⟨_, by k_mem, rfl, _, rfl⟩) ⟨rfl, ?_⟩
        rw [List.take_succ_eq_append_getElem hj]
        unfold outsOf at hz ⊢
        rw [List.map_append]
        rw [show List.map (outAt cells) [rdy[j]] = [cells[rdy[j]].out] from congrArg (fun x => [x]) (outAt_of hgl2)]
        exact ints_snoc hz
      · rintro g3 zs nw3 ⟨rfl, hz⟩
        rw [hyl, List.take_length] at hz
        have hzl := hz.length
        unfold outsOf at hzl
        rw [List.length_map] at hzl
        k_steps
        refine hold_in ?_
        rename_i D8 h8 tk8 o18 D9 h9 dd h10 o10 F10 N10 hd10
        have d3 : @LT.lt Nat _ I D9 := lt_all dd (by k_mem)
        have d4 : @LT.lt Nat _ (L + 1 + 1 + 1 + 1) D9 := lt_all dd (by k_mem)
        have d5 : @LT.lt Nat _ (L + 1 + 1 + 1 + 1 + 1) D9 := lt_all dd (by k_mem)
        refine compT_list (k := kl) (fun i zs2 nw3 => nw3 = (D9, listOf (dv ++ zs).toArray 0) :: (D6, LCg.lst ys) :: (I, oI) :: (L + 1 + 1 + 1 + 1, o10) :: (L + 1 + 1 + 1 + 1 + 1, o6) :: (lA, listOf lv.toArray kl) :: news ∧ IntsAre zs2 (natInts ((left.take i).filter fun g => decide (g ∉ rdy)))) (by rfl) (by k_asm) (fun p hp => N10 p (by revert p; k_allIn)) (by k_mem) (by rw [sizeLine_eq]; omega) ⟨rfl, .nil⟩ ?_ ?_
        · rintro i v zs2 nw3 I3 oI3 C3 oC3 D3 m3 hh3 tk3 E3 hv5 ⟨rfl, hz2⟩ hC3 hx3 F8 N8 off3 ne3
          have hi' : i < (natInts left).length := by
            rw [← hlv.length]; exact (List.getElem?_eq_some_iff.mp hv5).1
          obtain ⟨tg, rfl⟩ := ints_at hlv hi' hv5
          obtain ⟨hi, e1⟩ := natInts_get hi'
          rw [e1] at hx3 hv5
          have hst := filter_stepN hi fun g => decide (g ∉ rdy)
          rw [hst]
          k_steps
          · rename _ = true => hin
            rw [any_nat, decide_eq_true_eq] at hin
            refine hold_in ?_
            rw [if_neg (by rw [decide_eq_true_eq]; exact fun h => h hin), List.append_nil]
            exact compEnd ((D9, listOf (dv ++ zs).toArray 0) :: (D6, LCg.lst ys) :: (I, oI) :: (L + 1 + 1 + 1 + 1, o10) :: (L + 1 + 1 + 1 + 1 + 1, o6) :: (lA, listOf lv.toArray kl) :: news) (by k_asm) (by k_asm) (by k_allIn) off3 (.inr ⟨_, by k_mem, rfl, _, rfl⟩) ⟨rfl, hz2⟩
          · rename _ = false => hin
            rw [any_nat, decide_eq_false_iff_not] at hin
            refine hold_in ?_
            rw [if_pos (decide_eq_true hin), natInts_append]
            exact compEnd ((D9, listOf (dv ++ zs).toArray 0) :: (D6, LCg.lst ys) :: (I, oI) :: (L + 1 + 1 + 1 + 1, o10) :: (L + 1 + 1 + 1 + 1 + 1, o6) :: (lA, listOf lv.toArray kl) :: news) (by k_asm) (by k_asm) (by k_allIn) off3 (.inr ⟨_, by k_mem, rfl, _, rfl⟩) ⟨rfl, ints_snoc hz2⟩
        · rintro g4 zs2 nw3 ⟨rfl, hz2⟩
          rw [hll, List.take_length] at hz2
          k_steps
          subst hQQ
          rename_i D11 h11 tk11 F11 N11 o111
          obtain ⟨b1, b2, b3, b4, b5, b6, b7⟩ := o111
          refine TEnd.next F11 N11 (nw := (L + 1 + 1 + 1 + 1, o10) :: (L + 1 + 1 + 1 + 1 + 1, o6) :: (D9, listOf (dv ++ zs).toArray 0) :: (D11, LCg.lst zs2) :: news) ?_ ?_ ⟨_, D11, zs2, _, D9, dv ++ zs, 0, o10, o6, _, (lm_eq (by repeat (first | exact List.forall_mem_nil _ | refine List.forall_mem_cons.mpr ⟨rfl, ?_⟩))).symm, rfl, hd10, hd6, ?_, ?_, Nat.ne_of_lt d4, Nat.ne_of_lt d5, b4, b5, off1_all b7⟩
          · k_allIn
          · exact List.forall_mem_cons.mpr ⟨hI4, List.forall_mem_cons.mpr ⟨hI5, List.forall_mem_cons.mpr ⟨Nat.ne_of_gt d3, List.forall_mem_cons.mpr ⟨b3.symm, hIn⟩⟩⟩⟩
          · rw [hnext]; exact hz2
          · rw [hnext]; exact IntsAre.append hdv hz
  · rintro m₁ nw h tk ⟨m', lA, lv, kl, dA, dv, kd, o4', o5', c5, rfl, rfl, ho4, ho5, hlv, hdv, e4, e5, e6, e7, hnl⟩ F4 N4
    k_steps
    exact ret lA lv kl m' _ _ hnl F4 (fun p hp => N4 p (by revert p; k_allIn)) hlv
end
theorem reset_32 : True := by
  w_top off
  trivial
section
theorem lawH {w : World} {loose : List Str} {mean : ExcName → Option Value} {mg mb : Str → Option Value} {cx : Cx} {A₀ : Around} {base h₀ : Heap} {L : Addr} {m : Str → Option Value} {s : Shared} {Q : Flow → Shared → Prop} {lA : Addr} {lv : List Value} {kl : Nat} {lf : List Nat} {d : Str} {td : Tok} {vn vh vm : Value} {news : List (Addr × Obj)}
    (B : Below A₀ base cx.outer h₀) (X : (hd.heap_39 w.params).In h₀) (T : Top hd.view_39 loose mean mg mb h₀) (hdp : cx.dp < 800) (hu : cx.un < 800) (F : Fr h₀ L s.heap (lm [(Str.ofString "due", .str d td), (Str.ofString "left", .ref lA), (Str.ofString "many", vm), (Str.ofString "net", vn), (Str.ofString "held", vh)] m)) (N : News h₀ L s.heap news)
    (hl : (lA, listOf lv.toArray kl) ∈ news) (hL : IntsAre lv (natInts lf)) (hd : d = Str.ofString "" ∨ d = Str.ofString "two_drivers")
    (ret : ∀ d2 t' m' h' tk', d2 = (if d = Str.ofString "" then (if lf = [] then Str.ofString "" else Str.ofString "combinational_loop") else d) → Fr h₀ L h' (lm [(Str.ofString "due", .str d2 t'), (Str.ofString "many", vm), (Str.ofString "net", vn), (Str.ofString "held", vh)] m') → News h₀ L h' news → Q .next { s with heap := h', toks := tk' }) :
    wpAny (model Challenge.rw_nn0302_01.row.prog w) (lawAt cx w L) (execs (piece w 18 1) (lawEnv cx w L)) Q (fun _ _ => False) s := by
  unfold piece lawBody lookBody
  dsimp only [List.drop, List.take]
  rcases hd with rfl | rfl
  · k_steps
    rename_i e1 h1 F1 N1 l1
    refine ne_intsK (us := []) (News.isList N1 (.tail _ hl)) hL (News.isList N1 (.head _)) .nil (by show cx.un + 64 < 9900; omega) ?_
    have hnil : (natInts lf = []) ↔ lf = [] := by unfold natInts; exact List.map_eq_nil_iff
    simp only [hnil]
    rw [if_pos rfl] at ret
    k_steps
    · rename lf = [] => hz
      exact ret _ td _ _ _ (by rw [if_pos hz]) (lmF F1 (by repeat (first | exact List.forall_mem_nil _ | refine List.forall_mem_cons.mpr ⟨rfl, ?_⟩))) (fun p hp => N1 p (.tail _ hp))
    · rename ¬ lf = [] => hz
      rename_i h2 F2 N2
      exact ret _ _ _ _ _ (by rw [if_neg hz]) (lmF F2 (by repeat (first | exact List.forall_mem_nil _ | refine List.forall_mem_cons.mpr ⟨rfl, ?_⟩))) (fun p hp => N2 p (.tail _ hp))
  · k_steps
    exact ret _ td _ _ _ (by rw [if_neg (by decide)]) (lmF F (by repeat (first | exact List.forall_mem_nil _ | refine List.forall_mem_cons.mpr ⟨rfl, ?_⟩))) N
end
theorem reset_33 : True := by
  w_top off
  trivial
section
/-- an own exception caught by its own class, in a frame of any kind, bound to a name -/
theorem caughtD {prog : Program} {w : World} {K : Frag} {A : Around} {E : Value → Shared → Prop} {s' : Shared} {h₀ h : Heap} {outer : List Env} {env : Env} {L e dx C : Addr} {m : Str → Option Value} {news : List (Addr × Obj)} {Q : Flow → Shared → Prop}
    {nm q : Str} {Nn : Addr} {bs bm : List Value} {hdct : Bool} {sn : List Str} {sub : List Value} {col : Option Bool} {dd : Option Addr} {k0 k1 k2 k3 k5 : Option Value} {newId : String} {t : Expr} {n : Str} {b₀ : Stmt} {suite : List Stmt} {pos : Pos} {rest : List ExceptHandler}
    (hfr : A.frames = some (env :: outer)) (hf : env.frame = some L) (hL : env.locals = L) (F : Fr h₀ L h m) (hsm : h.UpToSlots s'.heap) (R : RaisedD h₀ (env :: outer) e C dx news s'.heap)
    (X : K.In h₀) (hC : K.lookup C = some (excClassObj nm q C Nn bs bm hdct sn sub false col dd k0 k1 k2 k3 k5 newId)) (hb : bm.contains (.type "BaseException") = true)
    (test : ∀ h', Fr h₀ L h' m → ∀ (P : Value → Shared → Prop) (E' : Value → Shared → Prop), P (.ref C) { s' with heap := h' } → wpAny (model prog w) (A.mark (some (.ref e))) (eval t env) P E' { s' with heap := h' })
    (hlo : env.kindOf n = some .local) (hp : (env.scope.kind == .class || (env.scope.kind == .module && env.locals != env.globals)) = false)
    (k : ∀ h' tk oe vs, Fr h₀ L h' (fun y => if y = n then some (.ref e) else m y) → News h₀ L h' ((e, oe) :: news) → oe.cls = .ref C → oe.dict = some dx → oe.data = .fields vs →
      wpAny (model prog w) (A.mark (some (.ref e))) (execs (b₀ :: suite) env) (fun f s₄ => wpAny (model prog w) A (do bindName env n .none; unbindBehindTheSuite env n pos) (fun _ s₅ => Q f s₅) E s₄)
        (AsSuiteRaised (model prog w) (A.mark (some (.ref e))) env n pos (notedBy (model prog w) (A.mark (some (.ref e))) env (cameBackBy (model prog w) A env E))) { s' with heap := h', toks := tk }) :
    wpAny (model prog w) A (noteFrame (.ref e) env) (fun _ s₂ => wpAny (model prog w) A (setFlight (.ref e) none) (fun _ s₃ =>
      wpAny (model prog w) A (handleBy (.ref e) env (.ExceptHandler (some t) (some n) (b₀ :: suite) pos :: rest)) Q E s₃) E s₂) E s' := by
  obtain ⟨hp₀, g₀, d₀, t₀, os₀⟩ := s'
  refine looksD hfr hf R fun h₁ hx sm₁ => ?_
  obtain ⟨B, hB, hl, a1, hen, a2, a3⟩ := hx
  refine flightD a1 a2 a3 fun h₂ b1 b2 b3 b4 => ?_
  have hBL : B.get? L = none := by
    obtain ⟨_, ⟨L', _, hf', hn', _⟩, _⟩ := b2
    obtain rfl : L = L' := Option.some.inj (hf.symm.trans hf')
    exact hn'
  have F₂ : Fr h₀ L h₂ m := F.of_stays (fun b o x => b1 b o (hB b o x)) ((hsm.trans sm₁).trans b4)
  refine wpAny_handleBy_cons (codeAny_handlers_test (test h₂ F₂ _ _ ?_)) (by intro q; cases q)
  obtain ⟨oe, vs, T, oT, ts, he, hc, hxd, hd, h1, hnT, hTe, hT, hdT, h3⟩ := id b3
  refine wpAny_excMatches_sub_self ((X.keeps F₂.keep) _ _ hC) he hc hb (codeAny_handlers_suite_as ?_)
  refine flightD b1 b2 b3 fun h₃ c1 c2 c3 c4 => ?_
  have F₃ : Fr h₀ L h₃ m := F₂.of_stays (fun b o x => c1 b o (hB b o x)) c4
  obtain ⟨oe, vs, T, oT, ts, he, hc, hxd, hd, h1, hnT, hTe, hT, hdT, h3⟩ := id c3
  have N₃ : News h₀ L h₃ ((e, oe) :: news) := by
    refine News.more F₃ (fun q hq => ⟨c1 _ _ (hl q hq).1, (fun z => by have := (hl q hq).1; rw [z, hBL] at this; cases this), (hl q hq).2⟩) he (fun es n q => by rw [hd] at q; cases q) ?_
    exact fresh_of_stays hB hen
  subst hL
  refine wpAny_storeName_local hlo F₃.ns (fun h₄ hn hs => ?_) hp
  exact k h₄ _ oe vs (F₃.set hn hs) (N₃.set hs) hc hxd hd
end
theorem reset_34 : True := by
  w_top off
  trivial
section
theorem fo_own {K : Frag} {C : Addr} {cd : ClassData} {name : Str} {es : List DictEntry} {n : Nat} {v : Value} (hc : clsIn K C = some cd) (hfi : findIn K (.ref C) name = some none) (hh : cd.hasDict = true) (hge : getL name es = some (some v)) :
    findObj K C (some (dictOf es n)) name = some (.value v) := by
  unfold findObj
  rw [hc, Option.bind_some, hfi]
  dsimp only [Option.bind]
  unfold PySem.W.ownOf
  rw [if_pos hh]
  dsimp only
  rw [lookIn_dict, hge]
theorem lawI {w : World} {loose : List Str} {mean : ExcName → Option Value} {mg mb : Str → Option Value} {cx : Cx} {A₀ : Around} {base h₀ : Heap} {L : Addr} {m : Str → Option Value} {s : Shared} {Q : Flow → Shared → Prop} {nt nd inL outL ceL tI gl2 : Addr} {k1 k2 k3 k4 k5 tc ta td : Tok} {nv : Value} {c : Int} {cv gv : List Value} {n1 n2 n3 n4 : Nat} {given : List Int} {cells : List Cell} {d : Str} {vm vh : Value} {news : List (Addr × Obj)}
    (B : Below A₀ h₀ cx.outer h₀) (X : (hd.heap_39 w.params).In h₀) (T : Top hd.view_39 loose mean mg mb h₀) (hdp : cx.dp < 800) (hu : cx.un < 800)
    (F : Fr h₀ L s.heap (lm [(Str.ofString "due", .str d td), (Str.ofString "many", vm), (Str.ofString "net", .ref nt), (Str.ofString "held", vh)] m)) (N : News h₀ L s.heap news)
    (hnt : (nt, instObj 134 nd) ∈ news) (hnd : (nd, netD w k1 k2 k3 k4 k5 nv c tc inL outL ceL) ∈ news) (hce : (ceL, listOf cv.toArray n1) ∈ news) (hin : (inL, listOf [Value.ref tI].toArray n2) ∈ news)
    (hti : (tI, tupObj [.str (Str.ofString "a") ta, .ref gl2] n3) ∈ news) (hgl : (gl2, listOf gv.toArray n4) ∈ news) (hg : IntsAre gv given) (hgn : given.length ≤ 12)
    (hC : CellsIn news cv cells) (hlen : cells.length ≤ 12) (hgb : ∀ x ∈ given, 0 ≤ x ∧ x < 100) (hcb : ∀ x ∈ cells, 0 ≤ x.out ∧ x.out < 100) (hins : ∀ x ∈ cells, x.ins.length ≤ 4)
    (herr : ¬ ([0, 1] ++ given ++ cells.map Cell.out : List Int).Nodup → d = Str.ofString "two_drivers")
    (herr2 : ([0, 1] ++ given ++ cells.map Cell.out : List Int).Nodup → ∀ r, Ord cells r → r.length + (idxs (fun x => isState x.kind) cells cells.length).length < cells.length → d = Str.ofString "combinational_loop")
    (fin : ∀ m' h' tk', Fr h₀ L h' m' → Q (.ret (.bool true)) { s with heap := h', toks := tk' })
    (ret : ([0, 1] ++ given ++ cells.map Cell.out : List Int).Nodup → ∀ (D : Addr) ys r n m' h' tk', Fr h₀ L h' (lm [(Str.ofString "told", .ref D), (Str.ofString "due", .str d td), (Str.ofString "many", vm), (Str.ofString "net", .ref nt), (Str.ofString "held", vh)] m') → News h₀ L h' ((D, listOf ys.toArray n) :: news) → IntsAre ys (natInts r) → Ord cells r → cells.length ≤ r.length + (idxs (fun x => isState x.kind) cells cells.length).length → (∀ p ∈ news, @LT.lt Nat _ p.1 D) → Q .next { s with heap := h', toks := tk' }) :
    wpAny (model Challenge.rw_nn0302_01.row.prog w) (lawAt cx w L) (execs (piece w 19 1) (lawEnv cx w L)) Q (fun _ _ => False) s := by
  unfold piece lawBody lookBody
  dsimp only [List.drop, List.take]
  k_steps
  refine wpAny_Try_except ?_
  k_steps
  refine hold_in ?_
  k_dflt (refine' comb_order B F X N T ?hk ?hdp ?hu hnt hnd hce hin hti hgl hg hgn hC hlen hgb hcb hins ?ret ?err ?err2; (case hk => first | exact rfl | assumption); (case hdp => omega); (case hu => omega))
  case ret =>
    intro hn D ys r n h1 tk1 F1 N1 hys hO hle hlt
    have hyl := hys.length
    simp only [natInts, List.length_map] at hyl
    have hrn := nodup_lt_length hO.nodup fun x hx => gateAt_lt (hO.gate x hx)
    k_steps
    rename_i D2 c2 h2 l2 h3 F3 N3
    exact ret hn D2 ys r _ _ _ _ (lmF F3 (by repeat (first | exact List.forall_mem_nil _ | refine List.forall_mem_cons.mpr ⟨rfl, ?_⟩))) (fun p hp => N3 p (by revert p; k_allIn)) hys hO hle (fun p hp => lt_allLt l2 p (.tail _ hp))
  case err =>
    intro hn e dx es n t h1 tk1 g Fg hup R hge
    have hd := herr hn
    subst hd
    k_dflt (refine' caughtD (outer := cx.outer) ?zafr ?zaf ?zaL Fg hup R X ?zahC ?zahb ?zatest ?zalo ?zap ?zak; (case zafr => exact rfl); (case zaf => exact rfl); (case zaL => exact rfl); (case zahC => k_is); (case zahb => exact rfl); (case zalo => exact rfl); (case zap => exact rfl))
    · intro h2 F2 P E' hP
      k_steps
      exact hP
    · intro h2 tk2 oe vs F2 N2 hoc hod hov
      k_steps
      have hno : notCls oe = true := by unfold notCls; rw [hov]
      k_dflt (refine' exc_get (K := hd.heap_39 w.params) (C := 52) (od := some (dictOf es n)) ?uu (PySem.W.InstAt.mk (N2 _ (.head _)).1 hoc hno (by rw [hod]; exact (N2 _ (.tail _ (.head _))).1)) ?uga ?ugk ?ugb (fo_own ?uc ?uf ?uh hge) ?uv ?_; (case uu => exact X.keeps F2.keep); (case uga => k_is); (case ugk => k_is); (case ugb => k_is); (case uc => k_is); (case uf => k_is); (case uh => exact rfl); (case uv => exact rfl))
      k_steps
      rw [show (Str.ofString "two_drivers" == Str.ofString "two_drivers") = true from beq_self_eq_true _]
      exact wpAny_nameGoes rfl F2.ns rfl fun h' m' hn hs => fin m' h' _ (F2.set hn hs)
  case err2 =>
    intro hn r hO hlt e dx es n t h1 tk1 g Fg hup R hge
    have hd := herr2 hn r hO hlt
    subst hd
    k_dflt (refine' caughtD (outer := cx.outer) ?zbfr ?zbf ?zbL Fg hup R X ?zbhC ?zbhb ?zbtest ?zblo ?zbp ?zbk; (case zbfr => exact rfl); (case zbf => exact rfl); (case zbL => exact rfl); (case zbhC => k_is); (case zbhb => exact rfl); (case zblo => exact rfl); (case zbp => exact rfl))
    · intro h2 F2 P E' hP
      k_steps
      exact hP
    · intro h2 tk2 oe vs F2 N2 hoc hod hov
      k_steps
      have hno : notCls oe = true := by unfold notCls; rw [hov]
      k_dflt (refine' exc_get (K := hd.heap_39 w.params) (C := 52) (od := some (dictOf es n)) ?zz (PySem.W.InstAt.mk (N2 _ (.head _)).1 hoc hno (by rw [hod]; exact (N2 _ (.tail _ (.head _))).1)) ?zga ?zgk ?zgb (fo_own ?zc ?zf ?zh hge) ?zv ?_; (case zz => exact X.keeps F2.keep); (case zga => k_is); (case zgk => k_is); (case zgb => k_is); (case zc => k_is); (case zf => k_is); (case zh => exact rfl); (case zv => exact rfl))
      k_steps
      rw [show (Str.ofString "combinational_loop" == Str.ofString "combinational_loop") = true from beq_self_eq_true _]
      exact wpAny_nameGoes rfl F2.ns rfl fun h' m' hn hs => fin m' h' _ (F2.set hn hs)
end
theorem reset_35 : True := by
  w_top off
  trivial
section
theorem eqAt_same (A : Around) (s : Shared) (a : Addr) : SeqAt.EqAt A s (.ref a) (.ref a) true := fun prog w E Q h => by
  unfold eqBool
  try with_reducible refine wpAny_holding ?_
  show wpAny _ _ (if (Value.ref a == Value.ref a) = true then _ else _) Q E s
  rw [if_pos (beq_self_eq_true _)]
  exact wpAny_bind (wpAny_rule (wpAny_pure h))
theorem ne_same {prog : Program} {w : World} {A : Around} {E : Value → Shared → Prop} {s : Shared} {l b : Addr} {vs : List Value} {Q : Value → Shared → Prop} (hl : s.heap.IsList l vs.toArray) (hb : s.heap.IsList b vs.toArray) (hu : A.units < cLine)
    (hr : ∀ v ∈ vs, ∃ a, v = Value.ref a) (h : Q (.bool false) s) : wpAny (model prog w) A (compareOp .NotEq (.ref l) (.ref b)) Q E s := by
  refine SeqAt.RcNeAt.lists (e := fun _ => true) hl hb rfl hu (fun j h1 _ => ?_) prog w E Q (by rw [show (List.range vs.toArray.size).all (fun _ => true) = true from List.all_eq_true.mpr fun _ _ => rfl]; exact h)
  have hj : vs.toArray[j] ∈ vs := by simp
  obtain ⟨a, ha⟩ := hr _ hj
  rw [ha]
  exact eqAt_same _ _ a
local macro_rules | `(tactic| walk_at "compareOp NotEq ref ref") => `(tactic| ((with_reducible show wpAny _ _ (compareOp CmpOp.NotEq (Value.ref _) (Value.ref _)) _ _ _); refine hold_of ?_))
theorem lawJ {w : World} {loose : List Str} {mean : ExcName → Option Value} {mg mb : Str → Option Value} {cx : Cx} {A₀ : Around} {base h₀ : Heap} {L : Addr} {m : Str → Option Value} {s : Shared} {Q : Flow → Shared → Prop} {D nt nd inL outL ceL hA gA : Addr} {k1 k2 k3 k4 k5 tc td : Tok} {nv : Value} {c : Int} {cv gv ys : List Value} {n1 n2 n3 : Nat} {r : List Nat} {cells : List Cell} {o3 : Obj} {vm : Value} {news : List (Addr × Obj)}
    (B : Below A₀ base cx.outer h₀) (X : (hd.heap_39 w.params).In h₀) (T : Top hd.view_39 loose mean mg mb h₀) (hdp : cx.dp < 800) (hu : cx.un < 800) (F : Fr h₀ L s.heap (lm [(Str.ofString "told", .ref D), (Str.ofString "due", .str (Str.ofString "") td), (Str.ofString "many", vm), (Str.ofString "net", .ref nt), (Str.ofString "held", .ref hA)] m)) (N : News h₀ L s.heap news)
    (hnt : (nt, instObj 134 nd) ∈ news) (hnd : (nd, netD w k1 k2 k3 k4 k5 nv c tc inL outL ceL) ∈ news) (hce : (ceL, listOf cv.toArray n1) ∈ news) (hhA : (hA, listOf cv.toArray n2) ∈ news) (hD : (D, listOf ys.toArray n3) ∈ news)
    (hgA : (gA, LCg.lst gv) ∈ news) (hgc : (L + 1 + 1 + 1, o3) ∈ news) (hgo : o3.data = .cell (some (.ref gA))) (hG : IntsAre gv (natInts (gates cells)))
    (hC : CellsIn news cv cells) (hlen : cells.length ≤ 12) (hY : IntsAre ys (natInts r)) (hp : r.Perm (gates cells))
    (ret : ∀ h' tk', Fr h₀ L h' (lm [(Str.ofString "told", .ref D), (Str.ofString "due", .str (Str.ofString "") td), (Str.ofString "many", vm), (Str.ofString "net", .ref nt), (Str.ofString "held", .ref hA)] m) → News h₀ L h' news → Q .next { s with heap := h', toks := tk' }) :
    wpAny (model Challenge.rw_nn0302_01.row.prog w) (lawAt cx w L) (execs (piece w 20 1) (lawEnv cx w L)) Q (fun _ _ => False) s := by
  have hrl : (natInts r).length < 64 := by
    unfold natInts
    rw [List.length_map, hp.length_eq]
    have := gates_states cells
    omega
  have hcr : ∀ v ∈ cv, ∃ a, v = Value.ref a := fun v hv => by
    obtain ⟨i, hi, rfl⟩ := List.mem_iff_getElem.mp hv
    obtain ⟨v', hv', a, ta, n, n', pv, vs, t1, t2, rfl, -⟩ := hC.2 i (by rw [← hC.1]; exact hi)
    rw [List.getElem?_eq_getElem hi] at hv'
    exact ⟨a, Option.some.inj hv'⟩
  unfold piece lawBody lookBody
  dsimp only [List.drop, List.take]
  k_steps
  refine kso_sorted (by k_asm) (by k_asm) (News.isList (by k_asm) hD) hY hrl ?_
  intro D1 vs1 ns1 c1 h1 F1 N1 lt1 hI1 hl1 hp1 hs1 _
  obtain rfl := sorted_gates hp hp1 hs1
  k_steps
  refine hold_in ?_
  refine ne_intsK (News.isList (by k_asm) (.head _)) hI1 (News.isList (by k_asm) (.tail _ hgA)) hG (by show cx.un + 64 < 9900; omega) ?_
  rw [decide_eq_true rfl, Bool.not_true]
  k_steps
  refine hold_in ?_
  refine ne_same (News.isList (by k_asm) (.tail _ hce)) (News.isList (by k_asm) (.tail _ hhA)) (by show cx.un < 9900; omega) hcr ?_
  k_steps
  exact ret _ _ F1 (fun p hp => N1 p (.tail _ hp))
end
theorem reset_36 : True := by
  w_top off
  trivial
section
theorem lawK {w : World} {loose : List Str} {mean : ExcName → Option Value} {mg mb : Str → Option Value} {cx : Cx} {A₀ : Around} {base h₀ : Heap} {L : Addr} {m : Str → Option Value} {s : Shared} {Q : Flow → Shared → Prop} {nt nd inL outL ceL tI gl2 : Addr} {k1 k2 k3 k4 k5 tc ta : Tok} {nv : Value} {c : Int} {cv gv : List Value} {n1 n2 n3 n4 : Nat} {given : List Int} {cells : List Cell} {vt vm : Value} {o6 : Obj} {news : List (Addr × Obj)}
    (B : Below A₀ base cx.outer h₀) (X : (hd.heap_39 w.params).In h₀) (T : Top hd.view_39 loose mean mg mb h₀) (hdp : cx.dp < 800) (hu : cx.un < 800) (F : Fr h₀ L s.heap (lm [(Str.ofString "told", vt), (Str.ofString "many", vm), (Str.ofString "net", .ref nt)] m)) (N : News h₀ L s.heap ((L + 1 + 1 + 1 + 1 + 1 + 1, o6) :: news)) (hn6 : ∀ p ∈ news, p.1 ≠ L + 1 + 1 + 1 + 1 + 1 + 1) (ho6 : o6.data = .cell none)
    (hnt : (nt, instObj 134 nd) ∈ news) (hnd : (nd, netD w k1 k2 k3 k4 k5 nv c tc inL outL ceL) ∈ news) (hce : (ceL, listOf cv.toArray n1) ∈ news) (hin : (inL, listOf [Value.ref tI].toArray n2) ∈ news)
    (hti : (tI, tupObj [.str (Str.ofString "a") ta, .ref gl2] n3) ∈ news) (hgl : (gl2, listOf gv.toArray n4) ∈ news) (hg : IntsAre gv given) (hgn : given.length ≤ 12)
    (hC : CellsIn news cv cells) (hlen : cells.length ≤ 12) (hgb : ∀ x ∈ given, 0 ≤ x ∧ x < 100) (hcb : ∀ x ∈ cells, 0 ≤ x.out ∧ x.out < 100)
    (hn : ([0, 1] ++ given ++ cells.map Cell.out : List Int).Nodup)
    (ret : ∀ (fA : Addr) oF kvs h' tk' o', Fr h₀ L h' (lm [(Str.ofString "told", vt), (Str.ofString "many", vm), (Str.ofString "net", .ref nt)] m) → News h₀ L h' ((L + 1 + 1 + 1 + 1 + 1 + 1, o') :: (fA, oF) :: news) → o'.data = .cell (some (.ref fA)) → oF.IsDictOf (PySem.intKind Challenge.rw_nn0302_01.row.prog w) kvs → DrvAre kvs cells cells.length → (∀ p ∈ news, @LT.lt Nat _ p.1 fA) → (fA == sysModules) = false → Q .next { s with heap := h', toks := tk' }) :
    wpAny (model Challenge.rw_nn0302_01.row.prog w) (lawAt cx w L) (execs (piece w 21 1) (lawEnv cx w L)) Q (fun _ _ => False) s := by
  unfold piece lawBody lookBody
  dsimp only [List.drop, List.take]
  k_steps
  refine hold_in ?_
  have N' : News h₀ L s.heap ((L + 1 + 1 + 1 + 1 + 1 + 1, o6) :: news) := N
  have sub : ∀ p ∈ news, p ∈ (L + 1 + 1 + 1 + 1 + 1 + 1, o6) :: news := fun p hp => .tail _ hp
  k_dflt (refine' drivers B F X N T ?hk ?hdp ?hu (sub _ hnt) (sub _ hnd) (sub _ hce) (sub _ hin) (sub _ hti) (sub _ hgl) hg hgn (hC.mono sub) hlen hgb hcb ?ret ?err; (case hk => first | exact rfl | assumption); (case hdp => omega); (case hu => omega))
  case err => exact fun h => absurd hn h
  case ret =>
    intro _ fA oF kvs h1 tk1 F1 N1 hO hD hlt hlo
    have hf6 : @LT.lt Nat _ (L + 1 + 1 + 1 + 1 + 1 + 1) fA := hlt _ (.head _)
    have hf7 : ∀ p ∈ news, @LT.lt Nat _ p.1 fA := fun p hp => hlt p (.tail _ hp)
    k_steps
    rename_i h2 o2 F2 N2 hd2
    exact ret fA oF kvs _ _ o2 F2 (fun p hp => N2 p (by revert p; k_allIn)) hd2 hO hD hf7 hlo
end
theorem reset_37 : True := by
  w_top off
  trivial
section
theorem lawL {w : World} {loose : List Str} {mean : ExcName → Option Value} {mg mb : Str → Option Value} {cx : Cx} {A₀ : Around} {base h₀ : Heap} {L : Addr} {m : Str → Option Value} {s : Shared} {Q : Flow → Shared → Prop} {fA rL : Addr} {oF o o6 : Obj} {kvs : List (Int × Value)} {rv : List Value} {kr : Nat} {cells : List Cell} {vt vn : Value} {many : Int} {tkm : Tok} {news : List (Addr × Obj)}
    (B : Below A₀ base cx.outer h₀) (X : (hd.heap_39 w.params).In h₀) (T : Top hd.view_39 loose mean mg mb h₀) (hdp : cx.dp < 800) (hu : cx.un < 800) (F : Fr h₀ L s.heap (lm [(Str.ofString "told", vt), (Str.ofString "many", .int many tkm), (Str.ofString "net", vn)] m)) (N : News h₀ L s.heap news)
    (hf : (fA, oF) ∈ news) (h6 : (L + 1 + 1 + 1 + 1 + 1 + 1, o6) ∈ news) (ho6 : o6.data = .cell (some (.ref fA))) (hO : oF.IsDictOf (PySem.intKind Challenge.rw_nn0302_01.row.prog w) kvs) (hD : DrvAre kvs cells cells.length) (hlo : (fA == sysModules) = false)
    (hrL : (rL, listOf rv.toArray kr) ∈ news) (hrc : (L + 1, o) ∈ news) (hro : o.data = .cell (some (.ref rL))) (hR : RowsIn news rv cells) (hcl : (cells.length : Int) = many) (hm1 : many < 13)
    (ret : ∀ h' tk', Fr h₀ L h' (lm [(Str.ofString "told", vt), (Str.ofString "many", .int many tkm), (Str.ofString "net", vn)] m) → News h₀ L h' news → Q .next { s with heap := h', toks := tk' }) :
    wpAny (model Challenge.rw_nn0302_01.row.prog w) (lawAt cx w L) (execs (piece w 22 1) (lawEnv cx w L)) Q (fun _ _ => False) s := by
  have hrl := hR.1
  unfold piece lawBody lookBody
  dsimp only [List.drop, List.take]
  k_steps
  refine hold_in ?_
  refine comp_list (k := kr) (fun i ys nw => nw = news ∧ IntsAre ys (natInts (List.range i))) (by rfl) (by k_asm) (by k_asm) hrL (by rw [sizeLine_eq]; omega) ⟨rfl, .nil⟩ ?_ ?_
  · rintro i v ys nw I oI C oC D m₂ h tk E' hv ⟨rfl, hy⟩ hC hx F3 N3 off ne
    have hi : i < cells.length := by
      have := (List.getElem?_eq_some_iff.mp hv).1
      omega
    obtain ⟨v', hv', a1, la, q1, q2, vs, t1, t2, rfl, ha, hla, hI⟩ := hR.2 i hi
    obtain rfl := Option.some.inj (hv.symm.trans hv')
    obtain ⟨tf, hkv⟩ := hD.2 i hi hi
    have hva := valueAt_of (isDict_nodup hO) hkv
    k_steps
    refine hold_in ?_
    refine compEnd nw (by k_asm) (by k_asm) (by k_allIn) off (.inr ⟨_, hrL, rfl, _, rfl⟩) ⟨rfl, ?_⟩
    rw [List.range_succ, natInts_append]
    exact ints_snoc hy
  · rintro g ys nw ⟨rfl, hy⟩
    rw [hrl] at hy
    have hrk : natInts (List.range cells.length) = rangeKs 0 (many - 0).toNat := by
      rw [show (many - 0).toNat = cells.length by omega]
      unfold natInts rangeKs
      exact List.map_congr_left fun i _ => (Int.zero_add _).symm
    have hkl : kvs.length = cells.length := by
      have := congrArg List.length hD.1
      simpa [keys] using this
    k_steps
    refine kda_len (knd := PySem.intKind _ _) (by k_asm) (.tail _ (.tail _ hf)) hO hlo (by omega) ?_
    k_steps
    · rename _ ≠ many => hc
      exact absurd (by omega : (kvs.length : Int) = many) hc
    · rename Fr _ _ _ _ => FF
      rename News _ _ _ _ => NN
      exact ret _ _ FF (fun p hp => NN p (.tail _ (.tail _ hp)))
end
theorem reset_38 : True := by
  w_top off
  trivial
section
theorem lawM {w : World} {loose : List Str} {mean : ExcName → Option Value} {mg mb : Str → Option Value} {cx : Cx} {A₀ : Around} {base h₀ : Heap} {L : Addr} {m : Str → Option Value} {s : Shared} {Q : Flow → Shared → Prop} {D fA rL : Addr} {oF o o6 : Obj} {kvs : List (Int × Value)} {ys rv : List Value} {n3 kr : Nat} {r : List Nat} {cells : List Cell} {vn : Value} {many : Int} {tkm : Tok} {news : List (Addr × Obj)}
    (B : Below A₀ base cx.outer h₀) (X : (hd.heap_39 w.params).In h₀) (T : Top hd.view_39 loose mean mg mb h₀) (hdp : cx.dp < 800) (hu : cx.un < 800) (F : Fr h₀ L s.heap (lm [(Str.ofString "told", .ref D), (Str.ofString "many", .int many tkm), (Str.ofString "net", vn)] m)) (N : News h₀ L s.heap news)
    (hf : (fA, oF) ∈ news) (h6 : (L + 1 + 1 + 1 + 1 + 1 + 1, o6) ∈ news) (ho6 : o6.data = .cell (some (.ref fA))) (hO : oF.IsDictOf (PySem.intKind Challenge.rw_nn0302_01.row.prog w) kvs) (hD : DrvAre kvs cells cells.length) (hlo : (fA == sysModules) = false)
    (hrL : (rL, listOf rv.toArray kr) ∈ news) (hrc : (L + 1, o) ∈ news) (hro : o.data = .cell (some (.ref rL))) (hR : RowsIn news rv cells) (hcl : (cells.length : Int) = many) (hm1 : many < 13)
    (hDl : (D, listOf ys.toArray n3) ∈ news) (hY : IntsAre ys (natInts r)) (hOr : Ord cells r) (hins : ∀ x ∈ cells, x.ins.length ≤ 4)
    (ret : ∀ m' h' tk', Fr h₀ L h' (lm [(Str.ofString "told", .ref D), (Str.ofString "many", .int many tkm), (Str.ofString "net", vn)] m') → News h₀ L h' news → Q .next { s with heap := h', toks := tk' }) :
    wpAny (model Challenge.rw_nn0302_01.row.prog w) (lawAt cx w L) (execs (piece w 23 1) (lawEnv cx w L)) Q (fun _ _ => False) s := by
  have hrl := hR.1
  have hyl := hY.length
  simp only [natInts, List.length_map] at hyl
  have hrn := nodup_lt_length hOr.nodup fun x hx => gateAt_lt (hOr.gate x hx)
  have hrg : ∀ x ∈ r, x < cells.length := fun x hx => gateAt_lt (hOr.gate x hx)
  unfold piece lawBody lookBody
  dsimp only [List.drop, List.take]
  k_steps
  refine hold_in ?_
  rename_i v1 v2 v3 v4 v5 v6 hr F2 N2 K2
  rename IntsAre _ _ => hY
  have hnl : (natInts r).length = r.length := by unfold natInts; rw [List.length_map]
  rw [hnl] at hr
  refine loop_range (n := r.length) (fun i m₁ nw => ∃ m', m₁ = lm [(Str.ofString "told", .ref D), (Str.ofString "many", .int many tkm), (Str.ofString "net", vn)] m' ∧ nw = news)
    (by rfl) hr (range_small (by omega) (by omega)) (range_size (by omega)) F2 N2 ⟨_, (lm_eq (by repeat (first | exact List.forall_mem_nil _ | refine List.forall_mem_cons.mpr ⟨rfl, ?_⟩))).symm, rfl⟩ ?_ ?_
  · rintro i ti m₁ nw I oI h tk hi ⟨m', rfl, rfl⟩ off F3 N3
    refine hideQ fun RR hQQ => ?_
    have hri : r[i]? = some r[i] := List.getElem?_eq_getElem hi
    have hg := hrg _ (List.getElem_mem hi)
    obtain ⟨ty, hy⟩ := natInts_at hY hri
    have hy' : ys[(0 + (i : Int)).toNat]? = some (.int ((r[i] : Nat) : Int) ty) := by simpa using hy
    obtain ⟨v', hv', a1, la, q1, q2, vs, t1, t2, rfl, ha, hla, hI⟩ := hR.2 _ hg
    have hv2 : rv[((r[i] : Nat) : Int).toNat]? = some (.ref a1) := by simpa using hv'
    have h4 := hins _ (List.getElem_mem hg)
    have hil := hI.length
    k_steps
    refine hold_in ?_
    refine loop_list (l := la) (vs := vs) (k := q2) (fun j m₁ nw2 => ∃ m', m₁ = lm [(Str.ofString "told", .ref D), (Str.ofString "many", .int many tkm), (Str.ofString "net", vn), (Str.ofString "turn", .int (0 + (i : Int)) ti)] m' ∧ nw2 = (I, oI) :: nw) (by rfl)
      (by rintro j m nw2 ⟨m', -, rfl⟩; exact .tail _ hla) (by k_asm) (by k_asm) ⟨_, (lm_eq (by repeat (first | exact List.forall_mem_nil _ | refine List.forall_mem_cons.mpr ⟨rfl, ?_⟩))).symm, rfl⟩ ?_ ?_
    · rintro j v m₁ nw2 I2 oI2 h tk hvj ⟨m', rfl, rfl⟩ off2 F4 N4
      refine hideQ fun RR hQQ => ?_
      have hj : j < cells[r[i]].ins.length := by rw [← hI.length]; exact (List.getElem?_eq_some_iff.mp hvj).1
      obtain ⟨t3, rfl⟩ := ints_at hI hj hvj
      rcases drv_val hD (isDict_nodup hO) cells[r[i]].ins[j] with ⟨jj, hdj, hjj, hout, tj, hva⟩ | ⟨hdn, hva⟩
      · obtain ⟨v2', hv2', a12, la2, q12, q22, vs2, t12, t22, rfl, ha2, hla2, hI2⟩ := hR.2 _ hjj
        have hv3 : rv[((jj : Nat) : Int).toNat]? = some (.ref a12) := by simpa using hv2'
        have hin : gateAt cells jj = true → jj ∈ r.take i := fun hgj => hOr.ord i r[i] hri jj (by
          unfold preds predsL
          rw [List.mem_filterMap, insAt_of hg]
          exact ⟨_, List.getElem_mem hj, by rw [hdj, Option.filter_some, if_pos hgj]⟩)
        have htk : (natInts r).take (0 + (i : Int)).toNat = natInts (r.take i) := by
          rw [show (0 + (i : Int)).toNat = i by omega]
          unfold natInts
          rw [List.map_take]
        have hgj := gateAt_of hjj
        k_steps
        all_goals subst hQQ
        all_goals first
          | exact TEnd.next (by k_asm) (by k_asm) (nw := (I, oI) :: nw) (by k_allIn) off2 ⟨_, (lm_eq (by repeat (first | exact List.forall_mem_nil _ | refine List.forall_mem_cons.mpr ⟨rfl, ?_⟩))).symm, rfl⟩
          | (exfalso
             rename List.any (List.take _ _) _ = false => hc1
             rename List.any [_, _] _ = false => hc2
             have hc2 := (is_state_any cells[jj].kind).symm.trans hc2
             rw [hc2] at hgj
             rw [htk, any_nat, decide_eq_false_iff_not] at hc1
             exact hc1 (hin hgj))
      · k_steps
        · rename _ = true => hc
          rw [hva] at hc; cases hc
        · subst hQQ
          exact TEnd.next (by k_asm) (by k_asm) (nw := (I, oI) :: nw) (fun p hp => hp) off2 ⟨_, (lm_eq (by repeat (first | exact List.forall_mem_nil _ | refine List.forall_mem_cons.mpr ⟨rfl, ?_⟩))).symm, rfl⟩
    · rintro m₁ nw2 h tk ⟨m', rfl, rfl⟩ F4 N4
      k_steps
      subst hQQ
      exact TEnd.next F4 N4 (nw := nw) (fun p hp => hp) off ⟨_, (lm_eq (by repeat (first | exact List.forall_mem_nil _ | refine List.forall_mem_cons.mpr ⟨rfl, ?_⟩))).symm, rfl⟩
  · rintro m₁ nw h tk ⟨m', rfl, rfl⟩ F3 N3
    k_steps
    exact ret _ _ _ F3 N3
end
theorem reset_39 : True := by
  w_top off
  trivial
section
local macro_rules | `(tactic| walk_at "compareOp Eq ref ref") => `(tactic| ((with_reducible show wpAny _ _ (compareOp CmpOp.Eq (Value.ref _) (Value.ref _)) _ _ _); refine hold_of ?_))
theorem lawN {w : World} {loose : List Str} {mean : ExcName → Option Value} {mg mb : Str → Option Value} {cx : Cx} {A₀ : Around} {base h₀ : Heap} {L : Addr} {m : Str → Option Value} {s : Shared} {Q : Flow → Shared → Prop} {nt nd inL outL ceL gA : Addr} {k1 k2 k3 k4 k5 tc : Tok} {nv : Value} {c : Int} {cv gv : List Value} {n1 : Nat} {cells : List Cell} {o3 : Obj} {many : Int} {tkm : Tok} {news : List (Addr × Obj)}
    (B : Below A₀ base cx.outer h₀) (X : (hd.heap_39 w.params).In h₀) (T : Top hd.view_39 loose mean mg mb h₀) (hdp : cx.dp < 800) (hu : cx.un < 800) (F : Fr h₀ L s.heap (lm [(Str.ofString "many", .int many tkm), (Str.ofString "net", .ref nt)] m)) (N : News h₀ L s.heap news)
    (hnt : (nt, instObj 134 nd) ∈ news) (hnd : (nd, netD w k1 k2 k3 k4 k5 nv c tc inL outL ceL) ∈ news) (hce : (ceL, listOf cv.toArray n1) ∈ news) (hC : CellsIn news cv cells) (hlen : cells.length ≤ 12)
    (hgA : (gA, LCg.lst gv) ∈ news) (hgc : (L + 1 + 1 + 1, o3) ∈ news) (hgo : o3.data = .cell (some (.ref gA))) (hG : IntsAre gv (natInts (gates cells))) (hcl : (cells.length : Int) = many) (hm1 : many < 13)
    (fin : ∀ m' h' tk', Fr h₀ L h' m' → Q (.ret (.bool true)) { s with heap := h', toks := tk' }) :
    wpAny (model Challenge.rw_nn0302_01.row.prog w) (lawAt cx w L) (execs (piece w 24 1) (lawEnv cx w L)) Q (fun _ _ => False) s := by
  unfold piece lawBody lookBody
  dsimp only [List.drop, List.take]
  k_steps
  refine hold_in ?_
  k_dflt (refine' state_cells B F X N T ?hk ?hdp ?hu hnt hnd hce hC hlen ?_; (case hk => first | exact rfl | assumption); (case hdp => omega); (case hu => omega))
  intro D ys n h1 tk1 F1 N1 hys hlt
  have hyl := hys.length
  have hil := idxs_length_le (fun x => isState x.kind) cells cells.length
  k_steps
  refine hold_in ?_
  rename_i D2 c2 h2 F2 N2 l2 h3 tk3 t1 u1 v1 hr F3 N3 K3
  refine compT_range (n := cells.length) (fun i zs nw => nw = (D2, listOf ys.toArray c2) :: (D, listOf ys.toArray n) :: news ∧ IntsAre zs (idxs (fun x => isState x.kind) cells i)) (by rfl) (by k_asm) (by k_asm) hr (range_small (by omega) (by omega)) (range_size (by omega)) (by rw [sizeLine_eq]; omega) ⟨rfl, .nil⟩ ?_ ?_
  · rintro i ti zs nw I oI C oC D3 m₂ h tk E' hi ⟨rfl, hz⟩ hC hx F4 N4 off ne
    have hg := gateAt_of hi
    have hs := idxs_succ (fun x => isState x.kind) cells i
    rw [List.getElem?_eq_getElem hi, Option.any_some] at hs
    have hmg : i ∈ gates cells ↔ isState cells[i].kind = false := by
      rw [mem_gates, hg]; simp
    simp only [Int.zero_add] at hx
    k_steps
    refine notin_list_ints (News.isList (a := gA) (by k_asm) (by k_mem)) hG ?_
    k_steps
    · rename List.any _ _ = true => hin
      rw [any_nat, decide_eq_true_eq] at hin
      refine hold_in ?_
      rw [hs, if_neg (by rw [hmg.mp hin]; decide), List.append_nil]
      exact compEnd ((D2, listOf ys.toArray c2) :: (D, listOf ys.toArray n) :: news) (by k_asm) (by k_asm) (by k_allIn) off trivial ⟨rfl, hz⟩
    · rename List.any _ _ = false => hin
      rw [any_nat, decide_eq_false_iff_not, hmg, Bool.not_eq_false] at hin
      refine hold_in ?_
      rw [hs, if_pos hin]
      exact compEnd ((D2, listOf ys.toArray c2) :: (D, listOf ys.toArray n) :: news) (by k_asm) (by k_asm) (by k_allIn) off trivial ⟨rfl, ints_snoc hz⟩
  · rintro g zs nw ⟨rfl, hz⟩
    k_steps
    refine hold_in ?_
    refine eq_intsK (News.isList (by k_asm) (.tail _ (.head _))) hys (News.isList (by k_asm) (.head _)) hz (by show cx.un + 64 < 9900; omega) ?_
    rw [decide_eq_true rfl]
    rename Fr _ _ _ _ => FF
    exact fin _ _ _ FF
end
theorem reset_40 : True := by
  w_top off
  trivial
section
theorem mem_netsFrom {c k x : Int} (h : x ∈ netsFrom c k) : c ≤ x ∧ x < c + k := by
  unfold netsFrom at h
  obtain ⟨i, hi, rfl⟩ := List.mem_map.mp h
  have := List.mem_range.mp hi
  omega
theorem RowsIn.monoD {news news' : List (Addr × Obj)} {rv : List Value} {cells : List Cell} (h : RowsIn news rv cells) (sub : ∀ p ∈ news, (∀ c, p.2.data ≠ .cell c) → p ∈ news') : RowsIn news' rv cells :=
  ⟨h.1, fun i hi => by
    obtain ⟨v, hv, a, la, n, n', vs, t1, t2, e, h1, h2, h3⟩ := h.2 i hi
    exact ⟨v, hv, a, la, n, n', vs, t1, t2, e, sub _ h1 (fun c q => by cases q), sub _ h2 (fun c q => by cases q), h3⟩⟩
theorem RowsIn.mono {news news' : List (Addr × Obj)} {rv : List Value} {cells : List Cell} (h : RowsIn news rv cells) (sub : ∀ p ∈ news, p ∈ news') : RowsIn news' rv cells := h.monoD fun p hp _ => sub p hp
theorem CellsIn.monoD {news news' : List (Addr × Obj)} {cv : List Value} {cells : List Cell} (h : CellsIn news cv cells) (sub : ∀ p ∈ news, (∀ c, p.2.data ≠ .cell c) → p ∈ news') : CellsIn news' cv cells :=
  ⟨h.1, fun i hi => by
    obtain ⟨v, hv, a, ta, n, n', pv, vs, t1, t2, e, h1, h2, h3⟩ := h.2 i hi
    exact ⟨v, hv, a, ta, n, n', pv, vs, t1, t2, e, sub _ h1 (fun c q => by cases q), sub _ h2 (fun c q => by cases q), h3⟩⟩
theorem due_ne : ¬ Str.ofString "two_drivers" = Str.ofString "" := by decide
theorem lawWhole {w : World} {loose : List Str} {mean : ExcName → Option Value} {mg mb : Str → Option Value}
    {cx : Cx} {A₀ : Around} {h₀ : Heap} {L : Addr} {m : Str → Option Value} {s : Shared}
    {Q : Flow → Shared → Prop} {sl : Addr} {vs : List Value} {ns : List Int} {o1 o2 o3 o4 o5 o6 : Obj}
    (B : Below A₀ h₀ cx.outer h₀) (F : Fr h₀ L s.heap (lm [(Str.ofString "script", .ref sl)] m)) (X : (hd.heap_39 w.params).In h₀)
    (N : News h₀ L s.heap [(L + 1 + 1 + 1 + 1 + 1 + 1, o6), (L + 1 + 1 + 1 + 1 + 1, o5), (L + 1 + 1 + 1 + 1, o4), (L + 1 + 1 + 1, o3), (L + 1 + 1, o2), (L + 1, o1)])
    (T : Top hd.view_39 loose mean mg mb h₀) (hsl : h₀.IsList sl vs.toArray) (hI : IntsAre vs ns) (hns : ns.length ≤ 63)
    (d1 : o1.data = .cell none) (d2 : o2.data = .cell none) (d3 : o3.data = .cell none) (d4 : o4.data = .cell none) (d5 : o5.data = .cell none) (d6 : o6.data = .cell none)
    (hdp : cx.dp < 800) (hu : cx.un < 800) (fin : ∀ m' h' tk', Fr h₀ L h' m' → Q (.ret (.bool true)) { s with heap := h', toks := tk' }) :
    wpAny (model Challenge.rw_nn0302_01.row.prog w) (lawAt cx w L) (execs (lawBody w) (lawEnv cx w L)) Q (fun _ _ => False) s := by
  rw [law_piece]
  refine piece_split (k := 9) (by omega) ?_
  refine lawA B F X N T hsl hI hns d1 d2 d3 d4 d5 d6 hdp hu ?_
  clear F N
  intro H rL ceL nt nd inL ouL tI gl2 gL oL pL cL k1 k2 k3 k4 k5 tc ta tkm t1 t2 t3 tz1 tz2 nv g many c i cc sd sp gv ov wv n1 n2 n3 oR tl m' h1 tk1 F1 N1 hoR hnt hnd hin hti hgl2 hgL hoL hpL hcL hgv hov hwv hg0 hg1 hm0 hm1 hHO e1 e2 e3 f1 f2 f3 f4 f5 f6 hH6 hr6 hc6 hHc hcr hcH
  have hgn := hgv.length
  have hon := hov.length
  rw [netsFrom_length] at hgn hon
  have hgl4 : gv.length ≤ 4 := by omega
  have hoi : (ov.length : Int) = many := by omega
  have hP : IntsAre ([Value.int 0 tz1, Value.int 1 tz2] ++ gv ++ ov) ([0, 1] ++ netsFrom 2 (1 + g) ++ netsFrom (2 + (1 + g)) many) := IntsAre.append (IntsAre.append (.cons 0 tz1 (.cons 1 tz2 .nil)) hgv) hov
  have hPl : ((([Value.int 0 tz1, Value.int 1 tz2] ++ gv ++ ov) : List Value).length : Int) = 2 + gv.length + many := by
    simp only [List.length_append, List.length_cons, List.length_nil]; omega
  have hop : ∀ x ∈ netsFrom (2 + (1 + g)) many, x ∈ ([0, 1] ++ netsFrom 2 (1 + g) ++ netsFrom (2 + (1 + g)) many : List Int) := fun x hx => List.mem_append_right _ hx
  have hpb : ∀ x ∈ ([0, 1] ++ netsFrom 2 (1 + g) ++ netsFrom (2 + (1 + g)) many : List Int), 0 ≤ x ∧ x < 100 := fun x hx => by
    rcases List.mem_append.mp hx with hx | hx
    · rcases List.mem_append.mp hx with hx | hx
      · rcases List.mem_cons.mp hx with rfl | hx
        · omega
        · rw [List.mem_singleton.mp hx]; omega
      · have := mem_netsFrom hx; omega
    · have := mem_netsFrom hx; omega
  have hgb : ∀ x ∈ netsFrom 2 (1 + g), 0 ≤ x ∧ x < 100 := fun x hx => by have := mem_netsFrom hx; omega
  have hgn12 : (netsFrom 2 (1 + g)).length ≤ 12 := by rw [netsFrom_length]; omega
  have hpl20 : (([Value.int 0 tz1, Value.int 1 tz2] ++ gv ++ ov) : List Value).length ≤ 20 := by omega
  have hpil : ([0, 1] ++ netsFrom 2 (1 + g) ++ netsFrom (2 + (1 + g)) many : List Int).length ≤ 20 := by rw [← hP.length]; exact hpl20
  generalize hpv : [Value.int 0 tz1, Value.int 1 tz2] ++ gv ++ ov = plv at *
  generalize hpi : ([0, 1] ++ netsFrom 2 (1 + g) ++ netsFrom (2 + (1 + g)) many : List Int) = poolI at *
  have htk63 : (ns.take 63).length ≤ 63 := List.length_take_le _ _
  -- the building
  show wpAny (model Challenge.rw_nn0302_01.row.prog w) (lawAt cx w L) (execs (piece w 9 16) (lawEnv cx w L)) _ _ _
  refine piece_split (k := 1) (by omega) ?_
  have six : ∀ {P : Addr × Obj → Prop}, P (L + 1 + 1 + 1 + 1 + 1 + 1, o6) → P (L + 1 + 1 + 1 + 1 + 1, o5) → P (L + 1 + 1 + 1 + 1, o4) → P (L + 1 + 1 + 1, o3) → P (L + 1 + 1, o2) → P (L + 1, oR) → (∀ p ∈ tl, P p) → ∀ p ∈ (L + 1 + 1 + 1 + 1 + 1 + 1, o6) :: (L + 1 + 1 + 1 + 1 + 1, o5) :: (L + 1 + 1 + 1 + 1, o4) :: (L + 1 + 1 + 1, o3) :: (L + 1 + 1, o2) :: (L + 1, oR) :: tl, P p := fun a b c d e f g =>
    List.forall_mem_cons.mpr ⟨a, List.forall_mem_cons.mpr ⟨b, List.forall_mem_cons.mpr ⟨c, List.forall_mem_cons.mpr ⟨d, List.forall_mem_cons.mpr ⟨e, List.forall_mem_cons.mpr ⟨f, g⟩⟩⟩⟩⟩⟩
  have up6 : ∀ {p : Addr × Obj}, p ∈ tl → p ∈ (L + 1 + 1 + 1 + 1 + 1 + 1, o6) :: (L + 1 + 1 + 1 + 1 + 1, o5) :: (L + 1 + 1 + 1 + 1, o4) :: (L + 1 + 1 + 1, o3) :: (L + 1 + 1, o2) :: (L + 1, oR) :: tl := fun h => .tail _ (.tail _ (.tail _ (.tail _ (.tail _ (.tail _ h)))))
  have ltn : ∀ {k x : Nat}, @LE.le Nat _ k (L + 1 + 1 + 1 + 1 + 1 + 1) → @LT.lt Nat _ (L + 1 + 1 + 1 + 1 + 1 + 1) x → @Ne Nat k x := fun h1 h2 => Nat.ne_of_lt (Nat.lt_of_le_of_lt h1 h2)
  refine lawB B X T hdp hu F1 N1 (up6 hcL) (up6 hgL) (up6 hpL) (up6 hoL) (up6 hnt) (up6 hnd) (.tail _ (.tail _ (.tail _ (.tail _ (.tail _ (.head _)))))) hoR
    (six (P := fun p => p.1 ≠ H) (ltn (by omega) hH6) (ltn (by omega) hH6) (ltn (by omega) hH6) (ltn (by omega) hH6) (ltn (by omega) hH6) (ltn (by omega) hH6) e1)
    (six (P := fun p => p.1 ≠ rL) (ltn (by omega) hr6) (ltn (by omega) hr6) (ltn (by omega) hr6) (ltn (by omega) hr6) (ltn (by omega) hr6) (ltn (by omega) hr6) e2)
    (six (P := fun p => p.1 ≠ ceL) (ltn (by omega) hc6) (ltn (by omega) hc6) (ltn (by omega) hc6) (ltn (by omega) hc6) (ltn (by omega) hc6) (ltn (by omega) hc6) e3)
    hHc hcr hcH hwv hP hov hHO htk63 hm0 hm1 hPl hgl4 hoi hop ?_
  clear F1 N1
  intro rv cev kr kc cells nwl hand m2 h2 tk2 F2 N2 hcl hR hC hK hnw
  have N2T : ∀ {p : Addr × Obj}, p ∈ (L + 1 + 1 + 1 + 1 + 1 + 1, o6) :: (L + 1 + 1 + 1 + 1 + 1, o5) :: (L + 1 + 1 + 1 + 1, o4) :: (L + 1 + 1 + 1, o3) :: (L + 1 + 1, o2) :: (L + 1, oR) :: tl → (h2.get? p.1 = some p.2 ∧ p.1 ≠ L ∧ h₀.get? p.1 = none) := fun h => N2 _ (.tail _ (.tail _ (.tail _ (List.mem_append_right _ h))))
  obtain ⟨R0, hR0⟩ : ∃ R0, R0 = (rL, listOf rv.toArray kr) :: (ceL, listOf cev.toArray kc) :: (nwl ++ tl) := ⟨_, rfl⟩
  have tl0 : ∀ {p : Addr × Obj}, p ∈ tl → p ∈ R0 := fun h => hR0 ▸ .tail _ (.tail _ (List.mem_append_right _ h))
  have hrL0 : (rL, listOf rv.toArray kr) ∈ R0 := hR0 ▸ .head _
  have hce0 : (ceL, listOf cev.toArray kc) ∈ R0 := hR0 ▸ .tail _ (.head _)
  have R0N : News h₀ L h2 R0 := by
    subst hR0
    exact List.forall_mem_cons.mpr ⟨N2 _ (.tail _ (.head _)), List.forall_mem_cons.mpr ⟨N2 _ (.tail _ (.tail _ (.head _))), fun p hp => (List.mem_append.mp hp).elim (fun h => N2 p (.tail _ (.tail _ (.tail _ (List.mem_append_left _ h))))) fun h => N2T (up6 h)⟩⟩
  have subD : ∀ p ∈ nwl ++ ((L + 1 + 1 + 1 + 1 + 1 + 1, o6) :: (L + 1 + 1 + 1 + 1 + 1, o5) :: (L + 1 + 1 + 1 + 1, o4) :: (L + 1 + 1 + 1, o3) :: (L + 1 + 1, o2) :: (L + 1, oR) :: tl), (∀ c, p.2.data ≠ .cell c) → p ∈ R0 := fun p hp hc => by
    subst hR0
    rcases List.mem_append.mp hp with hp | hp
    · exact .tail _ (.tail _ (List.mem_append_left _ hp))
    rcases List.mem_cons.mp hp with rfl | hp
    · exact absurd d6 (hc _)
    rcases List.mem_cons.mp hp with rfl | hp
    · exact absurd d5 (hc _)
    rcases List.mem_cons.mp hp with rfl | hp
    · exact absurd d4 (hc _)
    rcases List.mem_cons.mp hp with rfl | hp
    · exact absurd d3 (hc _)
    rcases List.mem_cons.mp hp with rfl | hp
    · exact absurd d2 (hc _)
    rcases List.mem_cons.mp hp with rfl | hp
    · exact absurd hoR (hc _)
    · exact .tail _ (.tail _ (List.mem_append_right _ hp))
  have hR1 := hR.monoD subD
  have hC1 := hC.monoD subD
  have off0 : ∀ p ∈ R0, ∀ k, 1 ≤ k → k ≤ 6 → @Ne Nat p.1 (Nat.add L k) := by
    subst hR0
    have big : ∀ {x k : Nat}, @LT.lt Nat _ (L + 1 + 1 + 1 + 1 + 1 + 1) x → k ≤ 6 → @Ne Nat x (Nat.add L k) := fun {x k} h hk => Nat.ne_of_gt (Nat.lt_of_le_of_lt (Nat.add_le_add_left hk L) h)
    refine List.forall_mem_cons.mpr ⟨fun k _ hk => big hr6 hk, List.forall_mem_cons.mpr ⟨fun k _ hk => big hc6 hk, fun p hp k h1 hk => ?_⟩⟩
    rcases List.mem_append.mp hp with hp | hp
    · exact big (Nat.lt_trans hr6 (hnw p hp)) hk
    · have hk' : k = 1 ∨ k = 2 ∨ k = 3 ∨ k = 4 ∨ k = 5 ∨ k = 6 := by omega
      rcases hk' with rfl | rfl | rfl | rfl | rfl | rfl
      · exact f1 p hp
      · exact f2 p hp
      · exact f3 p hp
      · exact f4 p hp
      · exact f5 p hp
      · exact f6 p hp
  have N3 : News h₀ L h2 ((L + 1 + 1, o2) :: (L + 1 + 1 + 1 + 1 + 1 + 1, o6) :: (L + 1 + 1 + 1 + 1 + 1, o5) :: (L + 1 + 1 + 1 + 1, o4) :: (L + 1 + 1 + 1, o3) :: (L + 1, oR) :: R0) := List.forall_mem_cons.mpr ⟨N2T (.tail _ (.tail _ (.tail _ (.tail _ (.head _))))), List.forall_mem_cons.mpr ⟨N2T (.head _), List.forall_mem_cons.mpr ⟨N2T (.tail _ (.head _)), List.forall_mem_cons.mpr ⟨N2T (.tail _ (.tail _ (.head _))), List.forall_mem_cons.mpr ⟨N2T (.tail _ (.tail _ (.tail _ (.head _)))), List.forall_mem_cons.mpr ⟨N2T (.tail _ (.tail _ (.tail _ (.tail _ (.tail _ (.head _)))))), R0N⟩⟩⟩⟩⟩⟩
  have hlen : cells.length ≤ 12 := by omega
  have hcev : cev.length ≤ 12 := by rw [hC.1]; omega
  have hins : ∀ x ∈ cells, x.ins.length ≤ 4 := fun x hx => (hK x hx).1
  have hcb : ∀ x ∈ cells, 0 ≤ x.out ∧ x.out < 100 := fun x hx => hpb _ (hK x hx).2.2
  have hinp : ∀ gg, gateAt cells gg = true → ∀ x ∈ insAt cells gg, x ∈ poolI := fun gg hg x hx => by
    have hl := gateAt_lt hg
    rw [insAt_of hl] at hx
    exact (hK _ (List.getElem_mem hl)).2.1 x hx
  clear N2 N2T hR hC subD R0N hnw up6 six f1 f2 f3 f4 f5 f6 e1 e2 e3
  -- held, driven
  show wpAny (model Challenge.rw_nn0302_01.row.prog w) (lawAt cx w L) (execs (piece w 10 15) (lawEnv cx w L)) _ _ _
  refine piece_split (k := 2) (by omega) ?_
  have up5 : ∀ {p : Addr × Obj}, p ∈ R0 → p ∈ ((L + 1 + 1 + 1 + 1 + 1 + 1, o6) :: (L + 1 + 1 + 1 + 1 + 1, o5) :: (L + 1 + 1 + 1 + 1, o4) :: (L + 1 + 1 + 1, o3) :: (L + 1, oR) :: R0) := fun h => .tail _ (.tail _ (.tail _ (.tail _ (.tail _ (h)))))
  refine lawC (n1 := 0) (poolI := poolI) (plv := plv) (news := ((L + 1 + 1 + 1 + 1 + 1 + 1, o6) :: (L + 1 + 1 + 1 + 1 + 1, o5) :: (L + 1 + 1 + 1 + 1, o4) :: (L + 1 + 1 + 1, o3) :: (L + 1, oR) :: R0)) B X T hdp hu (lmF F2 (by repeat (first | exact List.forall_mem_nil _ | refine List.forall_mem_cons.mpr ⟨rfl, ?_⟩))) N3 ?_ d2 (up5 (tl0 hgL)) (up5 hrL0) (up5 hce0) (up5 (tl0 hnt)) (up5 (tl0 hnd)) (.tail _ (.tail _ (.tail _ (.tail _ (.head _))))) hoR hgv (hR1.mono fun p hp => up5 hp) hcl hm1 hgl4 hcev ?_
  · repeat (first | exact List.forall_mem_nil _ | refine List.forall_mem_cons.mpr ⟨by k_ne, ?_⟩)
    exact fun p hp => off0 p hp 2 (by decide) (by decide)
  intro hA dA dv nH m3 h3 tk3 o2' F3 N4 ho2' hdv hA1 dA1 hA2 dA2 hAd
  have hA6 : @LT.lt Nat _ (L + 1 + 1 + 1 + 1 + 1 + 1) hA := hA1 _ (.head _)
  have dA6 : @LT.lt Nat _ (L + 1 + 1 + 1 + 1 + 1 + 1) dA := dA1 _ (.head _)
  have hdl : dv.length ≤ 20 := by
    rw [hdv.length]
    simp only [List.length_append, List.length_cons, List.length_nil, List.length_map, netsFrom_length]
    omega
  have off1 : ∀ p ∈ (hA, listOf cev.toArray nH) :: (dA, listOf dv.toArray 0) :: R0, ∀ k, 1 ≤ k → k ≤ 6 → @Ne Nat p.1 (Nat.add L k) := by
    have big : ∀ {x k : Nat}, @LT.lt Nat _ (L + 1 + 1 + 1 + 1 + 1 + 1) x → k ≤ 6 → @Ne Nat x (Nat.add L k) := fun {x k} h hk => Nat.ne_of_gt (Nat.lt_of_le_of_lt (Nat.add_le_add_left hk L) h)
    exact List.forall_mem_cons.mpr ⟨fun k _ hk => big hA6 hk, List.forall_mem_cons.mpr ⟨fun k _ hk => big dA6 hk, off0⟩⟩
  have dA0' : (dA, listOf dv.toArray 0) ∈ (hA, listOf cev.toArray nH) :: (dA, listOf dv.toArray 0) :: R0 := .tail _ (.head _)
  have hA0' : (hA, listOf cev.toArray nH) ∈ (hA, listOf cev.toArray nH) :: (dA, listOf dv.toArray 0) :: R0 := .head _
  have up1 : ∀ {p : Addr × Obj}, p ∈ R0 → p ∈ (hA, listOf cev.toArray nH) :: (dA, listOf dv.toArray 0) :: R0 := fun h => .tail _ (.tail _ h)
  have N4' : News h₀ L h3 ((L + 1 + 1 + 1, o3) :: (L + 1 + 1 + 1 + 1 + 1 + 1, o6) :: (L + 1 + 1 + 1 + 1 + 1, o5) :: (L + 1 + 1 + 1 + 1, o4) :: (L + 1 + 1, o2') :: (L + 1, oR) :: (hA, listOf cev.toArray nH) :: (dA, listOf dv.toArray 0) :: R0) := fun p hp => N4 p (by revert p; k_allIn)
  generalize hR1e : (hA, listOf cev.toArray nH) :: (dA, listOf dv.toArray 0) :: R0 = R1 at *
  -- due
  show wpAny (model Challenge.rw_nn0302_01.row.prog w) (lawAt cx w L) (execs (piece w 12 13) (lawEnv cx w L)) _ _ _
  refine piece_split (k := 2) (by omega) ?_
  refine lawD (dA := dA) B X T hdp hu F3 N4' ho2' (.tail _ (.tail _ (.tail _ (.tail _ (.head _))))) (.tail _ (.tail _ (.tail _ (.tail _ (.tail _ (.tail _ (dA0'))))))) hdv hdl ?_
  intro td h4 tk4 F4 N5
  generalize hd1 : (if ([0, 1] ++ netsFrom 2 (1 + g) ++ cells.map Cell.out : List Int).Nodup then Str.ofString "" else Str.ofString "two_drivers") = d1 at F4
  -- gates
  show wpAny (model Challenge.rw_nn0302_01.row.prog w) (lawAt cx w L) (execs (piece w 14 11) (lawEnv cx w L)) _ _ _
  refine piece_split (k := 1) (by omega) ?_
  refine lawE (news := ((L + 1 + 1 + 1 + 1 + 1 + 1, o6) :: (L + 1 + 1 + 1 + 1 + 1, o5) :: (L + 1 + 1 + 1 + 1, o4) :: (L + 1 + 1, o2') :: (L + 1, oR) :: R1)) B X T hdp hu (lmF F4 (by repeat (first | exact List.forall_mem_nil _ | refine List.forall_mem_cons.mpr ⟨rfl, ?_⟩))) N5 ?_ d3 (.tail _ (.tail _ (.tail _ (.tail _ (.tail _ (up1 hrL0)))))) (.tail _ (.tail _ (.tail _ (.tail _ (.head _))))) hoR (hR1.mono fun p hp => .tail _ (.tail _ (.tail _ (.tail _ (.tail _ (up1 hp)))))) hcl hm1 ?_
  · repeat (first | exact List.forall_mem_nil _ | refine List.forall_mem_cons.mpr ⟨by k_ne, ?_⟩)
    exact fun p hp => off1 p hp 3 (by decide) (by decide)
  intro gA gl h5 tk5 o3' F5 N6 ho3' hG gne g3
  have gA2 : @Ne Nat (L + 1 + 1) gA := gne _ (.tail _ (.tail _ (.tail _ (.head _))))
  have gA1 : @Ne Nat (L + 1) gA := gne _ (.tail _ (.tail _ (.tail _ (.tail _ (.head _)))))
  have gA4 : @Ne Nat (L + 1 + 1 + 1 + 1) gA := gne _ (.tail _ (.tail _ (.head _)))
  have gA5 : @Ne Nat (L + 1 + 1 + 1 + 1 + 1) gA := gne _ (.tail _ (.head _))
  have gA6 : @Ne Nat (L + 1 + 1 + 1 + 1 + 1 + 1) gA := gne _ (.head _)
  have off2 : ∀ p ∈ (gA, LCg.lst gl) :: R1, ∀ k, 1 ≤ k → k ≤ 6 → @Ne Nat p.1 (Nat.add L k) := by
    refine List.forall_mem_cons.mpr ⟨fun k h1 hk => ?_, off1⟩
    have hk' : k = 1 ∨ k = 2 ∨ k = 3 ∨ k = 4 ∨ k = 5 ∨ k = 6 := by omega
    rcases hk' with rfl | rfl | rfl | rfl | rfl | rfl
    · exact gA1.symm
    · exact gA2.symm
    · exact g3.symm
    · exact gA4.symm
    · exact gA5.symm
    · exact gA6.symm
  have gA0 : (gA, LCg.lst gl) ∈ (gA, LCg.lst gl) :: R1 := .head _
  have up2 : ∀ {p : Addr × Obj}, p ∈ R1 → p ∈ (gA, LCg.lst gl) :: R1 := fun h => .tail _ h
  have N6' : News h₀ L h5 ((L + 1 + 1 + 1 + 1, o4) :: (L + 1 + 1 + 1 + 1 + 1 + 1, o6) :: (L + 1 + 1 + 1 + 1 + 1, o5) :: (L + 1 + 1 + 1, o3') :: (L + 1 + 1, o2') :: (L + 1, oR) :: (gA, LCg.lst gl) :: R1) := fun p hp => N6 p (by revert p; k_allIn)
  generalize hR2e : (gA, LCg.lst gl) :: R1 = R2 at *
  have R2of : ∀ {p : Addr × Obj}, p ∈ R0 → p ∈ R2 := fun h => up2 (up1 h)
  have hR2 : RowsIn R2 rv cells := hR1.mono fun p hp => R2of hp
  have hC2 : CellsIn R2 cev cells := hC1.mono fun p hp => R2of hp
  -- done
  show wpAny (model Challenge.rw_nn0302_01.row.prog w) (lawAt cx w L) (execs (piece w 15 10) (lawEnv cx w L)) _ _ _
  refine piece_split (k := 1) (by omega) ?_
  refine lawF (news := ((L + 1 + 1 + 1 + 1 + 1 + 1, o6) :: (L + 1 + 1 + 1 + 1 + 1, o5) :: (L + 1 + 1 + 1, o3') :: (L + 1 + 1, o2') :: (L + 1, oR) :: R2)) B X T hdp hu (lmF F5 (by repeat (first | exact List.forall_mem_nil _ | refine List.forall_mem_cons.mpr ⟨rfl, ?_⟩))) N6' ?_ d4 (.tail _ (.tail _ (.tail _ (.tail _ (.tail _ (R2of hrL0)))))) (.tail _ (.tail _ (.tail _ (.tail _ (.head _))))) hoR (.tail _ (.tail _ (.tail _ (.tail _ (.tail _ (gA0)))))) (.tail _ (.tail _ (.head _))) ho3' (.tail _ (.tail _ (.tail _ (.tail _ (.tail _ (R2of (tl0 hpL))))))) (hR2.mono fun p hp => .tail _ (.tail _ (.tail _ (.tail _ (.tail _ (hp)))))) hlen hG hP hpl20 ?_
  · repeat (first | exact List.forall_mem_nil _ | refine List.forall_mem_cons.mpr ⟨by k_ne, ?_⟩)
    exact fun p hp => off2 p hp 4 (by decide) (by decide)
  intro doA dov h6 tk6 o4' F6 N7 ho4' hdo done do4
  have do5 : @Ne Nat (L + 1 + 1 + 1 + 1 + 1) doA := done _ (.tail _ (.head _))
  -- the layers
  show wpAny (model Challenge.rw_nn0302_01.row.prog w) (lawAt cx w L) (execs (piece w 16 9) (lawEnv cx w L)) _ _ _
  refine piece_split (k := 2) (by omega) ?_
  refine lawG (news := ((L + 1 + 1 + 1 + 1 + 1 + 1, o6) :: (L + 1 + 1 + 1, o3') :: (L + 1, oR) :: R2)) (vd := .str d1 td) B X T hdp hu (lmF F6 (by repeat (first | exact List.forall_mem_nil _ | refine List.forall_mem_cons.mpr ⟨rfl, ?_⟩))) (fun p hp => N7 p (by revert p; k_allIn)) ?_ ?_ ho4' d5 do4 do5 (.tail _ (.tail _ (.tail _ (R2of hrL0)))) (.tail _ (.tail _ (.head _))) hoR (.tail _ (.tail _ (.tail _ (gA0)))) (.tail _ (.head _)) ho3' (hR2.mono fun p hp => .tail _ (.tail _ (.tail _ (hp)))) hcl hm1 hG hdo hpil hins ?_
  · repeat (first | exact List.forall_mem_nil _ | refine List.forall_mem_cons.mpr ⟨by k_ne, ?_⟩)
    exact fun p hp => off2 p hp 4 (by decide) (by decide)
  · repeat (first | exact List.forall_mem_nil _ | refine List.forall_mem_cons.mpr ⟨by k_ne, ?_⟩)
    exact fun p hp => off2 p hp 5 (by decide) (by decide)
  intro lA lv kl m7 h7 tk7 lne F7 N8 hlv
  have lA6 : @Ne Nat (L + 1 + 1 + 1 + 1 + 1 + 1) lA := lne _ (.head _)
  -- due again
  show wpAny (model Challenge.rw_nn0302_01.row.prog w) (lawAt cx w L) (execs (piece w 18 7) (lawEnv cx w L)) _ _ _
  refine piece_split (k := 1) (by omega) ?_
  refine lawH (news := ((lA, listOf lv.toArray kl) :: (L + 1 + 1 + 1 + 1 + 1 + 1, o6) :: (L + 1 + 1 + 1, o3') :: (L + 1, oR) :: R2)) B X T hdp hu (lmF F7 (by repeat (first | exact List.forall_mem_nil _ | refine List.forall_mem_cons.mpr ⟨rfl, ?_⟩))) N8 (.head _) hlv ?_ ?_
  · rw [← hd1]
    by_cases h : ([0, 1] ++ netsFrom 2 (1 + g) ++ cells.map Cell.out : List Int).Nodup
    · rw [if_pos h]; exact .inl rfl
    · rw [if_neg h]; exact .inr rfl
  intro dd td2 m8 h8 tk8 hdd F8 N9
  have up4 : ∀ {p : Addr × Obj}, p ∈ R2 → p ∈ ((lA, listOf lv.toArray kl) :: (L + 1 + 1 + 1 + 1 + 1 + 1, o6) :: (L + 1 + 1 + 1, o3') :: (L + 1, oR) :: R2) := fun h => .tail _ (.tail _ (.tail _ (.tail _ (h))))
  -- the try
  show wpAny (model Challenge.rw_nn0302_01.row.prog w) (lawAt cx w L) (execs (piece w 19 6) (lawEnv cx w L)) _ _ _
  refine piece_split (k := 1) (by omega) ?_
  refine lawI (base := h₀) (news := ((lA, listOf lv.toArray kl) :: (L + 1 + 1 + 1 + 1 + 1 + 1, o6) :: (L + 1 + 1 + 1, o3') :: (L + 1, oR) :: R2)) B X T hdp hu (lmF F8 (by repeat (first | exact List.forall_mem_nil _ | refine List.forall_mem_cons.mpr ⟨rfl, ?_⟩))) N9 (up4 (R2of (tl0 hnt))) (up4 (R2of (tl0 hnd))) (up4 (R2of hce0)) (up4 (R2of (tl0 hin))) (up4 (R2of (tl0 hti))) (up4 (R2of (tl0 hgl2))) hgv hgn12 (hC2.mono fun p hp => up4 hp) hlen hgb hcb hins ?_ ?_ (fun m' h' tk' hF => fin m' h' tk' hF) ?_
  · intro hn
    rw [if_neg hn] at hd1
    rw [hdd, ← hd1, if_neg due_ne]
  · intro hn r hO hlt
    rw [if_pos hn] at hd1
    rw [hdd, ← hd1, if_pos rfl, if_neg (lay_some (List.nodup_append.mp hn).2.1 hO hlt)]
  intro hn D ys r nD m9 h9 tk9 F9 N10 hys hO hle hDlt
  obtain ⟨hlf, hperm⟩ := lay_empty (List.nodup_append.mp hn).2.1 hO hinp hle
  rw [if_pos hn] at hd1
  rw [← hd1, if_pos rfl, if_pos hlf] at hdd
  subst hdd
  -- the first test
  show wpAny (model Challenge.rw_nn0302_01.row.prog w) (lawAt cx w L) (execs (piece w 20 5) (lawEnv cx w L)) _ _ _
  refine piece_split (k := 1) (by omega) ?_
  refine lawJ (news := ((D, listOf ys.toArray nD) :: (lA, listOf lv.toArray kl) :: (L + 1 + 1 + 1 + 1 + 1 + 1, o6) :: (L + 1 + 1 + 1, o3') :: (L + 1, oR) :: R2)) B X T hdp hu (lmF F9 (by repeat (first | exact List.forall_mem_nil _ | refine List.forall_mem_cons.mpr ⟨rfl, ?_⟩))) N10 (.tail _ (up4 (R2of (tl0 hnt)))) (.tail _ (up4 (R2of (tl0 hnd)))) (.tail _ (up4 (R2of hce0))) (.tail _ (up4 (up2 hA0'))) (.head _) (.tail _ (up4 gA0)) (.tail _ (.tail _ (.tail _ (.head _)))) ho3' hG (hC2.mono fun p hp => .tail _ (up4 hp)) hlen hys hperm ?_
  intro h10 tk10 F10 N11
  have up7 : ∀ {p : Addr × Obj}, p ∈ R2 → p ∈ ((D, listOf ys.toArray nD) :: (lA, listOf lv.toArray kl) :: (L + 1 + 1 + 1, o3') :: (L + 1, oR) :: R2) := fun h => .tail _ (.tail _ (.tail _ (.tail _ (h))))
  -- found
  show wpAny (model Challenge.rw_nn0302_01.row.prog w) (lawAt cx w L) (execs (piece w 21 4) (lawEnv cx w L)) _ _ _
  refine piece_split (k := 1) (by omega) ?_
  refine lawK (news := ((D, listOf ys.toArray nD) :: (lA, listOf lv.toArray kl) :: (L + 1 + 1 + 1, o3') :: (L + 1, oR) :: R2)) B X T hdp hu (lmF F10 (by repeat (first | exact List.forall_mem_nil _ | refine List.forall_mem_cons.mpr ⟨rfl, ?_⟩))) (fun p hp => N11 p (by revert p; k_allIn)) ?_ d6 (up7 (R2of (tl0 hnt))) (up7 (R2of (tl0 hnd))) (up7 (R2of hce0)) (up7 (R2of (tl0 hin))) (up7 (R2of (tl0 hti))) (up7 (R2of (tl0 hgl2))) hgv hgn12 (hC2.mono fun p hp => up7 hp) hlen hgb hcb hn ?_
  · have hD6 : @LT.lt Nat _ (L + 1 + 1 + 1 + 1 + 1 + 1) D := hDlt _ (.tail _ (.head _))
    refine List.forall_mem_cons.mpr ⟨Nat.ne_of_gt hD6, List.forall_mem_cons.mpr ⟨lA6.symm, ?_⟩⟩
    repeat (first | exact List.forall_mem_nil _ | refine List.forall_mem_cons.mpr ⟨by k_ne, ?_⟩)
    exact fun p hp => off2 p hp 6 (by decide) (by decide)
  intro fA oF kvs h11 tk11 o6' F11 N12 ho6' hO6 hD6 hlt6 hlo6
  have N13 : News h₀ L h11 ((L + 1 + 1 + 1 + 1 + 1 + 1, o6') :: (fA, oF) :: (D, listOf ys.toArray nD) :: (lA, listOf lv.toArray kl) :: (L + 1 + 1 + 1, o3') :: (L + 1, oR) :: R2) := N12
  have up8 : ∀ {p : Addr × Obj}, p ∈ ((D, listOf ys.toArray nD) :: (lA, listOf lv.toArray kl) :: (L + 1 + 1 + 1, o3') :: (L + 1, oR) :: R2) → p ∈ ((L + 1 + 1 + 1 + 1 + 1 + 1, o6') :: (fA, oF) :: (D, listOf ys.toArray nD) :: (lA, listOf lv.toArray kl) :: (L + 1 + 1 + 1, o3') :: (L + 1, oR) :: R2) := fun h => .tail _ (.tail _ h)
  -- the second test
  show wpAny (model Challenge.rw_nn0302_01.row.prog w) (lawAt cx w L) (execs (piece w 22 3) (lawEnv cx w L)) _ _ _
  refine piece_split (k := 1) (by omega) ?_
  refine lawL (fA := fA) B X T hdp hu (lmF F11 (by repeat (first | exact List.forall_mem_nil _ | refine List.forall_mem_cons.mpr ⟨rfl, ?_⟩))) N13 (.tail _ (.head _)) (.head _) ho6' hO6 hD6 hlo6 (up8 (up7 (R2of hrL0))) (up8 (.tail _ (.tail _ (.tail _ (.head _))))) hoR (hR2.mono fun p hp => up8 (up7 hp)) hcl hm1 ?_
  intro h12 tk12 F12 N14
  -- the order
  show wpAny (model Challenge.rw_nn0302_01.row.prog w) (lawAt cx w L) (execs (piece w 23 2) (lawEnv cx w L)) _ _ _
  refine piece_split (k := 1) (by omega) ?_
  refine lawM (D := D) (fA := fA) B X T hdp hu (lmF F12 (by repeat (first | exact List.forall_mem_nil _ | refine List.forall_mem_cons.mpr ⟨rfl, ?_⟩))) N14 (.tail _ (.head _)) (.head _) ho6' hO6 hD6 hlo6 (up8 (up7 (R2of hrL0))) (up8 (.tail _ (.tail _ (.tail _ (.head _))))) hoR (hR2.mono fun p hp => up8 (up7 hp)) hcl hm1 (up8 (.head _)) hys hO hins ?_
  intro m13 h13 tk13 F13 N15
  -- the end
  show wpAny (model Challenge.rw_nn0302_01.row.prog w) (lawAt cx w L) (execs (piece w 24 1) (lawEnv cx w L)) _ _ _
  exact lawN B X T hdp hu (lmF F13 (by repeat (first | exact List.forall_mem_nil _ | refine List.forall_mem_cons.mpr ⟨rfl, ?_⟩))) N15 (up8 (up7 (R2of (tl0 hnt)))) (up8 (up7 (R2of (tl0 hnd)))) (up8 (up7 (R2of hce0))) (hC2.mono fun p hp => up8 (up7 hp)) hlen (up8 (up7 gA0)) (up8 (.tail _ (.tail _ (.head _)))) ho3' hG hcl hm1 (fun m' h' tk' hF => fin m' h' tk' hF)
end
theorem reset_41 : True := by
  w_top off
  trivial
section
theorem t : PySem.Challenge.rw_nn0302_01.Holds := hd (by
  k_go0
  all_goals try k_fold
  rename_i h1 tk1 F0 q5 q4 q3 q2 q1 q0 c5 c4 c3 c2 c1 c0 N0 X0
  refine' wpAny_mono (lawWhole (Q := qk) (cx := ⟨_, _, _, _, _, _, []⟩) (m := _) ?B (lmF F0 ?F) ?X N0 ?T ?sl ?I ?ns (c0.trans ?d1) (c1.trans ?d2) (c2.trans ?d3) (c3.trans ?d4) (c4.trans ?d5) (c5.trans ?d6) ?dp ?un ?fin) (fun _ _ h => h) (fun _ _ h => h.elim)
  case sl => assumption
  case I => assumption
  case B => assumption
  case X => assumption
  case T => assumption
  case F => exact List.forall_mem_cons.mpr ⟨by rfl, List.forall_mem_nil _⟩
  case d1 => rfl
  case d2 => rfl
  case d3 => rfl
  case d4 => rfl
  case d5 => rfl
  case d6 => rfl
  case ns => omega
  case dp => (dsimp only; decide)
  case un => (dsimp only; decide)
  case fin =>
    intro m' h' tk' FF
    refine goodW_bool FF ?g (raisesW_false ?hn) ?hp
    case g => assumption
    case hn => wrow_none_raised
    case hp => refine' postW_of ?zs ?zv ?ze; (case zs => o_shape); (case zv => wtm_val); (case ze => w_fin))
end
end Mine

theorem PySem.Challenge.cw_nn0302_01_holds : PySem.Challenge.rw_nn0302_01.Holds := by
  exact Mine.t
