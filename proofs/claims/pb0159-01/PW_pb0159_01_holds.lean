import PyProof.Rows.All
import Wide.All
import OpenK.AllK
import Wide.FinOn
import PySem.Challenge.RW_pb0159_01
set_option Elab.async false
section
open PySem PySem.W PyProof.Rows
namespace Mine
set_option maxRecDepth 100000 in
set_option maxHeartbeats 8000000 in
open_top hd for PySem.Challenge.rw_pb0159_01
end Mine
end
section
open PySem PySem.W PyProof.Rows PySem.Spec PySem.Calls
set_option linter.unusedVariables false
namespace Mine
/-! comprehensions by an invariant over the turn's number, the items and the ledger -/
section
variable {prog : Program} {w : World} {A : Around} {h₀ : Heap} {L : Addr} {m : Str → Option Value} {env : Env} {ct elt : PySem.Expr} {x : Str} {scope : Scope} {cl : List (Str × Addr)} {s : Shared}
  {S : List (Addr × Obj) → Prop} {P : Nat → Value → Prop} {Fin : List Value → List (Addr × Obj) → Prop} {news : List (Addr × Obj)} {n : Nat}
theorem rest_U (Inv : Nat → List Value → List (Addr × Obj) → Prop) (h0 : Inv 0 [] news)
    (turn : ∀ i ys nw v I oI C oC D m₂ h tk (E' : Value → Shared → Prop), i < n → Inv i ys nw → P i v → LCg.NsObj oC m₂ → m₂ x = some v → Fr h₀ L h m → News h₀ L h ((I, oI) :: (C, oC) :: (D, LCg.lst ys) :: nw) → LCg.Off3 I C D nw → ((@Ne Nat I C) ∧ (@Ne Nat I D) ∧ (@Ne Nat C D)) →
      wpAny (model prog w) A (eval elt (compEnvC scope cl C env)) (LCg.CompEnd h₀ L m { s with heap := h, toks := tk } I oI C oC D (LCg.lst ys) S (fun y nw' => Inv (i + 1) (ys ++ [y]) nw')) E' { s with heap := h, toks := tk })
    (fin : ∀ ys nw, Inv n ys nw → Fin ys nw) : LCg.CompRest prog w A h₀ L m env elt x scope cl s S P Fin n 0 [] news := by
  have key : ∀ (j i : Nat) (ys : List Value) (nw : List (Addr × Obj)), i + j = n → Inv i ys nw → LCg.CompRest prog w A h₀ L m env elt x scope cl s S P Fin j i ys nw := by
    intro j
    induction j with
    | zero =>
      intro i ys nw hi hv
      have e : i = n := by omega
      subst e
      exact LCg.CompRest.zero (fin ys nw hv)
    | succ j ih =>
      intro i ys nw hi hv
      refine LCg.CompRest.succ ?_
      intro v I oI C oC D m₂ h tk E' hP hC hx F N off ne
      refine wpAny_mono (turn i ys nw v I oI C oC D m₂ h tk E' (by omega) hv hP hC hx F N off ne) (fun y s₂ hq => ?_) fun _ _ e => e
      obtain ⟨h', tk', nw', e, F', N', off', hS, hv'⟩ := hq
      exact ⟨h', tk', nw', e, F', N', off', hS, ih (i + 1) _ _ (by omega) hv'⟩
  exact key n 0 [] news (by omega) h0
theorem rest_T (Inv : Nat → List Value → List (Addr × Obj) → Prop) (h0 : Inv 0 [] news)
    (turn : ∀ i ys nw v I oI C oC D m₂ h tk (E' : Value → Shared → Prop), i < n → Inv i ys nw → P i v → LCg.NsObj oC m₂ → m₂ x = some v → Fr h₀ L h m → News h₀ L h ((I, oI) :: (C, oC) :: (D, LCg.lst ys) :: nw) → LCg.Off3 I C D nw → ((@Ne Nat I C) ∧ (@Ne Nat I D) ∧ (@Ne Nat C D)) →
      wpAny (model prog w) A (isTrue ct (compEnvC scope cl C env) (eval ct (compEnvC scope cl C env))) (fun ok s' => if ok = true then
        wpAny (model prog w) A (eval elt (compEnvC scope cl C env)) (LCg.CompEnd h₀ L m { s with heap := h, toks := tk } I oI C oC D (LCg.lst ys) S (fun y nw' => Inv (i + 1) (ys ++ [y]) nw')) E' s'
        else LCg.CompEnd h₀ L m { s with heap := h, toks := tk } I oI C oC D (LCg.lst ys) S (fun _ nw' => Inv (i + 1) ys nw') Value.none s') E' { s with heap := h, toks := tk })
    (fin : ∀ ys nw, Inv n ys nw → Fin ys nw) : LCt.CompRestT prog w A h₀ L m env ct elt x scope cl s S P Fin n 0 [] news := by
  have key : ∀ (j i : Nat) (ys : List Value) (nw : List (Addr × Obj)), i + j = n → Inv i ys nw → LCt.CompRestT prog w A h₀ L m env ct elt x scope cl s S P Fin j i ys nw := by
    intro j
    induction j with
    | zero =>
      intro i ys nw hi hv
      have e : i = n := by omega
      subst e
      exact LCt.CompRestT.zero (fin ys nw hv)
    | succ j ih =>
      intro i ys nw hi hv
      refine LCt.CompRestT.succ ?_
      intro v I oI C oC D m₂ h tk E' hP hC hx F N off ne
      refine wpAny_mono (turn i ys nw v I oI C oC D m₂ h tk E' (by omega) hv hP hC hx F N off ne) (fun ok s₁ hq => ?_) fun _ _ e => e
      cases ok with
      | true =>
        simp only [if_true] at hq ⊢
        refine wpAny_mono hq (fun y s₂ hq => ?_) fun _ _ e => e
        obtain ⟨h', tk', nw', e, F', N', off', hS, hv'⟩ := hq
        exact ⟨h', tk', nw', e, F', N', off', hS, ih (i + 1) _ _ (by omega) hv'⟩
      | false =>
        simp only [Bool.false_eq_true, if_false] at hq ⊢
        obtain ⟨h', tk', nw', e, F', N', off', hS, hv'⟩ := hq
        exact ⟨h', tk', nw', e, F', N', off', hS, ih (i + 1) _ _ (by omega) hv'⟩
  exact key n 0 [] news (by omega) h0
end
def Held (P : Prop) : Prop := P
theorem Held.mk {P : Prop} (h : P) : Held P := h
theorem Held.out {P : Prop} (h : Held P) : P := h
theorem news_sub {h₀ h : Heap} {L : Addr} {news news' : List (Addr × Obj)} (N : News h₀ L h news) (hs : ∀ p ∈ news', p ∈ news) : News h₀ L h news' := fun p hp => N p (hs p hp)
theorem end_add {h₀ : Heap} {L I C D : Addr} {m : Str → Option Value} {s₁ : Shared} {oI oC oD : Obj} {S : List (Addr × Obj) → Prop} {rest : Value → List (Addr × Obj) → Prop} {y : Value} {h' : Heap} {tk : Nat} {all nw add : List (Addr × Obj)}
    (F : Fr h₀ L h' m) (N : News h₀ L h' all) (sub : ∀ p ∈ (I, oI) :: (C, oC) :: (D, oD) :: (nw ++ add), p ∈ all) (off : LCg.Off3 I C D nw) (hadd : ∀ p ∈ add, p.1 ≠ I ∧ p.1 ≠ C ∧ p.1 ≠ D) (hS : S (nw ++ add)) (r : rest y (nw ++ add)) :
    LCg.CompEnd h₀ L m s₁ I oI C oC D oD S rest y { s₁ with heap := h', toks := tk } :=
  LCg.CompEnd.intro F N (nw ++ add) sub (LCg.Off3.of fun p hp => (List.mem_append.mp hp).elim (off.mem p) (hadd p)) hS r
theorem sub1 {q : Addr × Obj} {a b c : Addr × Obj} {l : List (Addr × Obj)} : ∀ p ∈ a :: b :: c :: (l ++ [q]), p ∈ q :: a :: b :: c :: l := by
  intro p hp
  simp only [List.mem_cons, List.mem_append, List.not_mem_nil, or_false] at hp ⊢
  rcases hp with h | h | h | h | h
  · exact .inr (.inl h)
  · exact .inr (.inr (.inl h))
  · exact .inr (.inr (.inr (.inl h)))
  · exact .inr (.inr (.inr (.inr h)))
  · exact .inl h
theorem sub0 {a b c : Addr × Obj} {l : List (Addr × Obj)} : ∀ p ∈ a :: b :: c :: (l ++ []), p ∈ a :: b :: c :: l := by
  intro p hp
  rw [List.append_nil] at hp
  exact hp
end Mine
end
section
open PySem PySem.W PyProof.Rows
set_option pp.deepTerms false
set_option pp.proofs false
namespace Mine
local macro_rules | `(tactic| k_all) => `(tactic| with_reducible assumption)
theorem fill : PySem.Challenge.rw_pb0159_01 = PySem.Challenge.rw_pb0159_01 ∧ (hd.heap_39 = hd.heap_39) := by
  w_top off
  k_fill
  exact ⟨rfl, rfl⟩
set_option maxRecDepth 100000 in
set_option maxHeartbeats 8000000 in
theorem draw_spec0 (w : World) (mean : ExcName → Option Value) (mg mb : Str → Option Value)
  (dp un : Nat) (gd : Option (List Code)) (cn : Str) (cs : Scope) (a : Addr) (ccd : Value) (cl : List (Str × Addr)) (outer : List Env) (A₀ : Around) (base h₀ : Heap) (L : Addr) (m : Str → Option Value) (s : Shared) (Q E : Value → Shared → Prop)
  (T C : Addr) (cvs : List Value) (cells : List Int) (at' limit : Int) (ta tlim : Tok) (n1 n2 : Nat) (news : List (Addr × Obj))
  (B : Below A₀ base outer h₀) (F : Fr h₀ L s.heap m) (X : (hd.heap_39 w.params).In h₀) (N : News h₀ L s.heap ((T, listOf #[.ref C, .int at' ta] n1) :: (C, listOf cvs.toArray n2) :: news))
  (TT : Top hd.view_39 (looseW hd.view_39 []) mean mg mb h₀) (hk : cs.kind = .function)
  (hi : IntsAre cvs cells) (hlen : 0 < cells.length) (hlen2 : cells.length ≤ 63)
  (h0 : 0 ≤ at') (h1 : at' ≤ 100) (l0 : 0 < limit) (l1 : limit ≤ 100)
  (hTC : C ≠ T) (hTn : ∀ p ∈ news, p.1 ≠ T) (hd1 : dp + 10 < recursionLimit) (hu : un + 20 < cLine)
  (ret : ∀ r t h' tk' ta', 0 ≤ r → r < limit → Fr h₀ L h' m → News h₀ L h' ((T, listOf #[.ref C, .int (at' + 1) ta'] n1) :: (C, listOf cvs.toArray n2) :: news) → Q (.int r t) { s with heap := h', toks := tk' }) :
  wpAny (model PySem.Challenge.rw_pb0159_01.row.prog w) (ktrTop dp un gd cn cs L a ccd cl outer) (call (.ref 165) [.ref T, .int limit tlim]) Q E s := by
  refine wpAny_call ?_
  k_dflt cell_enter
  k_steps
  exact ret _ _ _ _ _ (by rw [Int.fmod_eq_emod_of_nonneg _ (Int.le_of_lt l0)]; exact Int.emod_nonneg _ (Int.ne_of_gt l0)) (by rw [Int.fmod_eq_emod_of_nonneg _ (Int.le_of_lt l0)]; exact Int.emod_lt_of_pos _ l0) (by k_asm) (by k_asm)
theorem draw_spec {w : World} {mean : ExcName → Option Value} {mg mb : Str → Option Value}
  {dp un : Nat} {gd : Option (List Code)} {cn : Str} {cs : Scope} {a : Addr} {ccd : Value} {cl : List (Str × Addr)} {outer : List Env} {A₀ : Around} {base h₀ : Heap} {L : Addr} {m : Str → Option Value} {s : Shared} {Q E : Value → Shared → Prop}
  {T C : Addr} {cvs : List Value} {cells : List Int} {at' limit : Int} {ta tlim : Tok} {n1 n2 : Nat} {news : List (Addr × Obj)} {u : Obj → List (Addr × Obj)}
  (B : Below A₀ base outer h₀) (F : Fr h₀ L s.heap m) (X : (hd.heap_39 w.params).In h₀) (N : News h₀ L s.heap news)
  (TT : Top hd.view_39 (looseW hd.view_39 []) mean mg mb h₀) (hk : cs.kind = .function)
  (U : UpdF T (listOf #[.ref C, .int at' ta] n1) news u) (hCm : (C, listOf cvs.toArray n2) ∈ news) (hi : IntsAre cvs cells) (hCT : C ≠ T) (hlen : 0 < cells.length) (hlen2 : cells.length ≤ 63)
  (h0 : 0 ≤ at') (h1 : at' ≤ 100) (l0 : 0 < limit) (l1 : limit ≤ 100) (hd1 : dp + 10 < recursionLimit) (hu : un + 20 < cLine)
  (ret : ∀ r t h' tk' ta', 0 ≤ r → r < limit → Fr h₀ L h' m → News h₀ L h' (u (listOf #[.ref C, .int (at' + 1) ta'] n1)) → Q (.int r t) { s with heap := h', toks := tk' }) :
  wpAny (model PySem.Challenge.rw_pb0159_01.row.prog w) (ktrTop dp un gd cn cs L a ccd cl outer) (call (.ref 165) [.ref T, .int limit tlim]) Q E s := by
  obtain ⟨pre, post, rfl, hg, o1, o2⟩ := U.split
  have hall : ∀ p ∈ pre ++ post, p.1 ≠ T := fun p hp => (List.mem_append.mp hp).elim (o1 p) (o2 p)
  refine draw_spec0 w mean mg mb dp un gd cn cs a ccd cl outer A₀ base h₀ L m s Q E T C cvs cells at' limit ta tlim n1 n2 (pre ++ post) B F X ?_ TT hk hi hlen hlen2 h0 h1 l0 l1 hCT hall hd1 hu ?_
  · refine news_sub N fun p hp => ?_
    rcases List.mem_cons.mp hp with rfl | hp
    · exact List.mem_append_right _ (.head _)
    · rcases List.mem_cons.mp hp with rfl | hp
      · exact hCm
      · rcases List.mem_append.mp hp with hp | hp
        · exact List.mem_append_left _ hp
        · exact List.mem_append_right _ (.tail _ hp)
  · intro r t h' tk' ta' r0 r1 F' N'
    refine ret r t h' tk' ta' r0 r1 F' ?_
    rw [hg]
    refine news_sub N' fun p hp => ?_
    rcases List.mem_append.mp hp with hp | hp
    · exact .tail _ (.tail _ (List.mem_append_left _ hp))
    · rcases List.mem_cons.mp hp with rfl | hp
      · exact .head _
      · exact .tail _ (.tail _ (List.mem_append_right _ hp))
end Mine
end
section
open PySem PySem.W PyProof.Rows PySem.Spec PySem.Calls
set_option linter.unusedVariables false
set_option pp.deepTerms false
set_option pp.proofs false
namespace Mine
local macro_rules | `(tactic| k_all) => `(tactic| with_reducible assumption)
local macro_rules | `(tactic| k_mem) => `(tactic| with_reducible assumption)
local macro_rules | `(tactic| k_enter) => `(tactic| (refine' code_defC ?k1 ?k2 ?k3 ?k4 ?k5 ?kA ?kF ?kK ?k6 ?k7 ?k8 ?k9 ?kB ?kD ?_ ?c2 ?c3 ?c4; (case kA => exact rfl); (case kF => exact rfl); (case kK => first | exact rfl | assumption); (case k1 => k_asm); (case k2 => k_asm); (case k3 => k_asm); (case k4 => k_asm); (case k5 => k_asm); (case k6 => k_is); (case k7 => k_is); (case k8 => ktr_room); (case k9 => first | exact BindsTo.of_eq rfl | exact binds_K (by k_in) rfl (by k_is) rfl rfl rfl | fail "k_enter: no rule for these arguments"); (case kB => exact rfl); (case kD => decide +kernel); (case c2 => exact rfl); (case c3 => exact rfl); (case c4 => exact rfl); k_whole; intro g' L' h' tk' cells' FG' F' N' Y' B' X' T' l1; (try k_lt l1); k_cells Y'; (try simp only [List.cons_append, List.nil_append] at N'); (try dsimp only); (try k_lift B'); (try k_fold)))
local macro_rules | `(tactic| walk_at "CompSrc") => `(tactic| with_reducible refine Held.out ?_)
local macro_rules | `(tactic| walk_at "CompEnd") => `(tactic| with_reducible refine Held.out ?_)
local macro_rules | `(tactic| walk_at "call ref") => `(tactic| (k_here; (with_reducible show wpAny _ _ (call (Value.ref 165) _) _ _ _); k_dflt (refine' draw_spec ?B ?F ?X ?N ?TT ?hk ?U ?hCm ?hi ?hCT ?hlen ?hlen2 ?h0 ?h1 ?l0 ?l1 ?hd1 ?hu ?_; (case B => k_asm); (case F => k_asm); (case X => k_asm); (case N => k_asm); (case TT => k_asm); (case hk => first | exact rfl | assumption); (case U => k_updF); (case hCm => k_mem); (case hi => assumption); (case hCT => assumption); (case hlen => assumption); (case hlen2 => assumption); (case h0 => omega); (case h1 => omega); (case l0 => decide); (case l1 => decide); (case hd1 => ktr_room); (case hu => ktr_units); k_whole; intro r' t' h' tk' ta' r0' r1' F' N')))
theorem fillDg : PySem.Challenge.rw_pb0159_01 = PySem.Challenge.rw_pb0159_01 ∧ (hd.heap_39 = hd.heap_39) := by
  w_top off
  k_fill
  exact ⟨rfl, rfl⟩
set_option maxRecDepth 100000 in
set_option maxHeartbeats 8000000 in
theorem digits_spec0 (w : World) (mean : ExcName → Option Value) (mg mb : Str → Option Value)
  (dp un : Nat) (gd : Option (List Code)) (cn : Str) (cs : Scope) (a : Addr) (ccd : Value) (cl : List (Str × Addr)) (outer : List Env) (A₀ : Around) (base h₀ : Heap) (L : Addr) (m : Str → Option Value) (s : Shared) (Q E : Value → Shared → Prop)
  (T C : Addr) (cvs : List Value) (cells : List Int) (ta : Tok) (n1 n2 : Nat) (news : List (Addr × Obj))
  (B : Below A₀ base outer h₀) (F : Fr h₀ L s.heap m) (X : (hd.heap_39 w.params).In h₀) (N : News h₀ L s.heap ((T, listOf #[.ref C, .int 0 ta] n1) :: (C, listOf cvs.toArray n2) :: news))
  (TT : Top hd.view_39 (looseW hd.view_39 []) mean mg mb h₀) (hk : cs.kind = .function)
  (hi : IntsAre cvs cells) (hlen : 0 < cells.length) (hlen2 : cells.length ≤ 63)
  (hTC : C ≠ T) (hTn : ∀ p ∈ news, p.1 ≠ T) (hd1 : dp + 20 < recursionLimit) (hu : un + 40 < cLine)
  (ret : ∀ D dvs ds h' tk' ta', IntsAre dvs ds → ds.length = 24 → (∀ d ∈ ds, 0 ≤ d ∧ d < 6) → Fr h₀ L h' m → News h₀ L h' ((D, listOf dvs.toArray dvs.length) :: (T, listOf #[.ref C, .int 24 ta'] n1) :: (C, listOf cvs.toArray n2) :: news) → D ≠ T → D ≠ C → Q (.ref D) { s with heap := h', toks := tk' }) :
  wpAny (model PySem.Challenge.rw_pb0159_01.row.prog w) (ktrTop dp un gd cn cs L a ccd cl outer) (call (.ref 170) [.ref T]) Q E s := by
  refine wpAny_call ?_
  k_dflt k_enter
  k_steps
  rename_i g' L' h1 tk1 FG F1 B' X' T' l1 o1 d1 N1 h2 tk2 t1 u1 v1 r1 F2 N2 k2
  refine LCg.CompSrc.range (n := 24) rfl F2 N2 r1 (by decide) rfl (by rw [sizeLine_eq]; omega) ?_
  intro g2
  refine rest_U (fun i ys nw => ∃ ta' ds, nw = (L' + 1, o1) :: (T, listOf #[.ref C, .int (i : Int) ta'] n1) :: (C, listOf cvs.toArray n2) :: news ∧ IntsAre ys ds ∧ ds.length = i ∧ ∀ d ∈ ds, 0 ≤ d ∧ d < 6) ⟨ta, [], rfl, .nil, rfl, by simp⟩ ?_ ?_
  · rintro i ys nw v I oI Cc oC D m₂ h tk E' hi24 ⟨ta', ds, rfl, hI, hl, hb⟩ ⟨t, rfl⟩ hC hx Fh Nh off ne
    simp only [LCg.Off3] at off
    k_steps
    rename_i cE r3 t3 h3 tk3 ta3 r30 r31 F3 N3
    refine LCg.CompEnd.intro F3 N3 ((L' + 1, o1) :: (T, listOf #[.ref C, .int (i + 1 : Int) ta3] n1) :: (C, listOf cvs.toArray n2) :: news) (fun p hp => hp) off trivial ⟨ta3, ds ++ [r3], rfl, IntsAre.append hI (.cons r3 t3 .nil), by simp [hl], ?_⟩
    intro d hd
    rcases List.mem_append.mp hd with hd | hd
    · exact hb d hd
    · rw [List.mem_singleton.mp hd]; exact ⟨r30, r31⟩
  · rintro ys nw ⟨ta', ds, rfl, hI, hl, hb⟩
    k_steps
    rename_i D h3 tk3 F3 N3 o3 kF kN Tc kX
    refine ret D ys ds h3 tk3 ta' hI hl hb kF (news_sub kN fun p hp => ?_) (Ne.symm o3.2.1) (Ne.symm o3.2.2.1)
    rcases List.mem_cons.mp hp with rfl | hp
    · exact .head _
    · exact .tail _ (.tail _ hp)
end Mine
end
section
open PySem PySem.W PyProof.Rows PySem.Spec PySem.Calls
set_option linter.unusedVariables false
set_option maxRecDepth 100000
namespace Mine
theorem sub_attr : isSubtype (.type "AttributeError") (.type "AttributeError") = pure true := sub_AttributeError
theorem list_keys_none : typeLookup (.type "list") "keys" = pure none := am_miss_of_fast (by decide +kernel)
theorem keys_miss {prog : Program} {w : World} {A : Around} {E : Value → Shared → Prop} {s : Shared} {a : Addr} {o : Obj} {xs : Array Value} {k : Nat} {Q : Option Value → Shared → Prop}
    (hx : s.heap.get? a = some o) (hc : o.cls = .type "list") (hdat : o.data = .seq xs k) (hd : o.dict = none) (hA : A.handled = none)
    (h : ∀ h' tk, (∀ b ob, s.heap.get? b = some ob → h'.get? b = some ob) → Q none { s with heap := h', toks := tk }) :
    wpAny (model prog w) A (getAttr? (.ref a) "keys") Q E s := by
  obtain ⟨c, dct, dat, sl⟩ := o
  simp only at hc hdat hd
  subst hc hdat hd
  obtain ⟨hp, g, d, tk, os⟩ := s
  have hT : ∀ tk', (⟨hp, g, d, tk', os⟩ : Shared).TypeIs (.ref a) "list" := fun _ => ⟨_, hx, rfl⟩
  have f1 := sub_AttributeError
  have f3 := F.slot_list_getattribute.lookup
  have f4 := F.slot_list_getattribute.bind (.ref a)
  have f5 := am_list_getattr_none
  unfold getAttr? getAttrBy? getAttrBy
  repeat (any_goals (first | assumption | exact hT _ | ((with_reducible show wpAny _ _ (call (Value.builtin "list.__getattribute__") _ _) _ _ _); refine call_meets F.slot_list_getattribute (hT _) am_entry_list_getattribute (F.args_list_getattribute_2 _ _) (meets_getattribute_miss_list a xs k sl "keys" _ list_keys_none (by decide +kernel) (by rw [sizeLine_eq]; decide +kernel)) ⟨hx, hA, fun h' tk' e hx' => ?_⟩) | wp_step))
  obtain ⟨t', u', he⟩ := hx'.there
  show wpAny _ _ (getattributeRaised _ _ _ _ _ _ _) _ _ _
  unfold getattributeRaised
  repeat (any_goals (first | assumption | wp_step))
  exact h _ _ hx'.keeps
theorem plain_upd : plainId "dict.update.loop" = true := by decide +kernel
theorem entry_upd : entryFor table "dict.update.loop" = some Builtin.«dict.update.loop» := entryFor_of_tree (by kernel_rfl)
section
variable {prog : Program} {w : World} {K : Type} [DecidableEq K] {knd : KeyKind prog w K} {A : Around} {E : Value → Shared → Prop} {s : Shared}
/-- the items are pairs in the heap, the i-th that of kvs -/
def Pairs2 (knd : KeyKind prog w K) (h : Heap) (vs : List Value) (kvs : List (K × Value)) : Prop :=
  vs.length = kvs.length ∧ ∀ (i : Nat) (k : K) (x : Value), kvs[i]? = some (k, x) → ∃ (a : Addr) (kv : Value) (n : Nat), vs[i]? = some (Value.ref a) ∧ h.get? a = some { cls := .type "tuple", data := .seq #[kv, x] n } ∧ knd.is k kv = true
theorem stored_new {kvs : List (K × Value)} {k : K} {x : Value} (h : k ∉ kvs.map (·.1)) : stored kvs k x = kvs ++ [(k, x)] := by
  unfold stored
  rw [if_neg]
  rw [List.any_eq_true]
  rintro ⟨y, hy, he⟩
  exact h (List.mem_map.mpr ⟨y, hy, of_decide_eq_true he⟩)
theorem upd_loop {d I l : Addr} {vs : List Value} {kvs : List (K × Value)} {R : Result → Shared → Prop} (hh : A.handled = none) (hIl : l ≠ I) (hdI : d ≠ I) (hdl : d ≠ l)
    (hn : (kvs.map (·.1)).Nodup) (hsz : kvs.length ≤ sizeLine) :
    ∀ (j i : Nat) (s : Shared), i + j = kvs.length → s.heap.IsListIter I l i → s.heap.IsList l vs.toArray → s.heap.DictOf knd d (kvs.take i) → Pairs2 knd s.heap vs kvs →
      (∀ h' tk, h'.DictOf knd d kvs → (∀ b o, b ≠ d → b ≠ I → s.heap.get? b = some o → h'.get? b = some o) → R (.ok (.ret .none)) { s with heap := h', toks := tk }) →
      codeAny (model prog w) A (.builtin "dict.update.loop" ⟨[.ref d, .ref I, rawInt (i : Int), .none], []⟩) R s := by
  intro j
  induction j with
  | zero =>
    intro i s hi hit hl hd hp hR
    have hin : kvs.length = i := by omega
    have hvn : vs.toArray.size = i := by rw [List.size_toArray, hp.1, hin]
    have W := Walks.list (prog := prog) (w := w) (A := A.in1) hh I l hIl vs.toArray
    rw [hvn] at W
    refine codeAny_builtin entry_upd ?_
    rw [Around.under_plainId plain_upd _]
    show wpAny _ A.in1 (pyNext (.ref I) >>= _) _ _ s
    refine wpAny_bind (W.done s _ _ ⟨hit, hl⟩ fun h' tk hk => ?_)
    rw [List.take_of_length_le (by omega)] at hd
    refine wpAny_bind (m := Builtin.Dict.addKeywords d []) (wpAny_pure (wpAny_pure (hR h' tk ?_ fun b o hb hI e => hk b o (by simpa using hI) e)))
    obtain ⟨o, es, ep, ho, r⟩ := hd
    exact ⟨o, es, ep, hk d o (by simpa using hdI) ho, r⟩
  | succ j ih =>
    intro i s hi hit hl hd hp hR
    have hlt : i < kvs.length := by omega
    have hvn : i < vs.toArray.size := by rw [List.size_toArray, hp.1]; exact hlt
    have W := Walks.list (prog := prog) (w := w) (A := A.in1) hh I l hIl vs.toArray
    refine codeAny_builtin entry_upd ?_
    rw [Around.under_plainId plain_upd _]
    show wpAny _ A.in1 (pyNext (.ref I) >>= _) _ _ s
    refine wpAny_bind (W.item i s _ _ hvn ⟨hit, hl⟩ fun v h' tk hv st hk => ?_)
    obtain ⟨⟨k, x⟩, hkx⟩ : ∃ q : K × Value, kvs[i]? = some q := ⟨_, List.getElem?_eq_getElem hlt⟩
    obtain ⟨a, kv, n, hva, hta, hkk⟩ := hp.2 i k x hkx
    have hv' : v = .ref a := by
      have h1 : vs.toArray[i]? = some v := hv
      rw [List.getElem?_toArray, hva] at h1
      exact (Option.some.inj h1).symm
    subst hv'
    obtain ⟨oI, hoI, hcI, _⟩ := id hit
    obtain ⟨od, esd, epd, hod, hcd, rd⟩ := id hd
    have haI : ∀ a ob, s.heap.get? a = some ob → ob.cls = .type "tuple" → a ≠ I := fun a ob e c q => by
      rw [q, hoI] at e; cases e; exact absurd (hcI.symm.trans c) (by decide)
    have had : ∀ a ob, s.heap.get? a = some ob → ob.cls = .type "tuple" → a ≠ d := fun a ob e c q => by
      rw [q, hod] at e; cases e; exact absurd (hcd.1.symm.trans c) (by decide)
    have keepI : ∀ b o, b ≠ I → s.heap.get? b = some o → h'.get? b = some o := fun b o hb e => hk b o (by simpa using hb) e
    have hta' := keepI a _ (haI a _ hta rfl) hta
    have hd' : h'.DictOf knd d (kvs.take i) := ⟨od, esd, epd, keepI d _ hdI hod, hcd, rd⟩
    show wpAny _ A.in1 (holding [.ref a] _ >>= _) _ _ _
    refine wpAny_bind (wpAny_holding ?_)
    show wpAny _ A.in1 (tryCatch (Builtin.Dict.pairItems (.ref a)) _ >>= _) _ _ _
    refine wpAny_bind (wpAny_tryCatch ?_)
    unfold Builtin.Dict.pairItems
    refine wpAny_bind (wpAny_typeOf (T := "tuple") ⟨_, hta', rfl⟩ ?_)
    rw [if_pos (by decide)]
    refine wpAny_bind (wpAny_seqItems hta' rfl (wpAny_pure ?_))
    show wpAny _ A.in1 (holding [kv, x] (dictSet d kv x)) _ _ _
    have hnot : k ∉ (kvs.take i).map (·.1) := by
      intro hm
      have e : kvs = kvs.take i ++ (k, x) :: kvs.drop (i + 1) := by
        have h1 := List.take_append_drop i kvs
        have h2 : kvs.drop i = (k, x) :: kvs.drop (i + 1) := by
          rw [List.drop_eq_getElem_cons hlt]
          rw [List.getElem?_eq_getElem hlt] at hkx
          rw [Option.some.inj hkx]
        rw [h2] at h1
        exact h1.symm
      rw [e, List.map_append, List.nodup_append] at hn
      exact hn.2.2 k hm k (by simp) rfl
    refine wpAny_holding (wpAny_dictSet_pairs (s := { s with heap := h', toks := tk }) (hsz := by rw [List.length_take]; omega) hkk hd' fun h'' hd'' hs'' => ?_)
    rw [stored_new hnot] at hd''
    have hts : kvs.take (i + 1) = kvs.take i ++ [(k, x)] := by rw [List.take_add_one, hkx]; rfl
    rw [← hts] at hd''
    refine wpAny_pure ⟨plainId_quiet plain_upd _, ?_⟩
    have keep2 : ∀ b o, b ≠ d → b ≠ I → s.heap.get? b = some o → h''.get? b = some o := fun b o hb hI e => hs''.extBut b o hb (keepI b o hI e)
    have st2 : h''.IsListIter I l (i + 1) ∧ h''.IsList l vs.toArray := ⟨st.1.at fun o e => hs''.extBut I o (Ne.symm hdI) e, st.2.at fun o e => hs''.extBut l o (Ne.symm hdl) e⟩
    refine ih (i + 1) { s with heap := h'', toks := tk + 1 } (by omega) st2.1 st2.2 hd'' ⟨hp.1, fun i' k' x' e' => ?_⟩ fun h3 tk3 hd3 hk3 => ?_
    · obtain ⟨a', kv', n', hva', hta', hkk'⟩ := hp.2 i' k' x' e'
      exact ⟨a', kv', n', hva', keep2 a' _ (had a' _ hta' rfl) (haI a' _ hta' rfl) hta', hkk'⟩
    · exact hR h3 tk3 hd3 fun b o hb hI e => hk3 b o hb hI (keep2 b o hb hI e)
theorem call_dict_pairs {l : Addr} {vs : List Value} {kvs : List (K × Value)} {Q : Value → Shared → Prop} (hh : A.handled = none) {ol : Obj} {nl : Nat} (hl : s.heap.get? l = some ol) (hlc : ol.cls = .type "list") (hld : ol.data = .seq vs.toArray nl) (hln : ol.dict = none)
    (hp : Pairs2 knd s.heap vs kvs) (hn : (kvs.map (·.1)).Nodup) (hsz : kvs.length ≤ sizeLine)
    (h : ∀ h' tk, h'.DictOf knd s.heap.objs.size kvs → (∀ b o, s.heap.get? b = some o → h'.get? b = some o) → Q (.ref s.heap.objs.size) { s with heap := h', toks := tk }) :
    wpAny (model prog w) A (call (.type "dict") [.ref l]) Q E s := by
  refine callType_codes (Q₁ := fun obj s₁ => obj = .ref s.heap.objs.size ∧ s₁ = { s with heap := s.heap.push { cls := .type "dict", data := .dict #[] } }) F.kt_called_dict (F.kt_typeCall_dict_1 _) F.entry_dict_init (kt_code_dict_new _ ⟨rfl, rfl⟩) ?_
  rintro obj s₁ ⟨rfl, rfl⟩
  have hnew : (s.heap.push { cls := .type "dict", data := .dict #[] }).DictOf knd s.heap.objs.size [] := Heap.DictOf.new s.heap
  have hl' : (s.heap.push { cls := .type "dict", data := .dict #[] }).get? l = some ol := Heap.get?_push_of_some _ hl
  refine ⟨hnew.typeIs, F.args_dict_init_2 _ _, ?_⟩
  unfold Builtin.«dict.__init__»
  refine wpAny_bind ?_
  unfold Builtin.Dict.selfAndRest
  refine wpAny_bind (wpAny_notOrdered_dict hnew.typeIs ?_)
  show wpAny _ _ (pure (s.heap.objs.size, [Value.ref l])) _ _ _
  refine wpAny_pure ?_
  show wpAny _ _ (Builtin.Dict.updateFrom "dict.__init__" s.heap.objs.size (.ref l) [] .none) _ _ _
  unfold Builtin.Dict.updateFrom
  refine wpAny_bind (wpAny_typeOf (T := "list") ⟨_, hl', hlc⟩ ?_)
  rw [if_pos (by decide)]
  refine wpAny_bind (keys_miss hl' hlc hld hln hh fun h1 tk1 hk1 => ?_)
  rw [if_pos (by decide)]
  refine wpAny_bind (wpAny_rule ?_)
  have up0 : ∀ b o, s.heap.get? b = some o → h1.get? b = some o := fun b o e => hk1 b o (Heap.get?_push_of_some _ e)
  have hL1 : h1.IsList l vs.toArray := ⟨ol, up0 l _ hl, hlc, nl, hld⟩
  refine wpAny_bind (wpAny_pyIter_list hL1 ?_)
  have up : ∀ b o, s.heap.get? b = some o → (h1.push { cls := .type "list_iterator", data := .fields #[.ref l, .int 0 0] }).get? b = some o := fun b o e => Heap.get?_push_of_some _ (up0 b o e)
  have hsz1 : s.heap.objs.size < h1.objs.size := by
    obtain ⟨o, es, ep, ho, _⟩ := hnew
    exact Heap.lt_size (hk1 _ _ ho)
  have hd1 : (h1.push { cls := .type "list_iterator", data := .fields #[.ref l, .int 0 0] }).DictOf knd s.heap.objs.size (kvs.take 0) := by
    obtain ⟨o, es, ep, ho, r⟩ := hnew
    exact ⟨o, es, ep, Heap.get?_push_of_some _ (hk1 _ _ ho), r⟩
  refine wpAny_pure ⟨plainId_quiet plain_upd _, ?_⟩
  refine upd_loop (knd := knd) (kvs := kvs) (vs := vs) (A := A.in1) hh (Nat.ne_of_lt (Heap.lt_size (up0 l _ hl))) (Nat.ne_of_lt hsz1) (Nat.ne_of_gt (Heap.lt_size hl)) hn hsz kvs.length 0 _ (by omega) ⟨_, Heap.get?_push_size _ rfl, rfl, rfl⟩ (hL1.push _) hd1 ⟨hp.1, fun i k x e => ?_⟩ fun h2 tk2 hd2 hk2 => ?_
  · obtain ⟨a, kv, n, hva, hta, hkk⟩ := hp.2 i k x e
    exact ⟨a, kv, n, hva, up a _ hta, hkk⟩
  · refine ⟨rfl, h h2 tk2 hd2 fun b o e => hk2 b o (Nat.ne_of_lt (Heap.lt_size e)) (Nat.ne_of_lt (Nat.lt_trans (Heap.lt_size e) hsz1)) (up b o e)⟩
end
/-- a list of pairs (int, datum), over a ledger -/
def PairsIn (news : List (Addr × Obj)) (vs : List Value) (kds : List (Int × Dat)) : Prop := DatAll news vs (kds.map fun p => Dat.tuple [.int p.1, p.2])
/-- keys and values, over a ledger -/
def KvIn (news : List (Addr × Obj)) (kvs : List (Int × Value)) (kds : List (Int × Dat)) : Prop := kvs.map (·.1) = kds.map (·.1) ∧ DatAll news (kvs.map (·.2)) (kds.map (·.2))
theorem datAll_inv2 {news : List (Addr × Obj)} {vs : List Value} {k : Int} {d : Dat} (h : DatAll news vs [.int k, d]) : ∃ t v, vs = [.int k t, v] ∧ DatIn news v d := by
  cases h with
  | cons h1 r =>
    cases h1 with
    | int i t =>
      cases r with
      | cons h2 r2 =>
        cases r2
        exact ⟨t, _, rfl, h2⟩
theorem pairs_open {prog : Program} {w : World} {h₀ h : Heap} {L : Addr} {news : List (Addr × Obj)} (N : News h₀ L h news) : ∀ {kds : List (Int × Dat)} {vs : List Value}, PairsIn news vs kds →
    ∃ kvs : List (Int × Value), KvIn news kvs kds ∧ Pairs2 (PySem.intKind prog w) h vs kvs
  | [], vs, hp => by
    cases hp
    exact ⟨[], ⟨rfl, .nil⟩, rfl, fun i k x e => by cases e⟩
  | (k, d) :: r, vs, hp => by
    cases hp with
    | cons h1 r1 =>
      obtain ⟨kvs, hk, hq⟩ := pairs_open (prog := prog) (w := w) N r1
      cases h1 with
      | tuple hm ha =>
        rename_i a ws n
        obtain ⟨t, v, rfl, hv⟩ := datAll_inv2 ha
        refine ⟨(k, v) :: kvs, ⟨by simp [hk.1], .cons hv hk.2⟩, by have hq1 := hq.1; simp [hq1], fun i k' x e => ?_⟩
        cases i with
        | zero =>
          simp only [List.getElem?_cons_zero, Option.some.injEq, Prod.mk.injEq] at e
          obtain ⟨rfl, rfl⟩ := e
          exact ⟨a, .int k t, n, rfl, (N _ hm).1, by show ((k == k) = true); simp⟩
        | succ i => exact hq.2 i k' x e
theorem PairsIn.reverse {news : List (Addr × Obj)} {vs : List Value} {kds : List (Int × Dat)} (h : PairsIn news vs kds) : PairsIn news vs.reverse kds.reverse := by
  unfold PairsIn at *
  rw [List.map_reverse]
  have key : ∀ {vs : List Value} {ds : List Dat}, DatAll news vs ds → DatAll news vs.reverse ds.reverse := by
    intro vs
    induction vs with
    | nil => intro ds h; cases h; exact .nil
    | cons v vs ih =>
      intro ds h
      cases h with
      | cons h r =>
        rw [List.reverse_cons, List.reverse_cons]
        exact (ih r).append (.one h)
  exact key h
theorem PairsIn.mono {news news' : List (Addr × Obj)} {vs : List Value} {kds : List (Int × Dat)} (h : PairsIn news vs kds) (hs : ∀ p ∈ news, p ∈ news') : PairsIn news' vs kds := DatAll.mono hs h
theorem KvIn.mono {news news' : List (Addr × Obj)} {kvs : List (Int × Value)} {kds : List (Int × Dat)} (h : KvIn news kvs kds) (hs : ∀ p ∈ news, p ∈ news') : KvIn news' kvs kds := ⟨h.1, DatAll.mono hs h.2⟩
section
variable {prog : Program} {w : World} {A : Around} {E : Value → Shared → Prop} {s : Shared} {h₀ : Heap} {L l : Addr} {m : Str → Option Value} {news own : List (Addr × Obj)} {vs : List Value} {n : Nat} {kds : List (Int × Dat)} {Q : Value → Shared → Prop}
theorem call_dict_N (hh : A.handled = none) (hlim : h₀.NoLimit) (F : Fr h₀ L s.heap m) (N : News h₀ L s.heap news) (hm : (l, listOf vs.toArray n) ∈ news) (hp : PairsIn own vs kds) (ho : ∀ p ∈ own, p ∈ news) (hn : (kds.map (·.1)).Nodup) (hsz : kds.length ≤ 1000)
    (h : ∀ d h' tk o kvs, Fr h₀ L h' m → News h₀ L h' ((d, o) :: news) → o.IsDictOf (PySem.intKind prog w) kvs → KvIn own kvs kds → (∀ p ∈ news, p.1 < d) → (d == sysModules) = false → Q (.ref d) { s with heap := h', toks := tk }) :
    wpAny (model prog w) A (call (.type "dict") [.ref l]) Q E s := by
  obtain ⟨kvs, hk, hq⟩ := pairs_open (prog := prog) (w := w) (news_sub N ho) hp
  have hlen : kvs.length = kds.length := by have := congrArg List.length hk.1; simpa using this
  refine call_dict_pairs (knd := PySem.intKind prog w) hh (N _ hm).1 rfl rfl rfl hq (by rw [hk.1]; exact hn) (by rw [hlen, sizeLine_eq]; omega) fun h' tk hd hkeep => ?_
  obtain ⟨o, ho', hd'⟩ := Heap.dictOf_iff.mp hd
  refine h _ h' tk o kvs (F.keeps hkeep) (fun p hp => ?_) hd' hk (fun p hp => Heap.lt_size (N p hp).1) (F.notModules (modules_low hlim))
  rcases List.mem_cons.mp hp with rfl | hp
  · refine ⟨ho', Nat.ne_of_gt F.ns.lt, ?_⟩
    cases q : h₀.get? s.heap.objs.size with
    | none => rfl
    | some o' => exact absurd (Heap.lt_size (F.keep _ _ q)) (Nat.lt_irrefl _)
  · exact ⟨hkeep _ _ (N p hp).1, (N p hp).2⟩
end
end Mine
end
section
open PySem PySem.W PyProof.Rows PySem.Spec PySem.Calls
set_option linter.unusedVariables false
set_option pp.deepTerms false
set_option pp.proofs false
namespace Mine
local macro_rules | `(tactic| k_all) => `(tactic| with_reducible assumption)
local macro_rules | `(tactic| k_mem) => `(tactic| with_reducible assumption)
theorem fillDc : PySem.Challenge.rw_pb0159_01 = PySem.Challenge.rw_pb0159_01 ∧ (hd.heap_39 = hd.heap_39) := by
  w_top off
  k_fill
  exact ⟨rfl, rfl⟩
local macro_rules | `(tactic| walk_at "subscriptTail Name Slice ref ref") => `(tactic| (k_here; (with_reducible show wpAny _ _ (subscriptTail _ (PySem.Expr.Slice none none (some _) _) (Value.ref _) (Value.ref _)) _ _ _); k_dflt (refine' krv_lit ?F ?N ?l ?k ?e ?_ ?s ?t ?z; (case F => k_asm); (case N => k_asm); (case l => kmk_list); (case k => exact IsPart.int _ _); (case e => rfl); (case s => with_unfolding_all rfl); (case t => kmk_pure); (case z => assumption)); intro D' h' F' N' l1))
local macro_rules | `(tactic| walk_at "call type:dict") => `(tactic| with_reducible refine Held.out ?_)
set_option maxRecDepth 100000 in
set_option maxHeartbeats 8000000 in
theorem dict_spec {w : World} {mean : ExcName → Option Value} {mg mb : Str → Option Value}
  {dp un : Nat} {gd : Option (List Code)} {cn : Str} {cs : Scope} {a : Addr} {ccd : Value} {cl : List (Str × Addr)} {outer : List Env} {A₀ : Around} {base h₀ : Heap} {L : Addr} {m : Str → Option Value} {s : Shared} {Q E : Value → Shared → Prop}
  {l : Addr} {vs : List Value} {n : Nat} {kds : List (Int × Dat)} {b : Bool} {news own : List (Addr × Obj)}
  (B : Below A₀ base outer h₀) (F : Fr h₀ L s.heap m) (X : (hd.heap_39 w.params).In h₀) (N : News h₀ L s.heap news)
  (TT : Top hd.view_39 (looseW hd.view_39 []) mean mg mb h₀) (hk : cs.kind = .function)
  (hl : (l, listOf vs.toArray n) ∈ news) (hP : PairsIn own vs kds) (ho : ∀ p ∈ own, p ∈ news) (hn : (kds.map (·.1)).Nodup) (hz : kds.length ≤ 1000) (hz' : vs.toArray.size ≤ sizeLine)
  (hd1 : dp + 20 < recursionLimit) (hu : un + 40 < cLine)
  (ret : ∀ d h' tk' o kvs, Fr h₀ L h' m → News h₀ L h' ((d, o) :: news) → o.IsDictOf (PySem.intKind PySem.Challenge.rw_pb0159_01.row.prog w) kvs → KvIn own kvs (if b then kds.reverse else kds) → (∀ p ∈ news, p.1 < d) → (d == sysModules) = false → Q (.ref d) { s with heap := h', toks := tk' }) :
  wpAny (model PySem.Challenge.rw_pb0159_01.row.prog w) (ktrTop dp un gd cn cs L a ccd cl outer) (call (.ref 177) [.ref l, .bool b]) Q E s := by
  refine wpAny_call ?_
  k_dflt cell_enter
  cases b
  · k_steps
    rename_i g' L' h1 FG N1 B' X' T' F1
    refine call_dict_N rfl T'.nolimit F1 N1 hl hP ho hn hz (fun d h2 tk2 o kvs F2 N2 hd2 hk2 l2 lo2 => ?_)
    k_steps
    rename_i kF kN Tc kX
    exact ret d h2 tk2 o kvs kF kN hd2 hk2 l2 lo2
  · k_steps
    rename_i g' L' h1 FG N1 B' X' T' F1 D h2 F2 N2 l1
    refine call_dict_N rfl T'.nolimit F2 N2 (.head _) hP.reverse (fun p hp => .tail _ (ho p hp)) (by rw [List.map_reverse]; exact (List.reverse_perm _).nodup_iff.mpr hn) (by rw [List.length_reverse]; exact hz) (fun d h3 tk3 o kvs F3 N3 hd3 hk3 l3 lo3 => ?_)
    k_steps
    rename_i kF kN Tc kX
    exact ret d h3 tk3 o kvs kF (news_sub kN fun p hp => (List.mem_cons.mp hp).elim (fun e => e ▸ .head _) fun h => .tail _ (.tail _ h)) hd3 hk3 (fun p hp => l3 p (.tail _ hp)) lo3
end Mine
end
section
open PySem PySem.W PyProof.Rows PySem.Spec PySem.Calls
set_option linter.unusedVariables false
namespace Mine
/-! what _law_made makes of the digits, in plain data -/
def fCls (D : List Int) (k : Nat) : Option (Int × Dat) := if D.getD k 0 > 0 then some ((k : Int), .int (D.getD k 0)) else none
def fHeld (D : List Int) (k : Nat) : Option (Int × Dat) := if D.getD (8 + k) 0 > 0 then some ((k : Int), .int (D.getD (8 + k) 0)) else none
def fSet0 (D : List Int) (k : Nat) : Option Dat := if (k : Int).fmod 3 = (D.getD 12 0).fmod 3 then some (.int k) else none
def fSet1 (D : List Int) (k : Nat) : Option Dat := if (k : Int) > D.getD 14 0 then some (.int k) else none
def fPts (D : List Int) (k : Nat) : Option (Int × Dat) := if D.getD (15 + k) 0 > 3 then some ((k : Int), .tuple ((List.range (D.getD (15 + k) 0).toNat).map fun j => Dat.int (j : Nat))) else none
def fCar (D : List Int) (k : Nat) : Option (Int × Dat) := if D.getD (19 + k) 0 > 2 then some ((k : Int), .tuple [.tuple [.str (Str.ofString "at"), .int (D.getD (19 + k) 0 - 4)], .tuple [.str (Str.ofString "point"), .int (D.getD (19 + k) 0)]]) else none
def upTo {α : Type} (f : Nat → Option α) (n : Nat) : List α := (List.range n).filterMap f
def setsD (D : List Int) : List (List Dat) := upTo (fSet0 D) 8 :: (if D.getD 13 0 > 2 then [upTo (fSet1 D) 8] else [])
theorem upTo_some {α : Type} {f : Nat → Option α} {n : Nat} {a : α} (h : f n = some a) : upTo f (n + 1) = upTo f n ++ [a] := by
  unfold upTo
  rw [List.range_succ, List.filterMap_append]
  simp [h]
theorem upTo_none {α : Type} {f : Nat → Option α} {n : Nat} (h : f n = none) : upTo f (n + 1) = upTo f n := by
  unfold upTo
  rw [List.range_succ, List.filterMap_append]
  simp [h]
theorem PairsIn.nil {news : List (Addr × Obj)} : PairsIn news [] [] := DatAll.nil
theorem PairsIn.snoc {news news' : List (Addr × Obj)} {vs : List Value} {kds : List (Int × Dat)} {y : Value} {k : Int} {d : Dat} (h : PairsIn news vs kds) (hs : ∀ p ∈ news, p ∈ news') (hy : DatIn news' y (.tuple [.int k, d])) : PairsIn news' (vs ++ [y]) (kds ++ [(k, d)]) := by
  unfold PairsIn at *
  rw [List.map_append]
  exact (DatAll.mono hs h).append (.one hy)
section
variable {h₀ : Heap} {L I C Dd : Addr} {m : Str → Option Value} {s₁ : Shared} {oI oC oD : Obj} {y : Value} {h' : Heap} {tk : Nat} {all B own add : List (Addr × Obj)} {ys : List Value} {i : Nat}
theorem pairs_yes {f : Nat → Option (Int × Dat)} {k : Int} {d : Dat} {S : List (Addr × Obj) → Prop} (F : Fr h₀ L h' m) (N : News h₀ L h' all) (sub : ∀ p ∈ (I, oI) :: (C, oC) :: (Dd, oD) :: (B ++ own ++ add), p ∈ all) (off : LCg.Off3 I C Dd (B ++ own))
    (hadd : ∀ p ∈ add, p.1 ≠ I ∧ p.1 ≠ C ∧ p.1 ≠ Dd) (hS : S (B ++ own ++ add)) (hP : PairsIn own ys (upTo f i)) (hf : f i = some (k, d)) (hy : DatIn (own ++ add) y (.tuple [.int k, d])) :
    Held (LCg.CompEnd h₀ L m s₁ I oI C oC Dd oD S (fun y nw' => ∃ own, nw' = B ++ own ∧ PairsIn own (ys ++ [y]) (upTo f (i + 1))) y { s₁ with heap := h', toks := tk }) :=
  end_add F N sub off hadd hS ⟨own ++ add, List.append_assoc _ _ _, by rw [upTo_some hf]; exact hP.snoc (fun p hp => List.mem_append_left _ hp) hy⟩
theorem pairs_no {f : Nat → Option (Int × Dat)} {S : List (Addr × Obj) → Prop} (F : Fr h₀ L h' m) (N : News h₀ L h' ((I, oI) :: (C, oC) :: (Dd, oD) :: (B ++ own))) (off : LCg.Off3 I C Dd (B ++ own)) (hS : S (B ++ own))
    (hP : PairsIn own ys (upTo f i)) (hf : f i = none) :
    Held (LCg.CompEnd h₀ L m s₁ I oI C oC Dd oD S (fun _ nw' => ∃ own, nw' = B ++ own ∧ PairsIn own ys (upTo f (i + 1))) y { s₁ with heap := h', toks := tk }) :=
  LCg.CompEnd.intro F N (B ++ own) (fun p hp => hp) off hS ⟨own, rfl, by rw [upTo_none hf]; exact hP⟩
theorem dats_yes {f : Nat → Option Dat} {d : Dat} {S : List (Addr × Obj) → Prop} (F : Fr h₀ L h' m) (N : News h₀ L h' all) (sub : ∀ p ∈ (I, oI) :: (C, oC) :: (Dd, oD) :: (B ++ own ++ add), p ∈ all) (off : LCg.Off3 I C Dd (B ++ own))
    (hadd : ∀ p ∈ add, p.1 ≠ I ∧ p.1 ≠ C ∧ p.1 ≠ Dd) (hS : S (B ++ own ++ add)) (hP : DatAll own ys (upTo f i)) (hf : f i = some d) (hy : DatIn (own ++ add) y d) :
    Held (LCg.CompEnd h₀ L m s₁ I oI C oC Dd oD S (fun y nw' => ∃ own, nw' = B ++ own ∧ DatAll own (ys ++ [y]) (upTo f (i + 1))) y { s₁ with heap := h', toks := tk }) :=
  end_add F N sub off hadd hS ⟨own ++ add, List.append_assoc _ _ _, by rw [upTo_some hf]; exact (DatAll.mono (fun p hp => List.mem_append_left _ hp) hP).append (.one hy)⟩
theorem dats_no {f : Nat → Option Dat} {S : List (Addr × Obj) → Prop} (F : Fr h₀ L h' m) (N : News h₀ L h' ((I, oI) :: (C, oC) :: (Dd, oD) :: (B ++ own))) (off : LCg.Off3 I C Dd (B ++ own)) (hS : S (B ++ own))
    (hP : DatAll own ys (upTo f i)) (hf : f i = none) :
    Held (LCg.CompEnd h₀ L m s₁ I oI C oC Dd oD S (fun _ nw' => ∃ own, nw' = B ++ own ∧ DatAll own ys (upTo f (i + 1))) y { s₁ with heap := h', toks := tk }) :=
  LCg.CompEnd.intro F N (B ++ own) (fun p hp => hp) off hS ⟨own, rfl, by rw [upTo_none hf]; exact hP⟩
theorem add1 {q : Addr × Obj} {I C D : Addr} (h1 : (@LT.lt Nat _ I q.1)) (h2 : (@LT.lt Nat _ C q.1)) (h3 : (@LT.lt Nat _ D q.1)) : ∀ p ∈ [q], p.1 ≠ I ∧ p.1 ≠ C ∧ p.1 ≠ D := by
  intro p hp
  rw [List.mem_singleton.mp hp]
  exact ⟨Nat.ne_of_gt h1, Nat.ne_of_gt h2, Nat.ne_of_gt h3⟩
end
theorem its_list {h₀ h : Heap} {L l : Addr} {news : List (Addr × Obj)} {vs : List Value} {n : Nat} (N : News h₀ L h news) (hm : (l, listOf vs.toArray n) ∈ news) : h.IsList l vs.toArray := ⟨_, (N _ hm).1, rfl, n, rfl⟩
theorem upTo_len {α : Type} (f : Nat → Option α) (n : Nat) : (upTo f n).length ≤ n := by
  unfold upTo
  exact Nat.le_trans (List.length_filterMap_le _ _) (by rw [List.length_range]; exact Nat.le_refl _)
theorem dats_len {own : List (Addr × Obj)} {vs : List Value} {f : Nat → Option Dat} {n : Nat} (h : DatAll own vs (upTo f n)) : vs.length ≤ n := by rw [h.length]; exact upTo_len f n
theorem pairs_len {own : List (Addr × Obj)} {vs : List Value} {f : Nat → Option (Int × Dat)} {n : Nat} (h : PairsIn own vs (upTo f n)) : vs.length ≤ n := by
  have e := DatAll.length h
  rw [List.length_map] at e
  rw [e]; exact upTo_len f n
section
variable {prog : Program} {w : World} {A : Around} {E : Value → Shared → Prop} {s : Shared} {h₀ : Heap} {L l : Addr} {m : Str → Option Value} {news : List (Addr × Obj)} {vs : List Value} {n : Nat} {Q : Value → Shared → Prop}
abbrev tupOf (vs : List Value) : Obj := { cls := .type "tuple", data := .seq vs.toArray }
theorem tup_of (F : Fr h₀ L s.heap m) (N : News h₀ L s.heap news) (hm : (l, listOf vs.toArray n) ∈ news) (hz : vs.length ≤ 16384)
    (h : ∀ D h', Fr h₀ L h' m → News h₀ L h' ((D, tupOf vs) :: news) → (∀ p ∈ news, p.1 < D) → Q (.ref D) { s with heap := h' }) : wpAny (model prog w) A (call (.type "tuple") [.ref l]) Q E s :=
  kde_tupleOf F N (its_list N hm) (by rw [List.size_toArray]; exact hz) rfl h
theorem addN {I C D : Addr} : ∀ p ∈ ([] : List (Addr × Obj)), p.1 ≠ I ∧ p.1 ≠ C ∧ p.1 ≠ D := fun p hp => nomatch hp
theorem addC {q : Addr × Obj} {r : List (Addr × Obj)} {I C D : Addr} (h1 : (@LT.lt Nat _ I q.1)) (h2 : (@LT.lt Nat _ C q.1)) (h3 : (@LT.lt Nat _ D q.1)) (hr : ∀ p ∈ r, p.1 ≠ I ∧ p.1 ≠ C ∧ p.1 ≠ D) : ∀ p ∈ q :: r, p.1 ≠ I ∧ p.1 ≠ C ∧ p.1 ≠ D := by
  intro p hp
  rcases List.mem_cons.mp hp with rfl | hp
  · exact ⟨Nat.ne_of_gt h1, Nat.ne_of_gt h2, Nat.ne_of_gt h3⟩
  · exact hr p hp
theorem subL {a b c : Addr × Obj} {l add : List (Addr × Obj)} : ∀ p ∈ a :: b :: c :: (l ++ add), p ∈ add ++ (a :: b :: c :: l) := by
  intro p hp
  simp only [List.mem_cons, List.mem_append] at hp ⊢
  rcases hp with h | h | h | h | h
  · exact .inr (.inl h)
  · exact .inr (.inr (.inl h))
  · exact .inr (.inr (.inr (.inl h)))
  · exact .inr (.inr (.inr (.inr h)))
  · exact .inl h
theorem all_ne_lt {d : Addr} {l : List (Addr × Obj)} (h : AllLt d l) : ∀ p ∈ l, p.1 ≠ d := fun p hp => Nat.ne_of_lt (ktn_ltOf h p hp)
end
section
variable {h₀ : Heap} {L I C Dd : Addr} {m : Str → Option Value} {s₁ : Shared} {oI oC oD : Obj} {y : Value} {h' : Heap} {tk : Nat} {B : List (Addr × Obj)} {ys : List Value} {i : Nat}
theorem ints_yes {f : Nat → Option Dat} {d : Dat} {S : List (Addr × Obj) → Prop} (F : Fr h₀ L h' m) (N : News h₀ L h' ((I, oI) :: (C, oC) :: (Dd, oD) :: B)) (off : LCg.Off3 I C Dd B)
    (hS : S B) (hP : DatAll [] ys (upTo f i)) (hf : f i = some d) (hy : DatIn [] y d) :
    Held (LCg.CompEnd h₀ L m s₁ I oI C oC Dd oD S (fun y nw' => nw' = B ∧ DatAll [] (ys ++ [y]) (upTo f (i + 1))) y { s₁ with heap := h', toks := tk }) :=
  LCg.CompEnd.intro F N B (fun p hp => hp) off hS ⟨rfl, by rw [upTo_some hf]; exact hP.append (.one hy)⟩
theorem ints_no {f : Nat → Option Dat} {S : List (Addr × Obj) → Prop} (F : Fr h₀ L h' m) (N : News h₀ L h' ((I, oI) :: (C, oC) :: (Dd, oD) :: B)) (off : LCg.Off3 I C Dd B) (hS : S B)
    (hP : DatAll [] ys (upTo f i)) (hf : f i = none) :
    Held (LCg.CompEnd h₀ L m s₁ I oI C oC Dd oD S (fun _ nw' => nw' = B ∧ DatAll [] ys (upTo f (i + 1))) y { s₁ with heap := h', toks := tk }) :=
  LCg.CompEnd.intro F N B (fun p hp => hp) off hS ⟨rfl, by rw [upTo_none hf]; exact hP⟩
end
section
variable {prog : Program} {w : World} {A : Around} {h₀ : Heap} {L : Addr} {m : Str → Option Value} {env : Env} {ct elt : PySem.Expr} {x : Str} {scope : Scope} {cl : List (Str × Addr)} {s : Shared}
  {S : List (Addr × Obj) → Prop} {P : Nat → Value → Prop} {Fin : List Value → List (Addr × Obj) → Prop} {news : List (Addr × Obj)} {n : Nat}
theorem rest_ints (f : Nat → Option Dat)
    (turn : ∀ i ys v I oI C oC D m₂ h tk (E' : Value → Shared → Prop), i < n → DatAll [] ys (upTo f i) → P i v → LCg.NsObj oC m₂ → m₂ x = some v → Fr h₀ L h m → News h₀ L h ((I, oI) :: (C, oC) :: (D, LCg.lst ys) :: news) → LCg.Off3 I C D news → ((@Ne Nat I C) ∧ (@Ne Nat I D) ∧ (@Ne Nat C D)) →
      wpAny (model prog w) A (isTrue ct (compEnvC scope cl C env) (eval ct (compEnvC scope cl C env))) (fun ok s' => if ok = true then
        wpAny (model prog w) A (eval elt (compEnvC scope cl C env)) (LCg.CompEnd h₀ L m { s with heap := h, toks := tk } I oI C oC D (LCg.lst ys) S (fun y nw' => nw' = news ∧ DatAll [] (ys ++ [y]) (upTo f (i + 1)))) E' s'
        else LCg.CompEnd h₀ L m { s with heap := h, toks := tk } I oI C oC D (LCg.lst ys) S (fun _ nw' => nw' = news ∧ DatAll [] ys (upTo f (i + 1))) Value.none s') E' { s with heap := h, toks := tk })
    (fin : ∀ ys, DatAll [] ys (upTo f n) → Fin ys news) : LCt.CompRestT prog w A h₀ L m env ct elt x scope cl s S P Fin n 0 [] news :=
  rest_T (fun i ys nw => nw = news ∧ DatAll [] ys (upTo f i)) ⟨rfl, DatAll.nil⟩ (fun i ys nw v I oI C oC D m₂ h tk E' hi hv hP hC hx F N off ne => by
    obtain ⟨rfl, hv⟩ := hv
    exact turn i ys v I oI C oC D m₂ h tk E' hi hv hP hC hx F N off ne) fun ys nw hv => by
    obtain ⟨rfl, hv⟩ := hv
    exact fin ys hv
theorem rest_pairs (f : Nat → Option (Int × Dat))
    (turn : ∀ i ys own v I oI C oC D m₂ h tk (E' : Value → Shared → Prop), i < n → PairsIn own ys (upTo f i) → P i v → LCg.NsObj oC m₂ → m₂ x = some v → Fr h₀ L h m → News h₀ L h ((I, oI) :: (C, oC) :: (D, LCg.lst ys) :: (news ++ own)) → LCg.Off3 I C D (news ++ own) → ((@Ne Nat I C) ∧ (@Ne Nat I D) ∧ (@Ne Nat C D)) →
      wpAny (model prog w) A (isTrue ct (compEnvC scope cl C env) (eval ct (compEnvC scope cl C env))) (fun ok s' => if ok = true then
        wpAny (model prog w) A (eval elt (compEnvC scope cl C env)) (LCg.CompEnd h₀ L m { s with heap := h, toks := tk } I oI C oC D (LCg.lst ys) S (fun y nw' => ∃ own, nw' = news ++ own ∧ PairsIn own (ys ++ [y]) (upTo f (i + 1)))) E' s'
        else LCg.CompEnd h₀ L m { s with heap := h, toks := tk } I oI C oC D (LCg.lst ys) S (fun _ nw' => ∃ own, nw' = news ++ own ∧ PairsIn own ys (upTo f (i + 1))) Value.none s') E' { s with heap := h, toks := tk })
    (fin : ∀ ys own, PairsIn own ys (upTo f n) → Fin ys (news ++ own)) : LCt.CompRestT prog w A h₀ L m env ct elt x scope cl s S P Fin n 0 [] news :=
  rest_T (fun i ys nw => ∃ own, nw = news ++ own ∧ PairsIn own ys (upTo f i)) ⟨[], by rw [List.append_nil], PairsIn.nil⟩ (fun i ys nw v I oI C oC D m₂ h tk E' hi hv hP hC hx F N off ne => by
    obtain ⟨own, rfl, hv⟩ := hv
    exact turn i ys own v I oI C oC D m₂ h tk E' hi hv hP hC hx F N off ne) fun ys nw hv => by
    obtain ⟨own, rfl, hv⟩ := hv
    exact fin ys own hv
end
/-! instances over a ledger -/
def CovIn (nw : List (Addr × Obj)) (v : Value) (ds : List Dat) : Prop :=
  ∃ x dx es nn t qs, v = .ref x ∧ (x, instObj 154 dx) ∈ nw ∧ (dx, dictOf es nn) ∈ nw ∧ getL (Str.ofString "glyphs") es = some (some (.ref t)) ∧ getL (Str.ofString "told") es = some none ∧ (t, tupOf qs) ∈ nw ∧ DatAll nw qs ds
inductive CovsIn (nw : List (Addr × Obj)) : List Value → List (List Dat) → Prop
  | nil : CovsIn nw [] []
  | cons {v : Value} {vs : List Value} {d : List Dat} {ds : List (List Dat)} : CovIn nw v d → CovsIn nw vs ds → CovsIn nw (v :: vs) (d :: ds)
def ClsIn (prog : Program) (w : World) (nw : List (Addr × Obj)) (v : Value) (kds : List (Int × Dat)) : Prop :=
  ∃ x dx es nn d o kvs, v = .ref x ∧ (x, instObj 112 dx) ∈ nw ∧ (dx, dictOf es nn) ∈ nw ∧ getL (Str.ofString "classes") es = some (some (.ref d)) ∧ getL (Str.ofString "told") es = some none ∧ (d, o) ∈ nw ∧ o.IsDictOf (PySem.intKind prog w) kvs ∧ KvIn nw kvs kds ∧ (d == sysModules) = false
theorem CovIn.mono {nw nw' : List (Addr × Obj)} {v : Value} {ds : List Dat} (h : CovIn nw v ds) (hs : ∀ p ∈ nw, p ∈ nw') : CovIn nw' v ds := by
  obtain ⟨x, dx, es, nn, t, qs, rfl, h1, h2, h3, h4, h5, h6⟩ := h
  exact ⟨x, dx, es, nn, t, qs, rfl, hs _ h1, hs _ h2, h3, h4, hs _ h5, DatAll.mono hs h6⟩
theorem CovsIn.mono {nw nw' : List (Addr × Obj)} (hs : ∀ p ∈ nw, p ∈ nw') : ∀ {vs : List Value} {ds : List (List Dat)}, CovsIn nw vs ds → CovsIn nw' vs ds
  | _, _, .nil => .nil
  | _, _, .cons h r => .cons (h.mono hs) (r.mono hs)
theorem ClsIn.mono {prog : Program} {w : World} {nw nw' : List (Addr × Obj)} {v : Value} {kds : List (Int × Dat)} (h : ClsIn prog w nw v kds) (hs : ∀ p ∈ nw, p ∈ nw') : ClsIn prog w nw' v kds := by
  obtain ⟨x, dx, es, nn, d, o, kvs, rfl, h1, h2, h3, h4, h5, h6, h7, h8⟩ := h
  exact ⟨x, dx, es, nn, d, o, kvs, rfl, hs _ h1, hs _ h2, h3, h4, hs _ h5, h6, h7.mono hs, h8⟩
def turn {α : Type} (b : Bool) (l : List α) : List α := if b then l.reverse else l
theorem keys_nodup {f : Nat → Option (Int × Dat)} (h : ∀ k p, f k = some p → p.1 = (k : Int)) (n : Nat) : ((upTo f n).map (·.1)).Nodup := by
  have key : ∀ n, ((upTo f n).map (·.1)).Nodup ∧ ∀ x ∈ (upTo f n).map (·.1), x < (n : Int) := by
    intro n
    induction n with
    | zero => exact ⟨.nil, fun x hx => nomatch hx⟩
    | succ n ih =>
      cases hf : f n with
      | none =>
        rw [upTo_none hf]
        exact ⟨ih.1, fun x hx => Int.lt_trans (ih.2 x hx) (by omega)⟩
      | some p =>
        rw [upTo_some hf, List.map_append]
        have hp := h n p hf
        refine ⟨List.nodup_append.mpr ⟨ih.1, by simp, ?_⟩, fun x hx => ?_⟩
        · intro a ha b hb
          simp only [List.map_cons, List.map_nil, List.mem_singleton] at hb
          have := ih.2 a ha
          omega
        · rcases List.mem_append.mp hx with hx | hx
          · have := ih.2 x hx; omega
          · simp only [List.map_cons, List.map_nil, List.mem_singleton] at hx; omega
  exact (key n).1
theorem key_cls {D : List Int} (k : Nat) (p : Int × Dat) (h : fCls D k = some p) : p.1 = (k : Int) := by
  unfold fCls at h; split at h
  · cases h; rfl
  · cases h
theorem key_held {D : List Int} (k : Nat) (p : Int × Dat) (h : fHeld D k = some p) : p.1 = (k : Int) := by
  unfold fHeld at h; split at h
  · cases h; rfl
  · cases h
theorem key_pts {D : List Int} (k : Nat) (p : Int × Dat) (h : fPts D k = some p) : p.1 = (k : Int) := by
  unfold fPts at h; split at h
  · cases h; rfl
  · cases h
theorem key_car {D : List Int} (k : Nat) (p : Int × Dat) (h : fCar D k = some p) : p.1 = (k : Int) := by
  unfold fCar at h; split at h
  · cases h; rfl
  · cases h
def GdefIn (prog : Program) (w : World) (nw : List (Addr × Obj)) (v : Value) (D : List Int) (b : Bool) : Prop :=
  ∃ x dx es nn vc va sl pl kl svs ns op kvp oc kvc, v = .ref x ∧ (x, instObj 65 dx) ∈ nw ∧ (dx, dictOf es nn) ∈ nw ∧
    getL (Str.ofString "classes") es = some (some vc) ∧ getL (Str.ofString "attach") es = some (some va) ∧ getL (Str.ofString "sets") es = some (some (.ref sl)) ∧ getL (Str.ofString "points") es = some (some (.ref pl)) ∧ getL (Str.ofString "carets") es = some (some (.ref kl)) ∧ getL (Str.ofString "told") es = some none ∧
    ClsIn prog w nw vc (turn b (upTo (fCls D) 8)) ∧ ClsIn prog w nw va (turn b (upTo (fHeld D) 4)) ∧ (sl, listOf svs.toArray ns) ∈ nw ∧ CovsIn nw svs (setsD D) ∧
    (pl, op) ∈ nw ∧ op.IsDictOf (PySem.intKind prog w) kvp ∧ KvIn nw kvp (turn b (upTo (fPts D) 4)) ∧ (kl, oc) ∈ nw ∧ oc.IsDictOf (PySem.intKind prog w) kvc ∧ KvIn nw kvc (turn b (upTo (fCar D) 5)) ∧ (pl == sysModules) = false ∧ (kl == sysModules) = false
theorem cov_in {nw : List (Addr × Obj)} {x dx t : Addr} {hs : Int} {tk : Tok} {nn : Nat} {qs : List Value} {ds : List Dat} (h1 : (x, instObj 154 dx) ∈ nw) (h2 : (dx, dictOf [⟨hs, .str (Str.ofString "glyphs") tk, .ref t⟩] nn) ∈ nw) (h3 : (t, tupOf qs) ∈ nw) (h4 : DatAll nw qs ds) : CovIn nw (.ref x) ds :=
  ⟨x, dx, _, nn, t, qs, rfl, h1, h2, by k_get, by k_get, h3, h4⟩
theorem cls_in {prog : Program} {w : World} {nw : List (Addr × Obj)} {x dx d : Addr} {hs : Int} {tk : Tok} {nn : Nat} {o : Obj} {kvs : List (Int × Value)} {kds : List (Int × Dat)} (h1 : (x, instObj 112 dx) ∈ nw) (h2 : (dx, dictOf [⟨hs, .str (Str.ofString "classes") tk, .ref d⟩] nn) ∈ nw) (h3 : (d, o) ∈ nw)
    (h4 : o.IsDictOf (PySem.intKind prog w) kvs) (h5 : KvIn nw kvs kds) (h6 : (d == sysModules) = false) : ClsIn prog w nw (.ref x) kds :=
  ⟨x, dx, _, nn, d, o, kvs, rfl, h1, h2, by k_get, by k_get, h3, h4, h5, h6⟩
theorem gdef_in {prog : Program} {w : World} {nw : List (Addr × Obj)} {x dx sl pl kl : Addr} {va vc : Value} {g1 g2 g3 g4 g5 : Int} {t1 t2 t3 t4 t5 : Tok} {nn ns : Nat} {op oc : Obj} {kvp kvc : List (Int × Value)} {svs : List Value} {D : List Int} {b : Bool}
    (h1 : (x, instObj 65 dx) ∈ nw) (h2 : (dx, dictOf [⟨g1, .str (Str.ofString "classes") t1, vc⟩, ⟨g2, .str (Str.ofString "attach") t2, va⟩, ⟨g3, .str (Str.ofString "sets") t3, .ref sl⟩, ⟨g4, .str (Str.ofString "points") t4, .ref pl⟩, ⟨g5, .str (Str.ofString "carets") t5, .ref kl⟩] nn) ∈ nw)
    (h3 : ClsIn prog w nw vc (turn b (upTo (fCls D) 8))) (h4 : ClsIn prog w nw va (turn b (upTo (fHeld D) 4))) (h5 : (sl, listOf svs.toArray ns) ∈ nw) (h6 : CovsIn nw svs (setsD D))
    (h7 : (pl, op) ∈ nw) (h8 : op.IsDictOf (PySem.intKind prog w) kvp) (h9 : KvIn nw kvp (turn b (upTo (fPts D) 4))) (h10 : (kl, oc) ∈ nw) (h11 : oc.IsDictOf (PySem.intKind prog w) kvc) (h12 : KvIn nw kvc (turn b (upTo (fCar D) 5))) (h13 : (pl == sysModules) = false) (h14 : (kl == sysModules) = false) : GdefIn prog w nw (.ref x) D b :=
  ⟨x, dx, _, nn, vc, va, sl, pl, kl, svs, ns, op, kvp, oc, kvc, rfl, h1, h2, by k_get, by k_get, by k_get, by k_get, by k_get, by k_get, h3, h4, h5, h6, h7, h8, h9, h10, h11, h12, h13, h14⟩
/-- behind the If of _law_made: the list of sets stands -/
def SetsMid (g : Heap) (L : Addr) (s : Shared) (keep : List (Addr × Obj)) (l : Addr) (ds : List (List Dat)) (m : Str → Option Value) (fl : Flow) (s' : Shared) : Prop :=
  fl = .next ∧ ∃ h' tk' nw svs ns, s' = { s with heap := h', toks := tk' } ∧ Fr g L h' m ∧ News g L h' nw ∧ (∀ p ∈ keep, p ∈ nw) ∧ (l, listOf svs.toArray ns) ∈ nw ∧ CovsIn nw svs ds
theorem mono_with {M : Model} {A : Around} {t : Sem Flow} {Q : Flow → Shared → Prop} {E : Value → Shared → Prop} {s : Shared} {g h : Heap} {L : Addr} {m : Str → Option Value} (F : Fr g L h m) (P : (Str → Option Value) → Flow → Shared → Prop)
    (h1 : wpAny M A t (P m) E s) (h2 : ∀ fl s', P m fl s' → Q fl s') : wpAny M A t Q E s := wpAny_mono h1 h2 fun _ _ e => e
end Mine
end
section
open PySem PySem.W PyProof.Rows PySem.Spec PySem.Calls
set_option linter.unusedVariables false
set_option maxRecDepth 100000
namespace Mine
section
variable {prog : Program} {w : World} {A : Around} {E : Value → Shared → Prop} {s : Shared}
theorem collect_range {R : List Value → Shared → Prop} {r : Addr} {a b c : Int} {t u v : Tok} {n : Nat} (hh : A.handled = none) (hr : IsRange s.heap r a b c t u v) (hsmall : Builtin.Range.small a b c = true)
    (hn : Builtin.Range.rangeSize a b c = n) (hlen : n ≤ 2 ^ 24)
    (h : ∀ (h' : Heap) (tk : Nat) (acc : Array Value), (∀ b o, s.heap.get? b = some o → h'.get? b = some o) → ItemsOf (fun i v => ∃ t, v = .int (a + i * c) t) acc n → R acc.toList { s with heap := h', toks := tk }) :
    wpAny (model prog w) A (collect (.ref r)) R E s := by
  unfold collect
  refine wpAny_bind (wpAny_runValue (codeAny_builtin entry_proto_collect' ?_))
  rw [Around.under_plainId PySem.F.plain_proto_collect _]
  show wpAny _ A.in1 (newList [] >>= fun l => again (.builtin "list.__iadd__" ⟨[l, .ref r], []⟩)) _ _ s
  refine wpAny_bind (wpAny_newObj_type ?_)
  refine wpAny_pure ⟨plainId_quiet PySem.F.plain_list_iadd _, codeAny_builtin entry_list_iadd' ?_⟩
  rw [Around.under_plainId PySem.F.plain_list_iadd _]
  have hS₁ : (s.heap.push { cls := .type "list", data := .seq ([] : List Value).toArray }).get? s.heap.objs.size = some { cls := .type "list", data := .seq #[] } := Heap.get?_push_size _ rfl
  show wpAny _ A.in1 (Builtin.List.listExtendWith (.ref s.heap.objs.size) (.ref r) (.ref s.heap.objs.size)) _ _ _
  have key := wpAny_extend_range (prog := prog) (w := w) (A := A) (s := { s with heap := s.heap.push { cls := .type "list", data := .seq ([] : List Value).toArray } })
    (R := fun (q : Result) (s' : Shared) => ∃ (h' : Heap) (tk : Nat) (acc' : Array Value) (c' : Nat), q = .ok (.ret (.ref s.heap.objs.size)) ∧ s' = { s with heap := h', toks := tk } ∧
      (∀ b o, s.heap.get? b = some o → h'.get? b = some o) ∧ h'.get? s.heap.objs.size = some { cls := .type "list", dict := none, data := .seq acc' c', slots := #[] } ∧ ItemsOf (fun i v => ∃ t, v = .int (a + i * c) t) acc' n)
    hh (Heap.get?_push_of_some _ hr) hsmall hn hlen s.heap.objs.size (.ref s.heap.objs.size) 0 hS₁
    (fun h' tk acc' c' hk hS' hacc => ⟨h', tk, acc', c', rfl, rfl, fun b o e => hk b o (Nat.ne_of_lt (Heap.lt_size e)) (Heap.get?_push_of_some _ e), hS', hacc⟩)
  refine wpAny_mono key (fun fin s' x => ?_) fun e s' x => ?_
  · cases fin with
    | done f =>
      obtain ⟨h', tk, acc', c', e, rfl, hk, hS', hacc⟩ := x
      cases e
      show wpAny _ A (load s.heap.objs.size >>= _) _ _ _
      refine wpAny_bind (wpAny_load hS' ?_)
      exact wpAny_pure (h h' tk acc' hk hacc)
    | again c₁ =>
      refine ⟨x.1, codeAny_mono x.2 fun q s₂ y => ?_⟩
      obtain ⟨h', tk, acc', c', rfl, rfl, hk, hS', hacc⟩ := y
      show wpAny _ A (load s.heap.objs.size >>= _) _ _ _
      refine wpAny_bind (wpAny_load hS' ?_)
      exact wpAny_pure (h h' tk acc' hk hacc)
  · obtain ⟨_, _, _, _, e', _⟩ := x
    cases e'
end
theorem meets_tuple_new_range (r : Addr) (a b c : Int) (t u v : Tok) (n : Nat) (hsmall : Builtin.Range.small a b c = true) (hn : Builtin.Range.rangeSize a b c = n) (hlen : n ≤ 2 ^ 20) :
    Meets (Builtin.«tuple.__new__» ⟨[.type "tuple", .ref r], []⟩)
      (fun A R s => A.handled = none ∧ IsRange s.heap r a b c t u v ∧ ∀ (h' : Heap) (tk : Nat) (acc : Array Value), (∀ b o', s.heap.get? b = some o' → h'.get? b = some o') → ItemsOf (fun i v => ∃ t, v = .int (a + i * c) t) acc n → R (.ok (.ret (.ref h'.objs.size))) { s with heap := h'.push { cls := .type "tuple", data := .seq acc }, toks := tk }) :=
  .of_wp fun prog w A R s h => by
    obtain ⟨hp, g, d, tk, os⟩ := s; obtain ⟨hh, ht, h⟩ := h
    have hsub := sub_tuple_self
    have hinit := init_tuple_lookup
    have hmh := madeHere_tuple
    have hT : Shared.TypeIs ⟨hp, g, d, tk, os⟩ (.ref r) "range" := ⟨_, ht, rfl⟩
    wp_walk using wpAny_loadPart' ht, wpAny_typeOf hT, collect_range (A := A.in1) hh ht hsmall hn (Nat.le_trans hlen (by decide))
    intro h' tk' acc hk hacc
    show wpAny _ _ (Builtin.Tuple.tupleExact acc.toList.toArray >>= fun v => ret v) _ _ _
    unfold Builtin.Tuple.tupleExact
    refine wpAny_bind (wpAny_newObj_type ?_ (by show acc.toList.toArray.size ≤ sizeLine; have e := hacc.1; rw [sizeLine_eq]; simp only [Array.toArray_toList]; omega))
    refine wpAny_pure ⟨_, rfl, ?_⟩
    have e : acc.toList.toArray = acc := by simp
    rw [e]
    exact h h' tk' acc hk hacc
section
variable {prog : Program} {w : World} {A : Around} {E : Value → Shared → Prop} {s : Shared} {h₀ : Heap} {L : Addr} {m : Str → Option Value} {news : List (Addr × Obj)}
theorem range_dats {a : Int} {vs : List Value} {n : Nat} (hl : vs.length = n) (h : ∀ (i : Nat) (v : Value), vs[i]? = some v → ∃ t, v = Value.int (a + (i : Int)) t) : DatAll [] vs ((List.range n).map fun j => Dat.int (a + (j : Nat))) := by
  have key : ∀ (vs : List Value) (k : Nat), (∀ (i : Nat) (v : Value), vs[i]? = some v → ∃ t, v = Value.int (a + ((k + i : Nat) : Int)) t) → DatAll [] vs ((List.range' k vs.length).map fun j => Dat.int (a + (j : Nat))) := by
    intro vs
    induction vs with
    | nil => intro k _; exact .nil
    | cons v vs ih =>
      intro k h
      obtain ⟨t, e⟩ := h 0 v rfl
      rw [List.length_cons, List.range'_succ, List.map_cons]
      refine .cons ?_ (ih (k + 1) fun i v hv => ?_)
      · rw [e]; exact .int _ _
      · obtain ⟨t, e⟩ := h (i + 1) v hv
        exact ⟨t, by rw [e]; congr 2; omega⟩
  have q := key vs 0 (fun i v hv => by obtain ⟨t, e⟩ := h i v hv; exact ⟨t, by rw [e]; congr 2; omega⟩)
  rw [hl, ← List.range_eq_range'] at q
  exact q
theorem tup_range {Q : Value → Shared → Prop} {r : Addr} {b : Int} {t u v : Tok} (hh : A.handled = none) (Fh : Fr h₀ L s.heap m) (N : News h₀ L s.heap news) (hr : IsRange s.heap r 0 b 1 t u v) (h0 : 0 ≤ b) (h1 : b ≤ 100)
    (h : ∀ D h' tk vs, Fr h₀ L h' m → News h₀ L h' ((D, tupOf vs) :: news) → (∀ p ∈ news, p.1 < D) → DatAll [] vs ((List.range b.toNat).map fun j => Dat.int (j : Nat)) → Q (.ref D) { s with heap := h', toks := tk }) :
    wpAny (model prog w) A (call (.type "tuple") [.ref r]) Q E s := by
  have hsz : Builtin.Range.rangeSize 0 b 1 = ((b.toNat : Nat) : Int) := by
    unfold Builtin.Range.rangeSize
    simp
    omega
  refine callType_new F.called_tuple (by decide) (F.typeCall_tuple_1 _) (F.newCall_tuple_1 _) (fun obj => F.args_object_init_2 obj _) F.entry_tuple_new
    (meets_tuple_new_range r 0 b 1 t u v b.toNat (small_one (by omega) (by omega) (by omega) (by omega)) hsz (by omega)) ⟨hh, hr, fun h' tk acc hk hacc => ⟨⟨_, Heap.get?_push_size _ rfl, rfl⟩, ?_⟩⟩
  have F' : Fr h₀ L h' m := Fh.keeps hk
  have N' : News h₀ L h' news := fun p hp => ⟨hk _ _ (N p hp).1, (N p hp).2⟩
  have e : acc = acc.toList.toArray := by simp
  have q := range_dats (a := 0) (vs := acc.toList) (n := b.toNat) (by rw [Array.length_toList]; exact hacc.1) (fun i v hv => by
    obtain ⟨t, e⟩ := hacc.2 i v (by rw [← Array.getElem?_toList]; exact hv)
    exact ⟨t, by rw [e, Int.mul_one]⟩)
  simp only [Int.zero_add] at q
  have N2 := N'.push F' { cls := .type "tuple", data := .seq acc }
  rw [e] at N2 ⊢
  exact h _ _ tk acc.toList (F'.push _) N2 (fun p hp => Heap.lt_size (N' p hp).1) q
end
end Mine
end
section
open PySem PySem.W PyProof.Rows PySem.Spec PySem.Calls
set_option linter.unusedVariables false
set_option pp.deepTerms false
set_option pp.proofs false
namespace Mine
local macro_rules | `(tactic| k_all) => `(tactic| first | with_reducible assumption | exact all_ne_lt (by assumption) | exact all_ne_lt (And.right (by assumption)) | exact all_ne_lt (And.right (And.right (by assumption))) | exact all_ne_lt (And.right (And.right (And.right (by assumption)))) | exact all_ne_lt (And.right (And.right (And.right (And.right (by assumption))))) | exact all_ne_lt (And.right (And.right (And.right (And.right (And.right (by assumption)))))) | exact all_ne_lt (And.right (And.right (And.right (And.right (And.right (And.right (by assumption))))))) | exact all_ne_lt (And.right (And.right (And.right (And.right (And.right (And.right (And.right (by assumption)))))))) | exact all_ne_lt (And.right (And.right (And.right (And.right (And.right (And.right (And.right (And.right (by assumption))))))))))
local macro_rules | `(tactic| k_mem) => `(tactic| first | with_reducible assumption | (refine List.mem_append.mpr (Or.inl ?_); k_mem) | (refine List.mem_append.mpr (Or.inr ?_); k_mem))
local macro_rules | `(tactic| k_enter) => `(tactic| first
  | (refine' code_def ?k1 ?k2 ?k3 ?k4 ?k5 ?kA ?kF ?kK ?k6 ?k7 ?k8 ?k9 ?kB ?_ ?c2 ?c3 ?c4 ?c5; (case kA => exact rfl); (case kF => exact rfl); (case kK => first | exact rfl | assumption); (case k1 => k_asm); (case k2 => k_asm); (case k3 => k_asm); (case k4 => k_asm); (case k5 => k_asm); (case k6 => k_is); (case k7 => k_is); (case k8 => ktr_room); (case k9 => first | exact BindsTo.of_eq rfl | exact binds_K (by k_in) rfl (by k_is) rfl rfl rfl | fail "k_enter: no rule for these arguments"); (case c5 => decide); (case kB => exact locs rfl); (case c2 => exact rfl); (case c3 => exact rfl); (case c4 => exact rfl); k_whole; intro g' L' h' FG' F' N' B' X' T'; (try dsimp only); (try k_lift B'); (try k_fold))
  | (refine' code_defC ?k1 ?k2 ?k3 ?k4 ?k5 ?kA ?kF ?kK ?k6 ?k7 ?k8 ?k9 ?kB ?kD ?_ ?c2 ?c3 ?c4; (case kA => exact rfl); (case kF => exact rfl); (case kK => first | exact rfl | assumption); (case k1 => k_asm); (case k2 => k_asm); (case k3 => k_asm); (case k4 => k_asm); (case k5 => k_asm); (case k6 => k_is); (case k7 => k_is); (case k8 => ktr_room); (case k9 => first | exact BindsTo.of_eq rfl | exact binds_K (by k_in) rfl (by k_is) rfl rfl rfl | fail "k_enter: no rule for these arguments"); (case kB => exact rfl); (case kD => decide +kernel); (case c2 => exact rfl); (case c3 => exact rfl); (case c4 => exact rfl); k_whole; intro g' L' h' tk' cells' FG' F' N' Y' B' X' T' l1; (try k_lt l1); k_cells Y'; (try simp only [List.cons_append, List.nil_append] at N'); (try dsimp only); (try k_lift B'); (try k_fold)))
local macro_rules | `(tactic| walk_at "CompSrc") => `(tactic| with_reducible refine Held.out ?_)
local macro_rules | `(tactic| walk_at "CompSrcT") => `(tactic| with_reducible refine Held.out ?_)
local macro_rules | `(tactic| walk_at "CompEnd") => `(tactic| with_reducible refine Held.out ?_)
local macro_rules | `(tactic| l_idx) => `(tactic| with_reducible assumption)
local macro_rules | `(tactic| walk_at "call type:tuple") => `(tactic| (k_here; (with_reducible show wpAny _ _ (call (Value.type _) [Value.ref _]) _ _ _); k_dflt (refine' tup_of ?k1 ?k2 ?k3 ?k4 ?_; (case k1 => k_asm); (case k2 => k_asm); (case k3 => k_mem); (case k4 => with_reducible assumption); k_whole); intro D' h' F' N' l1; (try k_lt l1)))
local macro_rules | `(tactic| walk_at "exec If") => `(tactic| ((fail_if_success (with_reducible show wpAny _ _ _ (SetsMid _ _ _ _ _ _ _) _ _)); with_reducible refine Held.out ?_))
local macro_rules | `(tactic| walk_at "call type:tuple") => `(tactic| (k_here; (with_reducible show wpAny _ _ (call (Value.type _) [Value.ref _]) _ _ _); k_dflt (refine' tup_range ?k0 ?k1 ?k2 ?k3 ?k4 ?k5 ?_; (case k0 => exact rfl); (case k1 => k_asm); (case k2 => k_asm); (case k3 => with_reducible assumption); (case k4 => with_reducible assumption); (case k5 => with_reducible assumption); k_whole); intro D' h' tk' vs' F' N' l1 hd'; (try k_lt l1)))
local macro_rules | `(tactic| walk_at "call ref") => `(tactic| (k_here; (with_reducible show wpAny _ _ (call (Value.ref 177) _) _ _ _); k_dflt (refine' dict_spec ?B ?F ?X ?N ?TT ?hk ?hl ?hP ?ho ?hn ?hz ?hz' ?hd1 ?hu ?_; (case B => k_asm); (case F => k_asm); (case X => k_asm); (case N => k_asm); (case TT => k_asm); (case hk => first | exact rfl | assumption); (case hl => k_mem); (case hP => with_reducible assumption); (case ho => first | assumption | (intro p9 h9; k_mem)); (case hn => with_reducible assumption); (case hz => with_reducible assumption); (case hz' => with_reducible assumption); (case hd1 => ktr_room); (case hu => ktr_units); k_whole; intro d' h' tk' o' kvs' F' N' hd' hk' l1' lo'; (try k_lt l1'))))
theorem fillMa : PySem.Challenge.rw_pb0159_01 = PySem.Challenge.rw_pb0159_01 ∧ (hd.heap_39 = hd.heap_39) := by
  w_top off
  k_fill
  exact ⟨rfl, rfl⟩
set_option maxRecDepth 100000 in
set_option maxHeartbeats 8000000 in
theorem made_spec {w : World} {mean : ExcName → Option Value} {mg mb : Str → Option Value}
  {dp un : Nat} {gd : Option (List Code)} {cn : Str} {cs : Scope} {a : Addr} {ccd : Value} {cl : List (Str × Addr)} {outer : List Env} {A₀ : Around} {base h₀ : Heap} {L : Addr} {m : Str → Option Value} {s : Shared} {Q E : Value → Shared → Prop}
  {dl : Addr} {dvs : List Value} {D : List Int} {n : Nat} {b : Bool} {news : List (Addr × Obj)}
  (B : Below A₀ base outer h₀) (F : Fr h₀ L s.heap m) (X : (hd.heap_39 w.params).In h₀) (N : News h₀ L s.heap news)
  (TT : Top hd.view_39 (looseW hd.view_39 []) mean mg mb h₀) (hk : cs.kind = .function)
  (hdl : (dl, listOf dvs.toArray n) ∈ news) (hi : IntsAre dvs D) (hlen : D.length = 24) (hb : ∀ d ∈ D, 0 ≤ d ∧ d < 6)
  (hd1 : dp + 40 < recursionLimit) (hu : un + 80 < cLine)
  (ret : ∀ v nw h' tk', Fr h₀ L h' m → News h₀ L h' nw → (∀ p ∈ news, p ∈ nw) → GdefIn PySem.Challenge.rw_pb0159_01.row.prog w nw v D b → Q v { s with heap := h', toks := tk' }) :
  wpAny (model PySem.Challenge.rw_pb0159_01.row.prog w) (ktrTop dp un gd cn cs L a ccd cl outer) (call (.ref 182) [.ref dl, .bool b]) Q E s := by
  refine wpAny_call ?_
  k_dflt k_enter
  k_steps
  rename_i g' L' h1 tk1 FG F1 B' X' T' l1 o1 d1 N1 h2 tk2 t1 u1 v1 r1 F2 N2 k2
  refine LCt.CompSrcT.range (n := 8) rfl F2 N2 r1 (by decide) rfl (by rw [sizeLine_eq]; omega) ?_
  intro g2
  refine rest_pairs (fCls D) ?_ ?_
  · rintro i ys own v I oI Cc oC Dd m₂ h tk E' hi8 hP ⟨t, rfl⟩ hC hx Fh Nh off ne
    simp only [List.cons_append] at Nh
    obtain ⟨k, hk'⟩ : ∃ k : Int, k = 0 + (i : Int) := ⟨_, rfl⟩
    rw [← hk'] at hx
    have i0 : 0 ≤ k := by omega
    have i1 : k < (D.length : Int) := by omega
    have i2 : k < 2 ^ 63 := by omega
    have hki : k.toNat = i := by omega
    have hki2 : (i : Int) = k := by omega
    k_steps
    · rename_i t2 hgt t3 T3 h3 F3 N3 l3
      rw [hki] at hgt N3
      exact pairs_yes F3 N3 sub1 off (add1 l3.1 l3.2.1 l3.2.2.1) trivial hP (by unfold fCls; rw [if_pos hgt, hki2]) (.tuple (List.mem_append_right _ (.head _)) (.cons (.int _ _) (.one (.int _ _))))
    · rename_i t2 hng
      rw [hki] at hng
      exact pairs_no Fh Nh off trivial hP (by unfold fCls; rw [if_neg hng])
  · intro ys own1 hP1
    k_steps
    rename_i D1 h3 tk3 F3 N3 o3 h4 tk4 t4 u4 v4 r4 F4 N4 k4
    refine LCt.CompSrcT.range (n := 4) rfl F4 N4 r4 (by decide) rfl (by rw [sizeLine_eq]; omega) ?_
    intro g4
    refine rest_pairs (fHeld D) ?_ ?_
    · rintro i zs own v I oI Cc oC Dd m₂ h tk E' hi8 hP ⟨t, rfl⟩ hC hx Fh Nh off ne
      simp only [List.cons_append] at Nh
      obtain ⟨k, hk'⟩ : ∃ k : Int, k = 0 + (i : Int) := ⟨_, rfl⟩
      rw [← hk'] at hx
      have i0 : 0 ≤ 8 + k := by omega
      have i1 : 8 + k < (D.length : Int) := by omega
      have i2 : 8 + k < 2 ^ 63 := by omega
      have hki : (8 + k).toNat = 8 + i := by omega
      have hki2 : (i : Int) = k := by omega
      k_steps
      · rename_i t2 hgt t3 T3 h3 F3 N3 l3
        rw [hki] at hgt N3
        exact pairs_yes F3 N3 sub1 off (add1 l3.1 l3.2.1 l3.2.2.1) trivial hP (by unfold fHeld; rw [if_pos hgt, hki2]) (.tuple (List.mem_append_right _ (.head _)) (.cons (.int _ _) (.one (.int _ _))))
      · rename_i t2 hng
        rw [hki] at hng
        exact pairs_no Fh Nh off trivial hP (by unfold fHeld; rw [if_neg hng])
    · intro zs own2 hP2
      k_steps
      rename_i D2 h5 tk5 F5 N5 o5 h6 tk6 t6 u6 v6 r6 F6 N6 k6
      refine LCt.CompSrcT.range (n := 8) rfl F6 N6 r6 (by decide) rfl (by rw [sizeLine_eq]; omega) ?_
      intro g6
      refine rest_ints (fSet0 D) ?_ ?_
      · rintro i qs v I oI Cc oC Dd m₂ h tk E' hi8 hP ⟨t, rfl⟩ hC hx Fh Nh off ne
        obtain ⟨k, hk'⟩ : ∃ k : Int, k = 0 + (i : Int) := ⟨_, rfl⟩
        rw [← hk'] at hx
        have i0 : (0 : Int) ≤ 12 := by omega
        have i1 : (12 : Int) < (D.length : Int) := by omega
        have i2 : (12 : Int) < 2 ^ 63 := by omega
        have hki2 : (i : Int) = k := by omega
        k_steps
        · rename_i t2 hgt
          exact ints_yes Fh Nh off trivial hP (d := .int k) (by unfold fSet0; rw [hki2]; exact if_pos hgt) (.int _ _)
        · rename_i t2 hng
          exact ints_no Fh Nh off trivial hP (by unfold fSet0; rw [hki2]; exact if_neg hng)
      · intro qs hP3
        have hz3 : qs.length ≤ 16384 := Nat.le_trans (dats_len hP3) (by omega)
        k_steps
        rename Fr g' L' _ _ => FF
        rename News g' L' _ _ => NN
        rename_i D3 h7 tk7 o7 T3 h8 l8 x3 dx3 h9 l9 l9b g9 L9 h10 B9 X9 T9 tk9 h11 F11 N11 Tc11 kX11 sl h12 l12 h13
        have i0 : (0 : Int) ≤ 13 := by omega
        have i1 : (13 : Int) < (D.length : Int) := by omega
        have i2 : (13 : Int) < 2 ^ 63 := by omega
        refine Held.mk ?_
        refine mono_with FF (SetsMid g' L' s ((D2, LCg.lst zs) :: (D1, LCg.lst ys) :: (L' + 1, o1) :: (news ++ own1 ++ own2)) sl (setsD D)) ?_ ?_
        · k_steps
          · rename_i tZ hgt h14 tk14 t14 u14 v14 r14 F14 N14 k14
            have hsd : setsD D = [upTo (fSet0 D) 8, upTo (fSet1 D) 8] := by unfold setsD; rw [if_pos (show D.getD 13 0 > 2 from hgt)]
            refine Held.mk ?_
            refine LCt.CompSrcT.range (n := 8) rfl F14 N14 r14 (by decide) rfl (by rw [sizeLine_eq]; omega) ?_
            intro g14
            refine rest_ints (fSet1 D) ?_ ?_
            · rintro i ss v I oI Cc oC Dd m₂ h tk E' hi8 hP ⟨t, rfl⟩ hC hx Fh Nh off ne
              obtain ⟨k, hk'⟩ : ∃ k : Int, k = 0 + (i : Int) := ⟨_, rfl⟩
              rw [← hk'] at hx
              have i0 : (0 : Int) ≤ 14 := by omega
              have i1 : (14 : Int) < (D.length : Int) := by omega
              have i2 : (14 : Int) < 2 ^ 63 := by omega
              have hki2 : (i : Int) = k := by omega
              k_steps
              · rename_i t2 hgt
                exact ints_yes Fh Nh off trivial hP (d := .int k) (by unfold fSet1; rw [hki2]; exact if_pos hgt) (.int _ _)
              · rename_i t2 hng
                exact ints_no Fh Nh off trivial hP (by unfold fSet1; rw [hki2]; exact if_neg hng)
            · intro ss hP4
              have hz4 : ss.length ≤ 16384 := Nat.le_trans (dats_len hP4) (by omega)
              k_steps
              rename Fr g' L' _ _ => FZ
              rename News g' L' _ _ => NZ
              rw [hsd]
              refine' ⟨rfl, _, _, _, [_, _], _, rfl, FZ, NZ, ?gk, ?gl, .cons ?g1 (.cons ?g2 .nil)⟩
              (case gl => k_mem)
              (case g1 => exact cov_in (by k_mem) (by k_mem) (by k_mem) (DatAll.mono (news := []) (fun _ h9 => nomatch h9) hP3))
              (case g2 => exact cov_in (by k_mem) (by k_mem) (by k_mem) (DatAll.mono (news := []) (fun _ h9 => nomatch h9) hP4))
              (case gk => (intro p hp; simp only [List.mem_cons] at hp; rcases hp with rfl | rfl | rfl | hp <;> (first | k_mem | (repeat (first | assumption | refine List.Mem.tail _ ?_)))))
          · rename_i tZ hng
            have hsd : setsD D = [upTo (fSet0 D) 8] := by unfold setsD; rw [if_neg (show ¬ D.getD 13 0 > 2 from hng)]
            rw [hsd]
            refine' ⟨rfl, _, _, _, [_], _, rfl, FF, NN, ?gk, ?gl, .cons ?g1 .nil⟩
            (case gl => k_mem)
            (case g1 => exact cov_in (by k_mem) (by k_mem) (by k_mem) (DatAll.mono (news := []) (fun _ h9 => nomatch h9) hP3))
            (case gk => (intro p hp; simp only [List.mem_cons] at hp; rcases hp with rfl | rfl | rfl | hp <;> (first | k_mem | (repeat (first | assumption | refine List.Mem.tail _ ?_)))))
        · rintro fl s' ⟨rfl, h', tk', nw, svs, ns, rfl, FF', NN', hkeep, hsl, hcov⟩
          have mdl : (dl, listOf dvs.toArray n) ∈ nw := hkeep _ (by k_mem)
          have mce : (L' + 1, o1) ∈ nw := hkeep _ (by k_mem)
          have mD1 : (D1, LCg.lst ys) ∈ nw := hkeep _ (by k_mem)
          have mD2 : (D2, LCg.lst zs) ∈ nw := hkeep _ (by k_mem)
          have mP1 : PairsIn nw ys (upTo (fCls D) 8) := hP1.mono fun p hp => hkeep p (.tail _ (.tail _ (.tail _ (List.mem_append_left _ (List.mem_append_right _ hp)))))
          have mP2 : PairsIn nw zs (upTo (fHeld D) 4) := hP2.mono fun p hp => hkeep p (.tail _ (.tail _ (.tail _ (List.mem_append_right _ hp))))
          have hnews : ∀ p ∈ news, p ∈ nw := fun p hp => hkeep p (.tail _ (.tail _ (.tail _ (List.mem_append_left _ (List.mem_append_left _ hp)))))
          clear hkeep NN FF hdl hP1 hP2 hP3
          k_steps
          rename_i F12 N12 h15 tk15 t15 u15 v15 r15 F15 N15 k15
          refine Held.mk ?_
          refine LCt.CompSrcT.range (n := 4) rfl F15 N15 r15 (by decide) rfl (by rw [sizeLine_eq]; omega) ?_
          intro g15
          refine rest_pairs (fPts D) ?_ ?_
          · rintro i zs own v I oI Cc oC Dd m₂ h tk E' hi8 hP ⟨t, rfl⟩ hC hx Fh Nh off ne
            obtain ⟨k, hk'⟩ : ∃ k : Int, k = 0 + (i : Int) := ⟨_, rfl⟩
            rw [← hk'] at hx
            have i0 : 0 ≤ 15 + k := by omega
            have i1 : 15 + k < (D.length : Int) := by omega
            have i2 : 15 + k < 2 ^ 63 := by omega
            have hki : (15 + k).toNat = 15 + i := by omega
            have hki2 : (i : Int) = k := by omega
            have hvm : 0 ≤ D.getD (15 + i) 0 ∧ D.getD (15 + i) 0 < 6 := hb _ (by rw [List.getD_eq_getElem?_getD, List.getElem?_eq_getElem (by omega)]; exact List.getElem_mem _)
            have hv0 : 0 ≤ D.getD (15 + k).toNat 0 := by rw [hki]; exact hvm.1
            have hv1 : D.getD (15 + k).toNat 0 ≤ 100 := by rw [hki]; omega
            k_steps
            · rename_i tA hgt cE t2 hR tkR t3 u3 v3 hrng hkp T5 h5 tk5 vs5 hd5 l5 P5 h6 F6 N6 l6
              rw [hki] at hgt hd5
              exact pairs_yes (add := [(P5, _), (T5, _)]) F6 N6 subL off (addC l6.2.1 l6.2.2.1 l6.2.2.2.1 (addC l5.1 l5.2.1 l5.2.2.1 addN)) trivial hP (by unfold fPts; rw [if_pos hgt, hki2])
                (.tuple (List.mem_append_right _ (.head _)) (.cons (.int _ _) (.one (.tuple (List.mem_append_right _ (.tail _ (.head _))) (DatAll.mono (news := []) (fun _ h9 => nomatch h9) hd5)))))
            · rename_i t2 hng
              rw [hki] at hng
              exact pairs_no Fh Nh off trivial hP (by unfold fPts; rw [if_neg hng])
          · intro ps own5 hP5
            k_steps
            rename_i D16 h16 tk16 F16 N16 o16 h17 tk17 t17 u17 v17 r17 F17 N17 k17
            refine Held.mk ?_
            refine LCt.CompSrcT.range (n := 5) rfl F17 N17 r17 (by decide) rfl (by rw [sizeLine_eq]; omega) ?_
            intro g17
            refine rest_pairs (fCar D) ?_ ?_
            · rintro i zs own v I oI Cc oC Dd m₂ h tk E' hi8 hP ⟨t, rfl⟩ hC hx Fh Nh off ne
              simp only [List.cons_append] at Nh
              obtain ⟨k, hk'⟩ : ∃ k : Int, k = 0 + (i : Int) := ⟨_, rfl⟩
              rw [← hk'] at hx
              have i0 : 0 ≤ 19 + k := by omega
              have i1 : 19 + k < (D.length : Int) := by omega
              have i2 : 19 + k < 2 ^ 63 := by omega
              have hki : (19 + k).toNat = 19 + i := by omega
              have hki2 : (i : Int) = k := by omega
              k_steps
              · rename_i tA hgt t2 A4 hA4 lA t4 B4 hB4 lB C4 hC4 lC P4 hP4 F4 N4 l4
                rw [hki] at hgt N4
                exact pairs_yes (add := [(P4, _), (C4, _), (B4, _), (A4, _)]) F4 N4 subL off (addC l4.2.2.2.1 l4.2.2.2.2.1 l4.2.2.2.2.2.1 (addC lC.2.2.1 lC.2.2.2.1 lC.2.2.2.2.1 (addC lB.2.1 lB.2.2.1 lB.2.2.2.1 (addC lA.1 lA.2.1 lA.2.2.1 addN)))) trivial hP (by unfold fCar; rw [if_pos hgt, hki2])
                  (.tuple (List.mem_append_right _ (.head _)) (.cons (.int _ _) (.one (.tuple (List.mem_append_right _ (.tail _ (.head _))) (.cons (.tuple (List.mem_append_right _ (.tail _ (.tail _ (.tail _ (.head _))))) (.cons (.str _ _) (.one (.int _ _)))) (.one (.tuple (List.mem_append_right _ (.tail _ (.tail _ (.head _)))) (.cons (.str _ _) (.one (.int _ _))))))))))
              · rename_i t2 hng
                rw [hki] at hng
                exact pairs_no Fh Nh off trivial hP (by unfold fCar; rw [if_neg hng])
            · intro cs9 own6 hP6
              have q1 := keys_nodup (f := fCls D) key_cls 8
              have q2 := keys_nodup (f := fHeld D) key_held 4
              have q3 := keys_nodup (f := fPts D) key_pts 4
              have q4 := keys_nodup (f := fCar D) key_car 5
              have z1 : (upTo (fCls D) 8).length ≤ 1000 := Nat.le_trans (upTo_len _ _) (by omega)
              have z2 : (upTo (fHeld D) 4).length ≤ 1000 := Nat.le_trans (upTo_len _ _) (by omega)
              have z3 : (upTo (fPts D) 4).length ≤ 1000 := Nat.le_trans (upTo_len _ _) (by omega)
              have z4 : (upTo (fCar D) 5).length ≤ 1000 := Nat.le_trans (upTo_len _ _) (by omega)
              have y1 : ys.toArray.size ≤ sizeLine := by rw [List.size_toArray, sizeLine_eq]; exact Nat.le_trans (pairs_len mP1) (by omega)
              have y2 : zs.toArray.size ≤ sizeLine := by rw [List.size_toArray, sizeLine_eq]; exact Nat.le_trans (pairs_len mP2) (by omega)
              have y3 : ps.toArray.size ≤ sizeLine := by rw [List.size_toArray, sizeLine_eq]; exact Nat.le_trans (pairs_len hP5) (by omega)
              have y4 : cs9.toArray.size ≤ sizeLine := by rw [List.size_toArray, sizeLine_eq]; exact Nat.le_trans (pairs_len hP6) (by omega)
              k_steps
              rename Fr h₀ L _ _ => kF
              rename News h₀ L _ _ => kN
              refine' ret _ _ _ _ kF kN ?gs (gdef_in ?a1 ?a2 (cls_in ?b1 ?b2 ?b3 ?b4 (KvIn.mono ?b5 ?b6) ?b7) (cls_in ?c1 ?c2 ?c3 ?c4 (KvIn.mono ?c5 ?c6) ?c7) ?a3 (CovsIn.mono ?a5 hcov) ?a6 ?a7 (KvIn.mono ?a8 ?a9) ?a10 ?a11 (KvIn.mono ?a12 ?a13) ?a14 ?a15)
              (case a1 => k_mem)
              (case a2 => k_mem)
              (case b1 => k_mem)
              (case b2 => k_mem)
              (case b3 => k_mem)
              (case b4 => assumption)
              (case b5 => assumption)
              (case b6 => (intro p9 h9; k_mem))
              (case c1 => k_mem)
              (case c2 => k_mem)
              (case c3 => k_mem)
              (case c4 => assumption)
              (case c5 => assumption)
              (case c6 => (intro p9 h9; k_mem))
              (case a3 => k_mem)
              (case a5 => (intro p9 h9; k_mem))
              (case a6 => k_mem)
              (case a7 => assumption)
              (case a8 => assumption)
              (case a9 => (intro p9 h9; k_mem))
              (case a10 => k_mem)
              (case a11 => assumption)
              (case a12 => assumption)
              (case a13 => (intro p9 h9; k_mem))
              (case b7 => assumption)
              (case c7 => assumption)
              (case a14 => assumption)
              (case a15 => assumption)
              (case gs => (intro p9 h9; have h8 := hnews p9 h9; k_mem))
end Mine
end
section
open PySem PySem.W PyProof.Rows PySem.Spec PySem.Calls
set_option linter.unusedVariables false
set_option maxRecDepth 100000
namespace Mine
section
variable {prog : Program} {w : World} {A : Around} {E : Value → Shared → Prop} {s : Shared} {h₀ : Heap} {L d : Addr} {m : Str → Option Value} {news : List (Addr × Obj)} {o : Obj} {kvs : List (Int × Value)} {T : List Int} {Q : Value → Shared → Prop}
theorem sorted_dict (hh : A.handled = none) (F : Fr h₀ L s.heap m) (N : News h₀ L s.heap news) (hm : (d, o) ∈ news) (ho : o.IsDictOf (PySem.intKind prog w) kvs) (lo : (d == sysModules) = false) (h64 : kvs.length < 64)
    (hT : (kvs.map (·.1)).Perm T) (hS : T.Pairwise (· ≤ ·))
    (h : ∀ S h' tk vs' e, Fr h₀ L h' m → News h₀ L h' ((S, listOf (List.toArray vs') e) :: news) → IntsAre vs' T → (∀ p ∈ news, p.1 < S) → Q (.ref S) { s with heap := h', toks := tk }) :
    wpAny (model prog w) A (call (.builtin "sorted") [.ref d]) Q E s := by
  obtain ⟨ep, hat⟩ := (Heap.dictOf_iff.mpr ⟨o, (N _ hm).1, ho⟩ : s.heap.DictOf (PySem.intKind prog w) d kvs).dictAt
  refine kdu_sorted (kdl_dict (knd := PySem.intKind prog w) (kvs := kvs) (ep := ep) lo) hh F N hat (by rw [sizeLine_eq]; omega) fun B h' tk vs F' N' l1 hl hv => ?_
  have z := N' _ (.head _)
  have hI : IntsAre vs (kvs.map (·.1)) := kdy_ints (by rw [List.length_map]; exact hl) fun j v hj => by
    obtain ⟨k, x, hx, hk⟩ := hv j v hj
    obtain ⟨t, rfl⟩ := Value.isInt_shape hk
    exact ⟨k, by rw [List.getElem?_map, hx]; rfl, t, rfl⟩
  refine wpAny_call_entry slot_list_sort ⟨_, z.1, rfl⟩ entry_list_sort (list_sort_tree (n := 0) z.1 hI (by omega) fun out ns' a1 a2 a3 => ⟨.none, rfl, ?_⟩) (args_list_sort _)
  have e : ns' = T := lks_uniq (a2.trans hT) a3 hS
  subst e
  obtain ⟨e, he⟩ := sortedHeap_at (out := out) (vs := vs) (n := 0) z.1
  have old : ∀ b o, b ≠ B → h'.get? b = some o → (sortedHeap h' B vs out).get? b = some o := fun b o hb q => by
    rw [sortedHeap_old hb (Heap.lt_size q)]; exact q
  obtain ⟨oL, c1, c2, hL, c3⟩ := F'.ns
  have F2 : Fr h₀ L (sortedHeap h' B vs out) m := ⟨⟨oL, c1, c2, old L _ (Ne.symm z.2.1) hL, c3⟩, fun b o q => old b o (fun q' => by rw [q', z.2.2] at q; cases q) (F'.keep b o q), F'.above⟩
  refine h B _ tk out.toList e F2 (fun p hp => ?_) a1 l1
  rcases List.mem_cons.mp hp with rfl | hp
  · exact ⟨by rw [Array.toArray_toList]; exact he, z.2⟩
  · have q := N' p (.tail _ hp)
    exact ⟨old _ _ (Nat.ne_of_lt (l1 p hp)) q.1, q.2⟩
end
section
variable {prog : Program} {w : World} {A : Around} {h₀ : Heap} {L : Addr} {m : Str → Option Value} {env : Env} {elt : PySem.Expr} {x : Str} {scope : Scope} {cl : List (Str × Addr)} {s : Shared}
  {S : List (Addr × Obj) → Prop} {P : Nat → Value → Prop} {Fin : List Value → List (Addr × Obj) → Prop} {news own : List (Addr × Obj)} {n : Nat} {kds : List (Int × Dat)}
theorem rest_pairsU (kds : List (Int × Dat)) (hn : kds.length = n)
    (turn : ∀ i k d ys own v I oI C oC D m₂ h tk (E' : Value → Shared → Prop), kds[i]? = some (k, d) → PairsIn (news ++ own) ys (kds.take i) → P i v → LCg.NsObj oC m₂ → m₂ x = some v → Fr h₀ L h m → News h₀ L h ((I, oI) :: (C, oC) :: (D, LCg.lst ys) :: (news ++ own)) → LCg.Off3 I C D (news ++ own) → ((@Ne Nat I C) ∧ (@Ne Nat I D) ∧ (@Ne Nat C D)) →
      wpAny (model prog w) A (eval elt (compEnvC scope cl C env)) (LCg.CompEnd h₀ L m { s with heap := h, toks := tk } I oI C oC D (LCg.lst ys) S (fun y nw' => ∃ own, nw' = news ++ own ∧ PairsIn (news ++ own) (ys ++ [y]) (kds.take (i + 1)))) E' { s with heap := h, toks := tk })
    (fin : ∀ ys own, PairsIn (news ++ own) ys kds → Fin ys (news ++ own)) : LCg.CompRest prog w A h₀ L m env elt x scope cl s S P Fin n 0 [] news :=
  rest_U (fun i ys nw => ∃ own, nw = news ++ own ∧ PairsIn (news ++ own) ys (kds.take i)) ⟨[], by rw [List.append_nil], PairsIn.nil⟩ (fun i ys nw v I oI C oC D m₂ h tk E' hi hv hP hC hx F N off ne => by
    obtain ⟨own, rfl, hv⟩ := hv
    have hlt : i < kds.length := by omega
    exact turn i (kds[i]).1 (kds[i]).2 ys own v I oI C oC D m₂ h tk E' (List.getElem?_eq_getElem hlt) hv hP hC hx F N off ne) fun ys nw hv => by
    obtain ⟨own, rfl, hv⟩ := hv
    rw [List.take_of_length_le (by omega)] at hv
    exact fin ys own hv
theorem pairsU_yes {I C Dd : Addr} {s₁ : Shared} {oI oC oD : Obj} {y : Value} {h' : Heap} {tk : Nat} {add all : List (Addr × Obj)} {ys : List Value} {i : Nat} {k : Int} {d : Dat} (F : Fr h₀ L h' m) (N : News h₀ L h' all) (sub : ∀ p ∈ (I, oI) :: (C, oC) :: (Dd, oD) :: (news ++ own ++ add), p ∈ all) (off : LCg.Off3 I C Dd (news ++ own))
    (hadd : ∀ p ∈ add, p.1 ≠ I ∧ p.1 ≠ C ∧ p.1 ≠ Dd) (hS : S (news ++ own ++ add)) (hP : PairsIn (news ++ own) ys (kds.take i)) (hf : kds[i]? = some (k, d)) (hy : DatIn (news ++ own ++ add) y (.tuple [.int k, d])) :
    Held (LCg.CompEnd h₀ L m s₁ I oI C oC Dd oD S (fun y nw' => ∃ own, nw' = news ++ own ∧ PairsIn (news ++ own) (ys ++ [y]) (kds.take (i + 1))) y { s₁ with heap := h', toks := tk }) :=
  end_add F N sub off hadd hS ⟨own ++ add, List.append_assoc _ _ _, by
    rw [List.take_add_one, hf, ← List.append_assoc]
    exact hP.snoc (fun p hp => List.mem_append_left _ hp) hy⟩
theorem key_ints {vs : List Value} {kds : List (Int × Dat)} (h : IntsAre vs (kds.map (·.1))) {i : Nat} {k : Int} {d : Dat} {v : Value} (hk : kds[i]? = some (k, d)) (hv : vs.toArray[i]? = some v) : ∃ t, v = .int k t := by
  obtain ⟨n, t, rfl, e⟩ := IntsAre.at h i v (by simpa using hv)
  rw [List.getElem?_map, hk] at e
  exact ⟨t, by rw [← Option.some.inj e]⟩
end
section
variable {prog : Program} {w : World} {A : Around} {h₀ : Heap} {L : Addr} {m : Str → Option Value} {env : Env} {elt : PySem.Expr} {x : Str} {scope : Scope} {cl : List (Str × Addr)} {s : Shared}
  {S : List (Addr × Obj) → Prop} {P : Nat → Value → Prop} {Fin : List Value → List (Addr × Obj) → Prop} {news : List (Addr × Obj)} {n : Nat}
theorem rest_covs (dss : List (List Dat)) (hn : dss.length = n)
    (turn : ∀ i ds ys v I oI C oC D m₂ h tk (E' : Value → Shared → Prop), dss[i]? = some ds → DatAll news ys ((dss.take i).map Dat.tuple) → P i v → LCg.NsObj oC m₂ → m₂ x = some v → Fr h₀ L h m → News h₀ L h ((I, oI) :: (C, oC) :: (D, LCg.lst ys) :: news) → LCg.Off3 I C D news → ((@Ne Nat I C) ∧ (@Ne Nat I D) ∧ (@Ne Nat C D)) →
      wpAny (model prog w) A (eval elt (compEnvC scope cl C env)) (LCg.CompEnd h₀ L m { s with heap := h, toks := tk } I oI C oC D (LCg.lst ys) S (fun y nw' => nw' = news ∧ DatAll news (ys ++ [y]) ((dss.take (i + 1)).map Dat.tuple))) E' { s with heap := h, toks := tk })
    (fin : ∀ ys, DatAll news ys (dss.map Dat.tuple) → Fin ys news) : LCg.CompRest prog w A h₀ L m env elt x scope cl s S P Fin n 0 [] news :=
  rest_U (fun i ys nw => nw = news ∧ DatAll news ys ((dss.take i).map Dat.tuple)) ⟨rfl, .nil⟩ (fun i ys nw v I oI C oC D m₂ h tk E' hi hv hP hC hx F N off ne => by
    obtain ⟨rfl, hv⟩ := hv
    have hlt : i < dss.length := by omega
    exact turn i (dss[i]) ys v I oI C oC D m₂ h tk E' (List.getElem?_eq_getElem hlt) hv hP hC hx F N off ne) fun ys nw hv => by
    obtain ⟨rfl, hv⟩ := hv
    rw [List.take_of_length_le (by omega)] at hv
    exact fin ys hv
theorem covs_yes {I C Dd : Addr} {s₁ : Shared} {oI oC oD : Obj} {t : Addr} {qs : List Value} {h' : Heap} {tk : Nat} {ys : List Value} {i : Nat} {ds : List Dat} {dss : List (List Dat)} (F : Fr h₀ L h' m) (N : News h₀ L h' ((I, oI) :: (C, oC) :: (Dd, oD) :: news)) (off : LCg.Off3 I C Dd news)
    (hS : S news) (hP : DatAll news ys ((dss.take i).map Dat.tuple)) (hf : dss[i]? = some ds) (ht : (t, tupOf qs) ∈ news) (hq : DatAll news qs ds) :
    Held (LCg.CompEnd h₀ L m s₁ I oI C oC Dd oD S (fun y nw' => nw' = news ∧ DatAll news (ys ++ [y]) ((dss.take (i + 1)).map Dat.tuple)) (.ref t) { s₁ with heap := h', toks := tk }) :=
  LCg.CompEnd.intro F N news (fun p hp => hp) off hS ⟨rfl, by
    rw [List.take_add_one, hf, List.map_append]
    exact hP.append (.one (.tuple ht hq))⟩
theorem covs_at {nw : List (Addr × Obj)} : ∀ {vs : List Value} {dss : List (List Dat)}, CovsIn nw vs dss → ∀ {i : Nat} {ds : List Dat} {v : Value}, dss[i]? = some ds → vs[i]? = some v → CovIn nw v ds
  | _, _, .nil, i, ds, v, h, _ => by simp at h
  | _, _, .cons h r, 0, ds, v, e, f => by
    simp only [List.getElem?_cons_zero, Option.some.injEq] at e f
    subst e; subst f
    exact h
  | _, _, .cons h r, i + 1, ds, v, e, f => covs_at r (by simpa using e) (by simpa using f)
theorem covs_len {nw : List (Addr × Obj)} : ∀ {vs : List Value} {dss : List (List Dat)}, CovsIn nw vs dss → vs.length = dss.length
  | _, _, .nil => rfl
  | _, _, .cons _ r => by rw [List.length_cons, List.length_cons, covs_len r]
end
def pairsD (kds : List (Int × Dat)) : List Dat := kds.map fun p => Dat.tuple [.int p.1, p.2]
def toldD (D : List Int) : Dat := .tuple [.tuple (pairsD (upTo (fCls D) 8)), .tuple (pairsD (upTo (fHeld D) 4)), .tuple ((setsD D).map Dat.tuple), .tuple (pairsD (upTo (fPts D) 4)), .tuple (pairsD (upTo (fCar D) 5))]
theorem news_dup {h₀ h : Heap} {L : Addr} {news all : List (Addr × Obj)} (N : News h₀ L h all) (hs : ∀ p ∈ news, p ∈ all) : News h₀ L h (news ++ all) := fun p hp => (List.mem_append.mp hp).elim (fun h => N p (hs p h)) (N p)
theorem turn_perm {α : Type} (b : Bool) (l : List α) : (turn b l).Perm l := by
  cases b
  · exact List.Perm.refl _
  · exact List.reverse_perm _
theorem kv_lt {own : List (Addr × Obj)} {kvs : List (Int × Value)} {kds : List (Int × Dat)} {b : Bool} {n : Nat} (h : KvIn own kvs (turn b kds)) (hz : kds.length < n) : kvs.length < n := by
  have q := congrArg List.length h.1
  simp only [List.length_map, (turn_perm b kds).length_eq] at q
  omega
theorem turn_nodup {kds : List (Int × Dat)} (b : Bool) (hn : (kds.map (·.1)).Nodup) : ((turn b kds).map (·.1)).Nodup := ((turn_perm b kds).map _).nodup_iff.mpr hn
theorem mem_in {p : Addr × Obj} {l : List (Addr × Obj)} (h : p ∈ l) : List.Mem p l := h
/-! keys of a filtered range: rising -/
theorem keys_rise {f : Nat → Option (Int × Dat)} (h : ∀ k p, f k = some p → p.1 = (k : Int)) (n : Nat) : ((upTo f n).map (·.1)).Pairwise (· ≤ ·) := by
  have key : ∀ n, ((upTo f n).map (·.1)).Pairwise (· ≤ ·) ∧ ∀ x ∈ (upTo f n).map (·.1), x < (n : Int) := by
    intro n
    induction n with
    | zero => exact ⟨.nil, fun x hx => nomatch hx⟩
    | succ n ih =>
      cases hf : f n with
      | none =>
        rw [upTo_none hf]
        exact ⟨ih.1, fun x hx => Int.lt_trans (ih.2 x hx) (by omega)⟩
      | some p =>
        rw [upTo_some hf, List.map_append]
        have hp := h n p hf
        refine ⟨List.pairwise_append.mpr ⟨ih.1, by simp, ?_⟩, fun x hx => ?_⟩
        · intro a ha b hb
          simp only [List.map_cons, List.map_nil, List.mem_singleton] at hb
          have := ih.2 a ha
          omega
        · rcases List.mem_append.mp hx with hx | hx
          · have := ih.2 x hx; omega
          · simp only [List.map_cons, List.map_nil, List.mem_singleton] at hx; omega
  exact (key n).1
theorem kv_perm {own : List (Addr × Obj)} {kvs : List (Int × Value)} {kds : List (Int × Dat)} {b : Bool} (h : KvIn own kvs (turn b kds)) : (kvs.map (·.1)).Perm (kds.map (·.1)) := by
  rw [h.1]
  exact (turn_perm b kds).map _
/-- the value at a key that stands in the table -/
theorem kv_at {own : List (Addr × Obj)} : ∀ {kvs : List (Int × Value)} {kds : List (Int × Dat)}, KvIn own kvs kds → (kds.map (·.1)).Nodup → ∀ {k : Int} {d : Dat}, (k, d) ∈ kds → ∃ v, valueAt kvs k = some v ∧ DatIn own v d := by
  intro kvs
  induction kvs with
  | nil =>
    intro kds h hn k d hm
    have e := congrArg List.length h.1
    simp only [List.map_nil, List.length_nil, List.length_map] at e
    rw [List.eq_nil_of_length_eq_zero e.symm] at hm
    cases hm
  | cons kv kvs ih =>
    intro kds h hn k d hm
    cases kds with
    | nil => cases hm
    | cons kd kds =>
      obtain ⟨h1, h2⟩ := h
      simp only [List.map_cons, List.cons.injEq] at h1
      rw [List.map_cons, List.map_cons] at h2
      cases h2 with
      | cons hv hr =>
        rw [List.map_cons, List.nodup_cons] at hn
        rcases List.mem_cons.mp hm with e | hm
        · subst e
          refine ⟨kv.2, ?_, hv⟩
          unfold valueAt
          rw [List.find?_cons_of_pos (by simp [h1.1])]
          rfl
        · obtain ⟨v, e1, e2⟩ := ih ⟨h1.2, hr⟩ hn.2 hm
          refine ⟨v, ?_, e2⟩
          unfold valueAt at e1 ⊢
          rw [List.find?_cons_of_neg]
          · exact e1
          · have hk : k ∈ kds.map (·.1) := List.mem_map.mpr ⟨(k, d), hm, rfl⟩
            simp only [decide_eq_true_eq]
            intro e
            rw [h1.1] at e
            exact hn.1 (e ▸ hk)
end Mine
end
section
open PySem PySem.W PyProof.Rows PySem.Spec PySem.Calls
set_option linter.unusedVariables false
set_option pp.deepTerms false
set_option pp.proofs false
namespace Mine
local macro_rules | `(tactic| k_all) => `(tactic| first | with_reducible assumption | exact all_ne_lt (by assumption) | exact all_ne_lt (And.right (by assumption)) | exact all_ne_lt (And.right (And.right (by assumption))) | exact all_ne_lt (And.right (And.right (And.right (by assumption)))) | exact all_ne_lt (And.right (And.right (And.right (And.right (by assumption))))) | exact all_ne_lt (And.right (And.right (And.right (And.right (And.right (by assumption)))))) | exact all_ne_lt (And.right (And.right (And.right (And.right (And.right (And.right (by assumption))))))) | exact all_ne_lt (And.right (And.right (And.right (And.right (And.right (And.right (And.right (by assumption)))))))) | exact all_ne_lt (And.right (And.right (And.right (And.right (And.right (And.right (And.right (And.right (by assumption))))))))))
local macro_rules | `(tactic| k_mem) => `(tactic| first | with_reducible assumption | (refine mem_in ?_; with_reducible assumption) | (refine List.mem_append.mpr (Or.inl ?_); k_mem) | (refine List.mem_append.mpr (Or.inr ?_); k_mem))
local macro_rules | `(tactic| k_enter) => `(tactic| first
  | (refine' code_def ?k1 ?k2 ?k3 ?k4 ?k5 ?kA ?kF ?kK ?k6 ?k7 ?k8 ?k9 ?kB ?_ ?c2 ?c3 ?c4 ?c5; (case kA => exact rfl); (case kF => exact rfl); (case kK => first | exact rfl | assumption); (case k1 => k_asm); (case k2 => k_asm); (case k3 => k_asm); (case k4 => k_asm); (case k5 => k_asm); (case k6 => k_is); (case k7 => k_is); (case k8 => ktr_room); (case k9 => first | exact BindsTo.of_eq rfl | exact binds_K (by k_in) rfl (by k_is) rfl rfl rfl | fail "k_enter: no rule for these arguments"); (case c5 => decide); (case kB => exact locs rfl); (case c2 => exact rfl); (case c3 => exact rfl); (case c4 => exact rfl); k_whole; intro g' L' h' FG' F' N' B' X' T'; (try dsimp only); (try k_lift B'); (try k_fold))
  | (refine' code_defC ?k1 ?k2 ?k3 ?k4 ?k5 ?kA ?kF ?kK ?k6 ?k7 ?k8 ?k9 ?kB ?kD ?_ ?c2 ?c3 ?c4; (case kA => exact rfl); (case kF => exact rfl); (case kK => first | exact rfl | assumption); (case k1 => k_asm); (case k2 => k_asm); (case k3 => k_asm); (case k4 => k_asm); (case k5 => k_asm); (case k6 => k_is); (case k7 => k_is); (case k8 => ktr_room); (case k9 => first | exact BindsTo.of_eq rfl | exact binds_K (by k_in) rfl (by k_is) rfl rfl rfl | fail "k_enter: no rule for these arguments"); (case kB => exact rfl); (case kD => decide +kernel); (case c2 => exact rfl); (case c3 => exact rfl); (case c4 => exact rfl); k_whole; intro g' L' h' tk' cells' FG' F' N' Y' B' X' T' l1; (try k_lt l1); k_cells Y'; (try simp only [List.cons_append, List.nil_append] at N'); (try dsimp only); (try k_lift B'); (try k_fold)))
local macro_rules | `(tactic| walk_at "CompSrc") => `(tactic| with_reducible refine Held.out ?_)
local macro_rules | `(tactic| walk_at "CompSrcT") => `(tactic| with_reducible refine Held.out ?_)
local macro_rules | `(tactic| walk_at "CompEnd") => `(tactic| with_reducible refine Held.out ?_)
local macro_rules | `(tactic| l_idx) => `(tactic| with_reducible assumption)
local macro_rules | `(tactic| walk_at "call type:tuple") => `(tactic| (k_here; (with_reducible show wpAny _ _ (call (Value.type _) [Value.ref _]) _ _ _); k_dflt (refine' tup_of ?k1 ?k2 ?k3 ?k4 ?_; (case k1 => k_asm); (case k2 => k_asm); (case k3 => k_mem); (case k4 => with_reducible assumption); k_whole); intro D' h' F' N' l1; (try k_lt l1)))
local macro_rules | `(tactic| walk_at "call type:tuple") => `(tactic| (k_here; (with_reducible show wpAny _ _ (call (Value.type _) [Value.ref _]) _ _ _); k_dflt (refine' tup_range ?k0 ?k1 ?k2 ?k3 ?k4 ?k5 ?_; (case k0 => exact rfl); (case k1 => k_asm); (case k2 => k_asm); (case k3 => with_reducible assumption); (case k4 => with_reducible assumption); (case k5 => with_reducible assumption); k_whole); intro D' h' tk' vs' F' N' l1 hd'; (try k_lt l1)))
local macro_rules | `(tactic| walk_at "call type:tuple") => `(tactic| (k_here; (with_reducible show wpAny _ _ (call (Value.type _) [Value.ref _]) _ _ _); k_dflt (refine' call_tuple_tup ?k1 ?_; (case k1 => exact News.isTup (by k_asm) (by k_mem)); k_whole)))
local macro_rules | `(tactic| walk_at "eval ListComp") => `(tactic| (k_here; lcf_look; k_dflt (refine LCg.ListComp_U (F₀ := by k_asm) (by with_unfolding_all rfl) (by decide) (by rfl) (by decide) (by rfl) ?_)))
local macro_rules | `(tactic| k_get) => `(tactic| with_reducible assumption)
local macro_rules | `(tactic| walk_at "call builtin:sorted") => `(tactic| with_reducible refine Held.out ?_)
local macro_rules | `(tactic| walk_at "subscriptTail") => `(tactic| (k_here; (with_reducible show wpAny _ _ (subscriptTail _ _ (Value.ref _) (Value.int _ _)) _ _ _); k_dflt (refine' kda_item (knd := PySem.intKind _ _) ?N ?p ?d (intKind_is _ _ _ _) ?l ?_; (case N => k_asm); (case p => k_mem); (case d => with_reducible assumption); (case l => with_reducible assumption); k_whole)))
theorem fillTo : PySem.Challenge.rw_pb0159_01 = PySem.Challenge.rw_pb0159_01 ∧ (hd.heap_39 = hd.heap_39) := by
  w_top off
  k_fill
  exact ⟨rfl, rfl⟩
set_option maxRecDepth 100000 in
set_option maxHeartbeats 8000000 in
theorem cov_told {w : World} {mean : ExcName → Option Value} {mg mb : Str → Option Value}
  {dp un : Nat} {gd : Option (List Code)} {cn : Str} {cs : Scope} {a : Addr} {ccd : Value} {cl : List (Str × Addr)} {outer : List Env} {A₀ : Around} {base h₀ : Heap} {L : Addr} {m : Str → Option Value} {s : Shared} {Q E : Value → Shared → Prop}
  {v : Value} {ds : List Dat} {news own : List (Addr × Obj)}
  (B : Below A₀ base outer h₀) (F : Fr h₀ L s.heap m) (X : (hd.heap_39 w.params).In h₀) (N : News h₀ L s.heap news)
  (TT : Top hd.view_39 (looseW hd.view_39 []) mean mg mb h₀) (hk : cs.kind = .function)
  (hC : CovIn own v ds) (ho : ∀ p ∈ own, p ∈ news) (hd1 : dp + 20 < recursionLimit) (hu : un + 40 < cLine)
  (ret : ∀ t qs h' tk', Fr h₀ L h' m → News h₀ L h' news → (t, tupOf qs) ∈ own → DatAll own qs ds → Q (.ref t) { s with heap := h', toks := tk' }) :
  wpAny (model PySem.Challenge.rw_pb0159_01.row.prog w) (ktrTop dp un gd cn cs L a ccd cl outer) (call (.ref 151) [v]) Q E s := by
  obtain ⟨x, dx, es, nn, t, qs, rfl, h1, h2, h3, h4, h5, h6⟩ := hC
  have g1 := ho _ h1
  have g2 := ho _ h2
  have g5 := ho _ h5
  refine wpAny_call ?_
  k_dflt k_enter
  k_steps
  rename_i kF kN Tc kX
  exact ret t qs _ _ kF kN h5 h6
set_option maxRecDepth 100000 in
set_option maxHeartbeats 8000000 in
theorem cls_told {w : World} {mean : ExcName → Option Value} {mg mb : Str → Option Value}
  {dp un : Nat} {gd : Option (List Code)} {cn : Str} {cs : Scope} {a : Addr} {ccd : Value} {cl : List (Str × Addr)} {outer : List Env} {A₀ : Around} {base h₀ : Heap} {L : Addr} {m : Str → Option Value} {s : Shared} {Q E : Value → Shared → Prop}
  {v : Value} {kds : List (Int × Dat)} {b : Bool} {news own : List (Addr × Obj)}
  (B : Below A₀ base outer h₀) (F : Fr h₀ L s.heap m) (X : (hd.heap_39 w.params).In h₀) (N : News h₀ L s.heap news)
  (TT : Top hd.view_39 (looseW hd.view_39 []) mean mg mb h₀) (hk : cs.kind = .function)
  (hC : ClsIn PySem.Challenge.rw_pb0159_01.row.prog w own v (turn b kds)) (ho : ∀ p ∈ own, p ∈ news) (hn : (kds.map (·.1)).Nodup) (hS : (kds.map (·.1)).Pairwise (· ≤ ·)) (hz : kds.length < 64)
  (hd1 : dp + 20 < recursionLimit) (hu : un + 40 < cLine)
  (ret : ∀ t qs nw h' tk', Fr h₀ L h' m → News h₀ L h' (news ++ nw) → (t, tupOf qs) ∈ nw → PairsIn nw qs kds → Q (.ref t) { s with heap := h', toks := tk' }) :
  wpAny (model PySem.Challenge.rw_pb0159_01.row.prog w) (ktrTop dp un gd cn cs L a ccd cl outer) (call (.ref 109) [v]) Q E s := by
  obtain ⟨x, dx, es, nn, d, o, kvs, rfl, h1, h2, h3, h4, h5, h6, h7, h8⟩ := hC
  have g1 := ho _ h1
  have g2 := ho _ h2
  have g5 := ho _ h5
  refine wpAny_call ?_
  k_dflt k_enter
  k_steps
  rename_i g' L' h1 tk1 FG F1 B' X' T' l1 o1 d1 N1
  have hkl : kvs.length < 64 := by
    have q := congrArg List.length h7.1
    simp only [List.length_map, (turn_perm b kds).length_eq] at q
    omega
  have hn' : ((turn b kds).map (·.1)).Nodup := ((turn_perm b kds).map _).nodup_iff.mpr hn
  refine Held.mk ?_
  refine sorted_dict rfl F1 N1 (.tail _ g5) h6 h8 hkl (kv_perm h7) hS (fun S h2 tk2 vs' e F2 N2 hI l2 => ?_)
  have hvl : vs'.length = kds.length := by rw [hI.length, List.length_map]
  refine LCg.CompSrc.ledger (k := e) rfl F2 N2 (.head _) (by rw [List.size_toArray, sizeLine_eq]; omega) ?_
  intro g2
  refine rest_pairsU kds (by rw [List.size_toArray]; exact hvl.symm) ?_ ?_
  · intro i k d' ys ow v I oI Cc oC Dd m₂ h tk E' hik hP hv hC hx Fh Nh off ne
    obtain ⟨t, rfl⟩ := key_ints hI hik hv
    obtain ⟨vv, e1, e2⟩ := kv_at h7 hn' ((turn_perm b kds).mem_iff.mpr (List.mem_of_getElem? hik))
    simp only [List.cons_append] at Nh
    k_steps
    rename_i T3 h3 F3 N3 l3
    exact pairsU_yes (add := [_]) F3 N3 sub1 off (add1 l3.1 l3.2.1 l3.2.2.1) (.inr ⟨_, List.mem_append_left _ (List.mem_append_left _ (.head _)), rfl, _, rfl⟩) hP hik
      (.tuple (List.mem_append_right _ (.head _)) (.cons (.int _ _) (.one (e2.mono fun p hp => List.mem_append_left _ (List.mem_append_left _ (.tail _ (.tail _ (ho p hp))))))))
  · intro ys ow hP
    have hz3 : ys.length ≤ 16384 := by
      have q := DatAll.length hP
      rw [List.length_map] at q
      omega
    k_steps
    rename Fr h₀ L _ _ => kF
    rename News h₀ L _ _ => kN
    refine' ret _ ys _ _ _ kF (news_dup kN ?ga) ?gb ?gc
    (case gb => k_mem)
    (case ga => (intro p hp; k_mem))
    (case gc =>
      refine hP.mono fun p hp => ?_
      rcases List.mem_append.mp hp with hp | hp
      · rcases List.mem_cons.mp hp with rfl | hp
        · k_mem
        · rcases List.mem_cons.mp hp with rfl | hp
          · k_mem
          · k_mem
      · k_mem)
end Mine
end
section
open PySem PySem.W PyProof.Rows PySem.Spec PySem.Calls
set_option linter.unusedVariables false
set_option pp.deepTerms false
set_option pp.proofs false
namespace Mine
local macro_rules | `(tactic| k_all) => `(tactic| first | with_reducible assumption | exact all_ne_lt (by assumption) | exact all_ne_lt (And.right (by assumption)) | exact all_ne_lt (And.right (And.right (by assumption))) | exact all_ne_lt (And.right (And.right (And.right (by assumption)))) | exact all_ne_lt (And.right (And.right (And.right (And.right (by assumption))))) | exact all_ne_lt (And.right (And.right (And.right (And.right (And.right (by assumption)))))) | exact all_ne_lt (And.right (And.right (And.right (And.right (And.right (And.right (by assumption))))))) | exact all_ne_lt (And.right (And.right (And.right (And.right (And.right (And.right (And.right (by assumption)))))))) | exact all_ne_lt (And.right (And.right (And.right (And.right (And.right (And.right (And.right (And.right (by assumption))))))))))
local macro_rules | `(tactic| k_mem) => `(tactic| first | with_reducible assumption | (refine mem_in ?_; with_reducible assumption) | (refine List.mem_append.mpr (Or.inl ?_); k_mem) | (refine List.mem_append.mpr (Or.inr ?_); k_mem))
local macro_rules | `(tactic| k_enter) => `(tactic| first
  | (refine' code_def ?k1 ?k2 ?k3 ?k4 ?k5 ?kA ?kF ?kK ?k6 ?k7 ?k8 ?k9 ?kB ?_ ?c2 ?c3 ?c4 ?c5; (case kA => exact rfl); (case kF => exact rfl); (case kK => first | exact rfl | assumption); (case k1 => k_asm); (case k2 => k_asm); (case k3 => k_asm); (case k4 => k_asm); (case k5 => k_asm); (case k6 => k_is); (case k7 => k_is); (case k8 => ktr_room); (case k9 => first | exact BindsTo.of_eq rfl | exact binds_K (by k_in) rfl (by k_is) rfl rfl rfl | fail "k_enter: no rule for these arguments"); (case c5 => decide); (case kB => exact locs rfl); (case c2 => exact rfl); (case c3 => exact rfl); (case c4 => exact rfl); k_whole; intro g' L' h' FG' F' N' B' X' T'; (try dsimp only); (try k_lift B'); (try k_fold))
  | (refine' code_defC ?k1 ?k2 ?k3 ?k4 ?k5 ?kA ?kF ?kK ?k6 ?k7 ?k8 ?k9 ?kB ?kD ?_ ?c2 ?c3 ?c4; (case kA => exact rfl); (case kF => exact rfl); (case kK => first | exact rfl | assumption); (case k1 => k_asm); (case k2 => k_asm); (case k3 => k_asm); (case k4 => k_asm); (case k5 => k_asm); (case k6 => k_is); (case k7 => k_is); (case k8 => ktr_room); (case k9 => first | exact BindsTo.of_eq rfl | exact binds_K (by k_in) rfl (by k_is) rfl rfl rfl | fail "k_enter: no rule for these arguments"); (case kB => exact rfl); (case kD => decide +kernel); (case c2 => exact rfl); (case c3 => exact rfl); (case c4 => exact rfl); k_whole; intro g' L' h' tk' cells' FG' F' N' Y' B' X' T' l1; (try k_lt l1); k_cells Y'; (try simp only [List.cons_append, List.nil_append] at N'); (try dsimp only); (try k_lift B'); (try k_fold)))
local macro_rules | `(tactic| walk_at "CompSrc") => `(tactic| with_reducible refine Held.out ?_)
local macro_rules | `(tactic| walk_at "CompSrcT") => `(tactic| with_reducible refine Held.out ?_)
local macro_rules | `(tactic| walk_at "CompEnd") => `(tactic| with_reducible refine Held.out ?_)
local macro_rules | `(tactic| l_idx) => `(tactic| with_reducible assumption)
local macro_rules | `(tactic| walk_at "call type:tuple") => `(tactic| (k_here; (with_reducible show wpAny _ _ (call (Value.type _) [Value.ref _]) _ _ _); k_dflt (refine' tup_of ?k1 ?k2 ?k3 ?k4 ?_; (case k1 => k_asm); (case k2 => k_asm); (case k3 => k_mem); (case k4 => with_reducible assumption); k_whole); intro D' h' F' N' l1; (try k_lt l1)))
local macro_rules | `(tactic| walk_at "call type:tuple") => `(tactic| (k_here; (with_reducible show wpAny _ _ (call (Value.type _) [Value.ref _]) _ _ _); k_dflt (refine' tup_range ?k0 ?k1 ?k2 ?k3 ?k4 ?k5 ?_; (case k0 => exact rfl); (case k1 => k_asm); (case k2 => k_asm); (case k3 => with_reducible assumption); (case k4 => with_reducible assumption); (case k5 => with_reducible assumption); k_whole); intro D' h' tk' vs' F' N' l1 hd'; (try k_lt l1)))
local macro_rules | `(tactic| walk_at "call type:tuple") => `(tactic| (k_here; (with_reducible show wpAny _ _ (call (Value.type _) [Value.ref _]) _ _ _); k_dflt (refine' call_tuple_tup ?k1 ?_; (case k1 => exact News.isTup (by k_asm) (by k_mem)); k_whole)))
local macro_rules | `(tactic| walk_at "eval ListComp") => `(tactic| (k_here; lcf_look; k_dflt (refine LCg.ListComp_U (F₀ := by k_asm) (by with_unfolding_all rfl) (by decide) (by rfl) (by decide) (by rfl) ?_)))
local macro_rules | `(tactic| k_get) => `(tactic| with_reducible assumption)
local macro_rules | `(tactic| walk_at "call builtin:sorted") => `(tactic| with_reducible refine Held.out ?_)
local macro_rules | `(tactic| walk_at "subscriptTail") => `(tactic| (k_here; (with_reducible show wpAny _ _ (subscriptTail _ _ (Value.ref _) (Value.int _ _)) _ _ _); k_dflt (refine' kda_item (knd := PySem.intKind _ _) ?N ?p ?d (intKind_is _ _ _ _) ?l ?_; (case N => k_asm); (case p => k_mem); (case d => with_reducible assumption); (case l => with_reducible assumption); k_whole)))
local macro_rules | `(tactic| walk_at "call ref") => `(tactic| (k_here; (with_reducible show wpAny _ _ (call (Value.ref 109) _) _ _ _); k_dflt (refine' cls_told ?B ?F ?X ?N ?TT ?hk ?hC ?ho ?hn ?hS ?hz ?hd1 ?hu ?_; (case B => k_asm); (case F => k_asm); (case X => k_asm); (case N => k_asm); (case TT => k_asm); (case hk => first | exact rfl | assumption); (case hC => with_reducible assumption); (case ho => (intro p9 h9; k_mem)); (case hn => with_reducible assumption); (case hS => with_reducible assumption); (case hz => with_reducible assumption); (case hd1 => ktr_room); (case hu => ktr_units); k_whole; intro t' qs' ow' h' tk' F' N' ht' hp'; (try simp only [List.cons_append] at N'); (try dsimp only))))
local macro_rules | `(tactic| walk_at "call ref") => `(tactic| (k_here; (with_reducible show wpAny _ _ (call (Value.ref 151) _) _ _ _); k_dflt (refine' cov_told ?B ?F ?X ?N ?TT ?hk ?hC ?ho ?hd1 ?hu ?_; (case B => k_asm); (case F => k_asm); (case X => k_asm); (case N => k_asm); (case TT => k_asm); (case hk => first | exact rfl | assumption); (case hC => with_reducible assumption); (case ho => (intro p9 h9; k_mem)); (case hd1 => ktr_room); (case hu => ktr_units); k_whole; intro t' qs' h' tk' F' N' ht' hp'; (try dsimp only))))
theorem fillTg : PySem.Challenge.rw_pb0159_01 = PySem.Challenge.rw_pb0159_01 ∧ (hd.heap_39 = hd.heap_39) := by
  w_top off
  k_fill
  exact ⟨rfl, rfl⟩
set_option maxRecDepth 100000 in
set_option maxHeartbeats 8000000 in
theorem gdef_told {w : World} {mean : ExcName → Option Value} {mg mb : Str → Option Value}
  {dp un : Nat} {gd : Option (List Code)} {cn : Str} {cs : Scope} {a : Addr} {ccd : Value} {cl : List (Str × Addr)} {outer : List Env} {A₀ : Around} {base h₀ : Heap} {L : Addr} {m : Str → Option Value} {s : Shared} {Q E : Value → Shared → Prop}
  {v : Value} {D : List Int} {b : Bool} {news own : List (Addr × Obj)}
  (B : Below A₀ base outer h₀) (F : Fr h₀ L s.heap m) (X : (hd.heap_39 w.params).In h₀) (N : News h₀ L s.heap news)
  (TT : Top hd.view_39 (looseW hd.view_39 []) mean mg mb h₀) (hk : cs.kind = .function)
  (hG : GdefIn PySem.Challenge.rw_pb0159_01.row.prog w own v D b) (ho : ∀ p ∈ own, p ∈ news)
  (hd1 : dp + 40 < recursionLimit) (hu : un + 80 < cLine)
  (ret : ∀ v' nw h' tk', Fr h₀ L h' m → News h₀ L h' (news ++ nw) → DatIn nw v' (toldD D) → Q v' { s with heap := h', toks := tk' }) :
  wpAny (model PySem.Challenge.rw_pb0159_01.row.prog w) (ktrTop dp un gd cn cs L a ccd cl outer) (call (.ref 62) [v]) Q E s := by
  obtain ⟨x, dx, es, nn, vc, va, sl, pl, kl, svs, ns, op, kvp, oc, kvc, rfl, h1, h2, h3, h4, h5, h6, h7, h8, c1, c2, h9, c3, h10, c4, c5, h11, c6, c7, c8, c9⟩ := hG
  have g1 := ho _ h1
  have g2 := ho _ h2
  have g9 := ho _ h9
  have g10 := ho _ h10
  have g11 := ho _ h11
  have e1 := c1.mono ho
  have e2 := c2.mono ho
  have e3 := c3.mono ho
  have e5 := c5.mono ho
  have e7 := c7.mono ho
  clear c1 c2 c3 c5 c7 h1 h2 h9 h10 h11
  obtain ⟨xc, dxc, esc, nnc, dcc, occ, kvcc, rfl, m1, m2, m3, m4, _⟩ := id e1
  obtain ⟨xa, dxa, esa, nna, dca, oca, kvca, rfl, n1, n2, n3, n4, _⟩ := id e2
  have q1 := keys_nodup (f := fCls D) key_cls 8
  have q2 := keys_nodup (f := fHeld D) key_held 4
  have q3 := keys_nodup (f := fPts D) key_pts 4
  have q4 := keys_nodup (f := fCar D) key_car 5
  have z1 : (upTo (fCls D) 8).length < 64 := Nat.lt_of_le_of_lt (upTo_len _ _) (by omega)
  have z2 : (upTo (fHeld D) 4).length < 64 := Nat.lt_of_le_of_lt (upTo_len _ _) (by omega)
  have r1 := keys_rise (f := fCls D) key_cls 8
  have r2 := keys_rise (f := fHeld D) key_held 4
  have r3 := keys_rise (f := fPts D) key_pts 4
  have r4 := keys_rise (f := fCar D) key_car 5
  refine wpAny_call ?_
  k_dflt k_enter
  k_steps
  rename_i g' L' h1 tk1 FG F1 B' X' T' l1 o1 d1 N1
  refine Held.mk ?_
  refine sorted_dict rfl F1 N1 (.tail _ g10) c4 c8 (kv_lt e5 (Nat.lt_of_le_of_lt (upTo_len _ _) (by omega : 4 < 64))) (kv_perm e5) r3 (fun S h2 tk2 vs' e F2 N2 hI l2 => ?_)
  have hvl : vs'.length = (upTo (fPts D) 4).length := by rw [hI.length, List.length_map]
  have hv4 : vs'.length ≤ 4 := by rw [hvl]; exact upTo_len _ _
  refine LCg.CompSrc.ledger (k := e) rfl F2 N2 (.head _) (by rw [List.size_toArray, sizeLine_eq]; omega) ?_
  intro g2
  refine rest_pairsU (upTo (fPts D) 4) (by rw [List.size_toArray]; exact hvl.symm) ?_ ?_
  · intro i k d' ys ow v I oI Cc oC Dd m₂ h tk E' hik hP hv hC hx Fh Nh off ne
    obtain ⟨t, rfl⟩ := key_ints hI hik hv
    obtain ⟨vv, u1, u2⟩ := kv_at e5 (turn_nodup b q3) ((turn_perm b _).mem_iff.mpr (List.mem_of_getElem? hik))
    simp only [List.cons_append] at Nh
    k_steps
    rename_i T3 h3 F3 N3 l3
    exact pairsU_yes (add := [_]) F3 N3 sub1 off (add1 l3.1 l3.2.1 l3.2.2.1) (.inr ⟨_, List.mem_append_left _ (List.mem_append_left _ (.head _)), rfl, _, rfl⟩) hP hik
      (.tuple (List.mem_append_right _ (.head _)) (.cons (.int _ _) (.one (u2.mono fun p hp => List.mem_append_left _ (List.mem_append_left _ (.tail _ (.tail _ hp)))))))
  · intro ys ow hP
    have hz3 : ys.length ≤ 16384 := by
      have q := DatAll.length hP
      rw [List.length_map] at q
      omega
    k_steps
    rename_i D5 h5 tk5 o5 T5 h6 l6 h7 F7 N7
    refine Held.mk ?_
    refine sorted_dict rfl F7 N7 (by k_mem) c6 c9 (kv_lt e7 (Nat.lt_of_le_of_lt (upTo_len _ _) (by omega : 5 < 64))) (kv_perm e7) r4 (fun S8 h8 tk8 vs8 e8 F8 N8 hI8 l8 => ?_)
    have hvl8 : vs8.length = (upTo (fCar D) 5).length := by rw [hI8.length, List.length_map]
    have hv5 : vs8.length ≤ 5 := by rw [hvl8]; exact upTo_len _ _
    refine LCg.CompSrc.ledger (k := e8) rfl F8 N8 (.head _) (by rw [List.size_toArray, sizeLine_eq]; omega) ?_
    intro g8
    refine rest_pairsU (upTo (fCar D) 5) (by rw [List.size_toArray]; exact hvl8.symm) ?_ ?_
    · intro i k d' zs ow v I oI Cc oC Dd m₂ h tk E' hik hP hv hC hx Fh Nh off ne
      obtain ⟨t, rfl⟩ := key_ints hI8 hik hv
      obtain ⟨vv, u1, u2⟩ := kv_at e7 (turn_nodup b q4) ((turn_perm b _).mem_iff.mpr (List.mem_of_getElem? hik))
      simp only [List.cons_append] at Nh
      k_steps
      rename_i T3 h3 F3 N3 l3
      refine pairsU_yes (add := [_]) F3 N3 sub1 off (add1 l3.1 l3.2.1 l3.2.2.1) (.inr ⟨_, List.mem_append_left _ (List.mem_append_left _ (.head _)), rfl, _, rfl⟩) hP hik
        (.tuple (List.mem_append_right _ (.head _)) (.cons (.int _ _) (.one (u2.mono fun p hp => List.mem_append_left _ (List.mem_append_left _ ?_)))))
      k_mem
    · intro zs ow8 hP8
      have hz8 : zs.length ≤ 16384 := by
        have q := DatAll.length hP8
        rw [List.length_map] at q
        omega
      k_steps
      rename Fr g' L' _ _ => F9
      rename News g' L' _ _ => N9
      have hsl : svs.length = (setsD D).length := covs_len e3
      have hsd : (setsD D).length ≤ 2 := by
        unfold setsD
        split <;> simp
      refine Held.mk ?_
      refine LCg.CompSrc.ledger (k := ns) rfl F9 N9 (by k_mem) (by rw [List.size_toArray, sizeLine_eq]; omega) ?_
      intro g9
      refine rest_covs (setsD D) (by rw [List.size_toArray]; exact hsl.symm) ?_ ?_
      · intro i ds us v I oI Cc oC Dd m₂ h tk E' hik hP hv hC hx Fh Nh off ne
        have cv := covs_at e3 hik (by simpa using hv)
        obtain ⟨x9, dx9, es9, nn9, t9, qs9, rfl, y1, y2, y3, y4, _⟩ := id cv
        k_steps
        rename_i t3 qs3 h3 tk3 F3 N3 ht3 hp3
        refine covs_yes F3 N3 off (.inr ⟨listOf svs.toArray ns, ?_, rfl, _, rfl⟩) hP hik ?_ (hp3.mono fun p hp => ?_)
        · k_mem
        · k_mem
        · k_mem
      · intro us hP9
        have hz9 : us.length ≤ 16384 := by
          have q := DatAll.length hP9
          rw [List.length_map] at q
          omega
        k_steps
        rename Fr h₀ L _ _ => kF
        rename News h₀ L _ _ => kN
        refine' ret _ _ _ _ kF (news_dup kN ?ga) (.tuple ?gb (.cons (.tuple ?gc ?gd) (.cons (.tuple ?ge ?gf) (.cons (.tuple ?gg ?gh) (.cons (.tuple ?gi ?gj) (.one (.tuple ?gk ?gl)))))))
        (case ga => (intro p hp; k_mem))
        (case gb => k_mem)
        (case gc => k_mem)
        (case ge => k_mem)
        (case gg => k_mem)
        (case gi => k_mem)
        (case gk => k_mem)
        (case gd => exact PairsIn.mono (by assumption) (fun p hp => by k_mem))
        (case gf => exact PairsIn.mono (by assumption) (fun p hp => by k_mem))
        (case gh =>
          exact DatAll.mono (fun p hp => List.Mem.tail _ (List.Mem.tail _ (List.Mem.tail _ hp))) hP9)
        (case gj =>
          refine DatAll.mono (fun p hp => ?_) hP
          rcases List.mem_append.mp hp with hp | hp
          · rcases List.mem_cons.mp hp with rfl | hp
            · k_mem
            · rcases List.mem_cons.mp hp with rfl | hp
              · k_mem
              · k_mem
          · k_mem)
        (case gl =>
          refine DatAll.mono (fun p hp => ?_) hP8
          rcases List.mem_append.mp hp with hp | hp
          · rcases List.mem_cons.mp hp with rfl | hp
            · k_mem
            · rcases List.mem_cons.mp hp with rfl | hp
              · k_mem
              · rcases List.mem_cons.mp hp with rfl | hp
                · k_mem
                · rcases List.mem_cons.mp hp with rfl | hp
                  · k_mem
                  · rcases List.mem_cons.mp hp with rfl | hp
                    · k_mem
                    · k_mem
          · k_mem)
end Mine
end
section
open PySem PySem.W PyProof.Rows PySem.Spec PySem.Calls
set_option linter.unusedVariables false
set_option pp.deepTerms false
set_option pp.proofs false
namespace Mine
local macro_rules | `(tactic| k_all) => `(tactic| first | with_reducible assumption | exact all_ne_lt (by assumption) | exact all_ne_lt (And.right (by assumption)) | exact all_ne_lt (And.right (And.right (by assumption))) | exact all_ne_lt (And.right (And.right (And.right (by assumption)))) | exact all_ne_lt (And.right (And.right (And.right (And.right (by assumption))))) | exact all_ne_lt (And.right (And.right (And.right (And.right (And.right (by assumption)))))) | exact all_ne_lt (And.right (And.right (And.right (And.right (And.right (And.right (by assumption))))))) | exact all_ne_lt (And.right (And.right (And.right (And.right (And.right (And.right (And.right (by assumption)))))))) | exact all_ne_lt (And.right (And.right (And.right (And.right (And.right (And.right (And.right (And.right (by assumption))))))))))
local macro_rules | `(tactic| k_mem) => `(tactic| first | with_reducible assumption | (refine mem_in ?_; with_reducible assumption) | (refine List.mem_append.mpr (Or.inl ?_); k_mem) | (refine List.mem_append.mpr (Or.inr ?_); k_mem))
local macro_rules | `(tactic| k_enter) => `(tactic| first
  | (refine' code_def ?k1 ?k2 ?k3 ?k4 ?k5 ?kA ?kF ?kK ?k6 ?k7 ?k8 ?k9 ?kB ?_ ?c2 ?c3 ?c4 ?c5; (case kA => exact rfl); (case kF => exact rfl); (case kK => first | exact rfl | assumption); (case k1 => k_asm); (case k2 => k_asm); (case k3 => k_asm); (case k4 => k_asm); (case k5 => k_asm); (case k6 => k_is); (case k7 => k_is); (case k8 => ktr_room); (case k9 => first | exact BindsTo.of_eq rfl | exact binds_K (by k_in) rfl (by k_is) rfl rfl rfl | fail "k_enter: no rule for these arguments"); (case c5 => decide); (case kB => exact locs rfl); (case c2 => exact rfl); (case c3 => exact rfl); (case c4 => exact rfl); k_whole; intro g' L' h' FG' F' N' B' X' T'; (try dsimp only); (try k_lift B'); (try k_fold))
  | (refine' code_defC ?k1 ?k2 ?k3 ?k4 ?k5 ?kA ?kF ?kK ?k6 ?k7 ?k8 ?k9 ?kB ?kD ?_ ?c2 ?c3 ?c4; (case kA => exact rfl); (case kF => exact rfl); (case kK => first | exact rfl | assumption); (case k1 => k_asm); (case k2 => k_asm); (case k3 => k_asm); (case k4 => k_asm); (case k5 => k_asm); (case k6 => k_is); (case k7 => k_is); (case k8 => ktr_room); (case k9 => first | exact BindsTo.of_eq rfl | exact binds_K (by k_in) rfl (by k_is) rfl rfl rfl | fail "k_enter: no rule for these arguments"); (case kB => exact rfl); (case kD => decide +kernel); (case c2 => exact rfl); (case c3 => exact rfl); (case c4 => exact rfl); k_whole; intro g' L' h' tk' cells' FG' F' N' Y' B' X' T' l1; (try k_lt l1); k_cells Y'; (try simp only [List.cons_append, List.nil_append] at N'); (try dsimp only); (try k_lift B'); (try k_fold)))
local macro_rules | `(tactic| l_idx) => `(tactic| with_reducible assumption)
local macro_rules | `(tactic| k_get) => `(tactic| with_reducible assumption)
local macro_rules | `(tactic| walk_at "RangeRest") => `(tactic| with_reducible refine Held.out ?_)
local macro_rules | `(tactic| l_idx) => `(tactic| first | with_reducible assumption | omega)
local macro_rules | `(tactic| size_fits) => `(tactic| with_reducible assumption)
local macro_rules | `(tactic| walk_at "UnrEnd") => `(tactic| with_reducible refine Held.out ?_)
theorem fillMe : PySem.Challenge.rw_pb0159_01 = PySem.Challenge.rw_pb0159_01 ∧ (hd.heap_39 = hd.heap_39) := by
  w_top off
  k_fill
  exact ⟨rfl, rfl⟩
section
variable {prog : Program} {w : World} {A : Around} {E : Value → Shared → Prop} {s : Shared} {env : Env} {h₀ : Heap} {x : Str} {body : List Stmt} {Q : Flow → Shared → Prop} {I : Addr} {a : Int} {n : Nat} {m : Str → Option Value} {news : List (Addr × Obj)}
def IntMid (X : Int) (s : Shared) (v : Value) (s' : Shared) : Prop := ∃ tk t, s' = { s with toks := tk } ∧ v = .int X t
def BoolMid (b : Bool) (s : Shared) (v : Value) (s' : Shared) : Prop := ∃ tk, s' = { s with toks := tk } ∧ v = .bool b
theorem mid_int {Q : Value → Shared → Prop} {M : Model} {x : Sem Value} (X : Int) (h : wpAny M A x (IntMid X s) E s) (k : ∀ tk t, Q (.int X t) { s with toks := tk }) : wpAny M A x Q E s :=
  wpAny_mono h (fun v s' hq => by obtain ⟨tk, t, rfl, rfl⟩ := hq; exact k tk t) fun _ _ e => e
theorem mid_bool {Q : Value → Shared → Prop} {M : Model} {x : Sem Value} (b : Bool) (h : wpAny M A x (BoolMid b s) E s) (k : ∀ tk, Q (.bool b) { s with toks := tk }) : wpAny M A x Q E s :=
  wpAny_mono h (fun v s' hq => by obtain ⟨tk, rfl, rfl⟩ := hq; exact k tk) fun _ _ e => e
theorem int_end {X Y : Int} {t : Tok} {s s' : Shared} (h : Y = X) (hs : s' = { s with toks := s'.toks }) : IntMid X s (.int Y t) s' := ⟨s'.toks, t, hs, by rw [h]⟩
theorem bool_end {X Y : Bool} {s s' : Shared} (h : Y = X) (hs : s' = { s with toks := s'.toks }) : BoolMid X s (.bool Y) s' := ⟨s'.toks, hs, by rw [h]⟩
theorem range_rest (z : Str) (IV : Nat → List (Addr × Obj) → Prop) (h0 : IV 0 news)
    (turn : ∀ i r nw t h tk, i < n → IV i nw → Fr h₀ env.locals h (fun y => if y = x then some (.int (a + (i : Int)) t) else if y = z then r else m y) → News h₀ env.locals h ((I, itR (a + ((i + 1 : Nat) : Int)) ((n : Int) - ((i + 1 : Nat) : Int))) :: nw) →
      wpAny (model prog w) A (execs body env) (UnrPost h₀ env.locals { s with heap := h, toks := tk } I (itR (a + ((i + 1 : Nat) : Int)) ((n : Int) - ((i + 1 : Nat) : Int))) (fun m' nw' => (∀ y, y ≠ x → y ≠ z → m' y = m y) ∧ IV (i + 1) nw') Q) E { s with heap := h, toks := tk })
    (fin : ∀ k r nw h tk, IV n nw → Fr h₀ env.locals h (fun y => if y = x then k else if y = z then r else m y) → News h₀ env.locals h nw → Q .next { s with heap := h, toks := tk }) :
    RangeRest prog w A E h₀ env x body Q s I a n n 0 m news := by
  have key : ∀ (j i : Nat) (m₁ : Str → Option Value) (nw : List (Addr × Obj)), i + j = n → (∀ y, y ≠ x → y ≠ z → m₁ y = m y) → IV i nw → RangeRest prog w A E h₀ env x body Q s I a n j i m₁ nw := by
    intro j
    induction j with
    | zero =>
      intro i m₁ nw hi hm hv
      have e : i = n := by omega
      subst e
      refine RangeRest.zero fun h tk F N => fin (m₁ x) (m₁ z) nw h tk hv ?_ N
      have e : (fun y => if y = x then m₁ x else if y = z then m₁ z else m y) = m₁ := by
        funext y
        by_cases h1 : y = x
        · rw [if_pos h1, h1]
        · rw [if_neg h1]
          by_cases h2 : y = z
          · rw [if_pos h2, h2]
          · rw [if_neg h2, hm y h1 h2]
      rw [e]; exact F
    | succ j ih =>
      intro i m₁ nw hi hm hv
      refine RangeRest.succ fun t h tk F N => ?_
      have e : (fun y => if y = x then some (Value.int (a + (i : Int)) t) else m₁ y) = fun y => if y = x then some (Value.int (a + (i : Int)) t) else if y = z then m₁ z else m y := by
        funext y
        by_cases h1 : y = x
        · rw [if_pos h1, if_pos h1]
        · rw [if_neg h1, if_neg h1]
          by_cases h2 : y = z
          · rw [if_pos h2, h2]
          · rw [if_neg h2, hm y h1 h2]
      rw [e] at F
      refine wpAny_mono (turn i _ nw t h tk (by omega) hv F N) (fun f s₂ p => ?_) fun _ _ e => e
      have step : UnrEnd h₀ env.locals { s with heap := h, toks := tk } I (itR (a + ((i + 1 : Nat) : Int)) ((n : Int) - ((i + 1 : Nat) : Int))) (fun m' nw' => (∀ y, y ≠ x → y ≠ z → m' y = m y) ∧ IV (i + 1) nw') s₂ →
          UnrEnd h₀ env.locals { s with heap := h, toks := tk } I (itR (a + ((i + 1 : Nat) : Int)) ((n : Int) - ((i + 1 : Nat) : Int))) (RangeRest prog w A E h₀ env x body Q s I a n j (i + 1)) s₂ := by
        rintro ⟨h', tk', m', nw', e, F', N', off, h1, h2⟩
        exact ⟨h', tk', m', nw', e, F', N', off, ih (i + 1) m' nw' (by omega) h1 h2⟩
      cases f with
      | ret v => exact p
      | brk => exact p
      | next => exact step p
      | cont => exact step p
  exact key n 0 m news (by omega) (fun _ _ _ => rfl) h0
end
local macro_rules | `(tactic| walk_at "eval IfExp") => `(tactic| ((fail_if_success (with_reducible show wpAny _ _ _ (IntMid _ _) _ _)); with_reducible refine Held.out ?_))
local macro_rules | `(tactic| walk_at "eval BoolOp") => `(tactic| ((fail_if_success (with_reducible show wpAny _ _ _ (BoolMid _ _) _ _)); with_reducible refine Held.out ?_))
def rowD (D : List Int) (k : Nat) : Dat := .list [.int (D.getD k 0), .int (if k < 4 then D.getD (8 + k) 0 else 0), .bool ((k : Int).fmod 3 == (D.getD 12 0).fmod 3), .bool (decide (D.getD 13 0 > 2 ∧ (k : Int) > D.getD 14 0)), .int (if k < 4 ∧ D.getD (15 + k) 0 > 3 then D.getD (15 + k) 0 else -1), .int (if k < 5 ∧ D.getD (19 + k) 0 > 2 then D.getD (19 + k) 0 else -1)]
def rowsD (D : List Int) (n : Nat) : List Dat := (List.range n).map (rowD D)
def meantD (D : List Int) : Dat := .list [.bool (decide (D.getD 13 0 > 2)), .list (rowsD D 8)]
theorem meant_turn {g' : Heap} {L' : Addr} {s₁ : Shared} {h' : Heap} {tk : Nat} {I T R : Addr} {it : Obj} {ys : List Value} {nn nr : Nat} {news tl : List (Addr × Obj)} {D : List Int} {i : Nat} {mm m : Str → Option Value} {x z : Str} {a b c d e f : Value} {ds : List Dat}
  (F : Fr g' L' h' mm) (N : News g' L' h' ((T, listOf (((#[a, b, c].push d).push e).push f) nr) :: (I, it) :: (R, listOf (ys.toArray.push (.ref T)) (nn + 1)) :: (news ++ tl)))
  (hI : (@LT.lt Nat _ I T)) (hR : (@LT.lt Nat _ R T)) (hRI : @LT.lt Nat _ R I) (hnI : ∀ p ∈ news, p.1 ≠ I) (o1 : ∀ p ∈ tl, p.1 ≠ R) (o2 : ∀ p ∈ tl, p.1 ≠ I) (hP : DatAll (news ++ tl) ys (rowsD D i))
  (hm : ∀ y, y ≠ x → y ≠ z → mm y = m y) (hrow : DatAll [] [a, b, c, d, e, f] ds) (hd : rowD D i = .list ds) :
  Held (UnrEnd g' L' s₁ I it (fun m' nw' => (∀ y, y ≠ x → y ≠ z → m' y = m y) ∧ ∃ ys nn tl, nw' = (R, listOf (List.toArray ys) nn) :: (news ++ tl) ∧ (∀ p ∈ tl, p.1 ≠ R) ∧ (∀ p ∈ tl, p.1 ≠ I) ∧ DatAll (news ++ tl) ys (rowsD D (i + 1))) { s₁ with heap := h', toks := tk }) := by
  have e1 : ys.toArray.push (Value.ref T) = (ys ++ [Value.ref T]).toArray := by simp
  rw [e1] at N
  have hT : (T, listOf (List.toArray [a, b, c, d, e, f]) nr) ∈ news ++ (tl ++ [(T, listOf (((#[a, b, c].push d).push e).push f) nr)]) := List.mem_append_right _ (List.mem_append_right _ (.head _))
  refine UnrEnd.intro F N ((R, listOf (List.toArray (ys ++ [.ref T])) (nn + 1)) :: (news ++ (tl ++ [(T, listOf (((#[a, b, c].push d).push e).push f) nr)]))) ?_ ?_ ⟨hm, _, _, tl ++ [_], rfl, ?_, ?_, ?_⟩
  · intro p hp
    simp only [List.mem_cons, List.mem_append, List.not_mem_nil, or_false] at hp ⊢
    rcases hp with h | h | h | h | h
    · exact .inr (.inl h)
    · exact .inr (.inr (.inl h))
    · exact .inr (.inr (.inr (.inl h)))
    · exact .inr (.inr (.inr (.inr h)))
    · exact .inl h
  · intro p hp
    simp only [List.mem_cons, List.mem_append, List.not_mem_nil, or_false] at hp
    rcases hp with h | h | h | h
    · rw [h]; exact Nat.ne_of_lt hRI
    · exact hnI p h
    · exact o2 p h
    · rw [h]; exact Nat.ne_of_gt hI
  · intro p hp
    simp only [List.mem_cons, List.mem_append, List.not_mem_nil, or_false] at hp
    rcases hp with h | h
    · exact o1 p h
    · rw [h]; exact Nat.ne_of_gt hR
  · intro p hp
    simp only [List.mem_cons, List.mem_append, List.not_mem_nil, or_false] at hp
    rcases hp with h | h
    · exact o2 p h
    · rw [h]; exact Nat.ne_of_gt hI
  · have e2 : rowsD D (i + 1) = rowsD D i ++ [rowD D i] := by
      unfold rowsD
      rw [List.range_succ, List.map_append]
      rfl
    rw [e2, hd]
    refine DatAll.append (hP.mono fun p hp => ?_) (.one (.list hT (DatAll.mono (news := []) (fun p hp => absurd hp List.not_mem_nil) hrow)))
    rcases List.mem_append.mp hp with h | h
    · exact List.mem_append_left _ h
    · exact List.mem_append_right _ (List.mem_append_left _ h)
set_option maxRecDepth 100000 in
set_option maxHeartbeats 8000000 in
theorem meant_spec {w : World} {mean : ExcName → Option Value} {mg mb : Str → Option Value}
  {dp un : Nat} {gd : Option (List Code)} {cn : Str} {cs : Scope} {a : Addr} {ccd : Value} {cl : List (Str × Addr)} {outer : List Env} {A₀ : Around} {base h₀ : Heap} {L : Addr} {m : Str → Option Value} {s : Shared} {Q E : Value → Shared → Prop}
  {dl : Addr} {dvs : List Value} {D : List Int} {n : Nat} {news : List (Addr × Obj)}
  (B : Below A₀ base outer h₀) (F : Fr h₀ L s.heap m) (X : (hd.heap_39 w.params).In h₀) (N : News h₀ L s.heap news)
  (TT : Top hd.view_39 (looseW hd.view_39 []) mean mg mb h₀) (hk : cs.kind = .function)
  (hdl : (dl, listOf dvs.toArray n) ∈ news) (hi : IntsAre dvs D) (hlen : D.length = 24) (hb : ∀ d ∈ D, 0 ≤ d ∧ d < 6)
  (hd1 : dp + 40 < recursionLimit) (hu : un + 80 < cLine)
  (ret : ∀ v nw h' tk', Fr h₀ L h' m → News h₀ L h' nw → (∀ p ∈ news, p ∈ nw) → DatIn nw v (meantD D) → Q v { s with heap := h', toks := tk' }) :
  wpAny (model PySem.Challenge.rw_pb0159_01.row.prog w) (ktrTop dp un gd cn cs L a ccd cl outer) (call (.ref 189) [.ref dl]) Q E s := by
  refine wpAny_call ?_
  k_dflt k_enter
  k_steps
  rename_i g' L' h3 FG B' X' T' tk1 R h2 lR h1 F1 N1 h4 tk3 t1 u1 v1 r1 a0 I lI
  refine Held.mk ?_
  refine range_rest (Str.ofString "row") (fun i nw => ∃ ys nn tl, nw = (R, listOf (List.toArray ys) nn) :: (news ++ tl) ∧ (∀ p ∈ tl, p.1 ≠ R) ∧ (∀ p ∈ tl, p.1 ≠ I) ∧ DatAll (news ++ tl) ys (rowsD D i)) ⟨[], 0, [], by rw [List.append_nil], (fun _ h => nomatch h), (fun _ h => nomatch h), .nil⟩ ?_ ?_
  · rintro i r nw t h tk hi8 ⟨ys, nn, tl, rfl, o1, o2, hP⟩ Fh Nh
    obtain ⟨k, hk'⟩ : ∃ k : Int, k = 0 + (i : Int) := ⟨_, rfl⟩
    rw [← hk'] at Fh
    have offR : ∀ p ∈ news ++ tl, p.1 ≠ R := fun p hp => (List.mem_append.mp hp).elim (fun h => Nat.ne_of_lt (lR p h)) (o1 p)
    have hsz : ys.toArray.size ≤ sizeLine := by
      have q := hP.length
      unfold rowsD at q
      rw [List.length_map, List.length_range] at q
      rw [List.size_toArray, sizeLine_eq]; omega
    have lI1 : (@LT.lt Nat _ R I) := lI.1
    have e8 : (8 + k).toNat = 8 + i := by omega
    have e15 : (15 + k).toNat = 15 + i := by omega
    have e19 : (19 + k).toNat = 19 + i := by omega
    have e0 : k.toNat = i := by omega
    have ek : k = (i : Int) := by omega
    k_steps
    refine Held.mk ?_
    refine mid_int (if i < 4 then D.getD (8 + i) 0 else 0) ?_ ?_
    · k_steps
      · rename_i q1 q2
        exact int_end (by rw [e8, if_pos (by omega)]) rfl
      · rename_i q1
        exact int_end (by rw [if_neg (by omega)]) rfl
    · intro tk5 t5
      k_steps
      refine Held.mk ?_
      refine mid_bool (decide (D.getD 13 0 > 2 ∧ (i : Int) > D.getD 14 0)) ?_ ?_
      · k_steps
        · rename_i q1 q2
          exact bool_end (by rw [ek]; exact (decide_eq_decide.mpr ⟨fun h => ⟨q1, h⟩, fun h => h.2⟩)) rfl
        · rename_i q1
          exact bool_end (by rw [decide_eq_decide]; exact ⟨fun h => absurd h q1, fun h => h.1⟩) rfl
      · intro tk6
        k_steps
        refine Held.mk ?_
        refine mid_int (if i < 4 ∧ D.getD (15 + i) 0 > 3 then D.getD (15 + i) 0 else -1) ?_ ?_
        · k_steps
          · rename_i q1 q2 q3
            rw [e15] at q2
            exact int_end (by rw [e15, if_pos ⟨by omega, q2⟩]) rfl
          · rename_i q1 q2
            rw [e15] at q2
            exact int_end (by rw [if_neg (fun h => q2 h.2)]) rfl
          · rename_i q1
            exact int_end (by rw [if_neg (fun h => q1 (by omega))]) rfl
        · intro tk7 t7
          k_steps
          refine Held.mk ?_
          refine mid_int (if i < 5 ∧ D.getD (19 + i) 0 > 2 then D.getD (19 + i) 0 else -1) ?_ ?_
          · k_steps
            · rename_i q1 q2 q3
              rw [e19] at q2
              exact int_end (by rw [e19, if_pos ⟨by omega, q2⟩]) rfl
            · rename_i q1 q2
              rw [e19] at q2
              exact int_end (by rw [if_neg (fun h => q2 h.2)]) rfl
            · rename_i q1
              exact int_end (by rw [if_neg (fun h => q1 (by omega))]) rfl
          · intro tk8 t8
            k_steps
            rename_i tq T hA FA NA lT hB tkB hC tkC hD tkD hE tkE hF FZ NZ
            refine meant_turn FZ NZ lT.1 lT.2.1 lI1 (all_ne_lt lI.2) o1 o2 hP ?_ (.cons (.int _ _) (.cons (.int _ _) (.cons (.bool _) (.cons (.bool _) (.cons (.int _ _) (.one (.int _ _))))))) ?_
            · intro y z1 z2
              simp only [z1, z2, if_false]
            · rw [rowD, e0, ek]
              rfl
  · rintro kk r nw h tk ⟨ys, nn, tl, rfl, o1, o2, hP⟩ Fh Nh
    k_steps
    rename Fr h₀ L _ _ => kF
    rename News h₀ L _ _ => kN
    refine' ret _ _ _ _ kF kN ?ga (.list ?gb (.cons (.bool _) (.one (.list ?gc ?gd))))
    (case ga => (intro p hp; k_mem))
    (case gb => k_mem)
    (case gc => k_mem)
    (case gd => exact DatAll.mono (fun p hp => List.Mem.tail _ (List.Mem.tail _ hp)) hP)
end Mine
end
section
open PySem PySem.W PyProof.Rows PySem.Spec PySem.Calls
set_option linter.unusedVariables false
set_option maxRecDepth 100000
namespace Mine
/-! equality of plain data: tuples of ints and texts; lists of ints and bools -/
section
variable {prog : Program} {w : World} {A : Around} {E : Value → Shared → Prop} {s : Shared} {h₀ : Heap} {L : Addr} {news n₁ n₂ : List (Addr × Obj)} {v u : Value} {d e : Dat} {Q : Value → Shared → Prop}
theorem shaped_of {n : Nat} {p : PyData} (h : p.canLay0 = true ∧ p.depth ≤ n) (hn : n ≤ 9) : SeqAt.shaped p = true := by
  unfold SeqAt.shaped
  rw [h.1, Bool.true_and]
  exact decide_eq_true (Nat.le_trans h.2 (Nat.le_trans hn (by decide)))
open Classical in
theorem eq_told (N : News h₀ L s.heap news) (Da : DatIn n₁ v d) (sa : ∀ p ∈ n₁, p ∈ news) (Db : DatIn n₂ u e) (sb : ∀ p ∈ n₂, p ∈ news) (ha : kqdOk 8 d = true) (hb : kqdOk 8 e = true) (hu : A.units + 64 < cLine)
    (h : Q (.bool (decide (d = e))) s) : wpAny (model prog w) A (compareOp .Eq v u) Q E s := by
  obtain ⟨as, ra⟩ := kqd_in N 8 (Da.mono sa) ha
  obtain ⟨bs, rb⟩ := kqd_in N 8 (Db.mono sb) hb
  have q := kqd_eqv 8 d e 8 ha hb
  have e' : PyData.eqv (kqdP d) (kqdP e) = decide (d = e) := by
    by_cases hq : d = e
    · rw [decide_eq_true hq]; exact q.mpr hq
    · rw [decide_eq_false hq]; exact Bool.eq_false_iff.mpr fun x => hq (q.mp x)
  exact eq_dataH ra rb (shaped_of (kqd_lay 8 d ha) (by omega)) (shaped_of (kqd_lay 8 e hb) (by omega)) hu (by rw [e']; exact h)
theorem ne_told (N : News h₀ L s.heap news) (Da : DatIn n₁ v d) (sa : ∀ p ∈ n₁, p ∈ news) (Db : DatIn n₂ u d) (sb : ∀ p ∈ n₂, p ∈ news) (ha : kqdOk 8 d = true) (hu : A.units + 64 < cLine)
    (h : Q (.bool false) s) : wpAny (model prog w) A (compareOp .NotEq v u) Q E s := by
  obtain ⟨as, ra⟩ := kqd_in N 8 (Da.mono sa) ha
  obtain ⟨bs, rb⟩ := kqd_in N 8 (Db.mono sb) ha
  have e' : PyData.eqv (kqdP d) (kqdP d) = true := (kqd_eqv 8 d d 8 ha ha).mpr rfl
  exact ne_dataH ra rb (shaped_of (kqd_lay 8 d ha) (by omega)) (shaped_of (kqd_lay 8 d ha) (by omega)) hu (by rw [e']; exact h)
end
/-- the rows of _law_meant: lists of ints and bools -/
def cell : Dat → Prop
  | .int _ => True
  | .bool _ => True
  | _ => False
def rowOf (d : Dat) : Prop := ∃ ds, d = .list ds ∧ ∀ e ∈ ds, cell e
section
variable {h₀ h : Heap} {L : Addr} {news : List (Addr × Obj)}
theorem cell_reads {v : Value} {d : Dat} (H : DatIn news v d) (c : cell d) : ∃ as, Reads h v (kqdP d) as := by
  cases H with
  | int i t => exact ⟨_, Reads.int i t⟩
  | bool b => exact ⟨_, Reads.bool b⟩
  | none => exact c.elim
  | str _ _ => exact c.elim
  | bytes _ _ => exact c.elim
  | tuple _ _ => exact c.elim
  | list _ _ => exact c.elim
theorem each_reads {P : Dat → Prop} (one : ∀ {v d}, DatIn news v d → P d → ∃ as, Reads h v (kqdP d) as) : ∀ (ds : List Dat) (vs : List Value), DatAll news vs ds → (∀ d ∈ ds, P d) → ∃ as, ReadsAll h vs (kqdPs ds) as := by
  intro ds
  induction ds with
  | nil =>
    intro vs H _
    cases H
    exact ⟨_, ReadsAll.nil⟩
  | cons d ds ih =>
    intro vs H hp
    cases H with
    | cons hd r =>
      obtain ⟨_, q⟩ := one hd (hp d (List.mem_cons_self ..))
      obtain ⟨_, p⟩ := ih _ r fun e he => hp e (List.mem_cons_of_mem _ he)
      exact ⟨_, ReadsAll.cons q p⟩
theorem list_reads {P : Dat → Prop} (N : News h₀ L h news) (one : ∀ {v d}, DatIn news v d → P d → ∃ as, Reads h v (kqdP d) as) {v : Value} {ds : List Dat} (H : DatIn news v (.list ds)) (hp : ∀ d ∈ ds, P d) : ∃ as, Reads h v (kqdP (.list ds)) as := by
  cases H with
  | list hm r =>
    obtain ⟨as, q⟩ := each_reads one ds _ r hp
    exact ⟨_, reads_list_at (N.get hm) rfl rfl (by simpa [W.listOf] using q)⟩
theorem row_reads (N : News h₀ L h news) {v : Value} {d : Dat} (H : DatIn news v d) (c : rowOf d) : ∃ as, Reads h v (kqdP d) as := by
  obtain ⟨ds, rfl, hc⟩ := c
  exact list_reads N cell_reads H hc
theorem row_ok (D : List Int) (k : Nat) : rowOf (rowD D k) := by
  refine ⟨_, rfl, fun e he => ?_⟩
  simp only [List.mem_cons, List.not_mem_nil, or_false] at he
  rcases he with rfl | rfl | rfl | rfl | rfl | rfl <;> trivial
theorem meant_reads (N : News h₀ L h news) {v : Value} {D : List Int} (H : DatIn news v (meantD D)) : ∃ as, Reads h v (kqdP (meantD D)) as := by
  refine list_reads (P := fun d => cell d ∨ ∃ ds, d = .list ds ∧ ∀ e ∈ ds, rowOf e) N ?_ H ?_
  · rintro v d hd (c | ⟨ds, rfl, c⟩)
    · exact cell_reads hd c
    · exact list_reads N (row_reads N) hd c
  · intro d hd
    simp only [List.mem_cons, List.not_mem_nil, or_false] at hd
    rcases hd with rfl | rfl
    · exact .inl trivial
    · refine .inr ⟨_, rfl, fun e he => ?_⟩
      obtain ⟨k, _, rfl⟩ := List.mem_map.mp he
      exact row_ok D k
end
theorem meant_shaped (D : List Int) : SeqAt.shaped (kqdP (meantD D)) = true := rfl
section
variable {prog : Program} {w : World} {A : Around} {E : Value → Shared → Prop} {s : Shared} {h₀ : Heap} {L : Addr} {news n₁ n₂ : List (Addr × Obj)} {v u : Value} {D O : List Int} {Q : Value → Shared → Prop}
theorem eq_meant (N : News h₀ L s.heap news) (Da : DatIn n₁ v (meantD D)) (sa : ∀ p ∈ n₁, p ∈ news) (Db : DatIn n₂ u (meantD O)) (sb : ∀ p ∈ n₂, p ∈ news) (hu : A.units + 64 < cLine)
    (h : Q (.bool (PyData.eqv (kqdP (meantD D)) (kqdP (meantD O)))) s) : wpAny (model prog w) A (compareOp .Eq v u) Q E s := by
  obtain ⟨as, ra⟩ := meant_reads N (Da.mono sa)
  obtain ⟨bs, rb⟩ := meant_reads N (Db.mono sb)
  exact eq_dataH ra rb (meant_shaped D) (meant_shaped O) hu h
end
theorem told_ref {news : List (Addr × Obj)} {v : Value} {D : List Int} (h : DatIn news v (toldD D)) : ∃ a, v = .ref a := by
  unfold toldD at h
  cases h
  exact ⟨_, rfl⟩
theorem meant_ref {news : List (Addr × Obj)} {v : Value} {D : List Int} (h : DatIn news v (meantD D)) : ∃ a, v = .ref a := by
  unfold meantD at h
  cases h
  exact ⟨_, rfl⟩
theorem all_pairs {n : Nat} {f : Nat → Option (Int × Dat)} (h : ∀ k p, f k = some p → kqdOk n p.2 = true) (m : Nat) : (pairsD (upTo f m)).all (kqdOk (n + 1)) = true := by
  rw [List.all_eq_true]
  intro d hd
  obtain ⟨p, hp, rfl⟩ := List.mem_map.mp hd
  obtain ⟨k, _, hk⟩ := List.mem_filterMap.mp hp
  have h1 : kqdOk n (.int p.1) = true := by cases n <;> rfl
  have h2 := h k p hk
  show ([Dat.int p.1, p.2].all (kqdOk n)) = true
  rw [List.all_cons, List.all_cons, List.all_nil, h1, h2]
  rfl
theorem all_ints {n : Nat} {f : Nat → Option Dat} (h : ∀ k p, f k = some p → kqdOk n p = true) (m : Nat) : (upTo f m).all (kqdOk n) = true := by
  rw [List.all_eq_true]
  intro d hd
  obtain ⟨k, _, hk⟩ := List.mem_filterMap.mp hd
  exact h k d hk
theorem told_ok (D : List Int) : kqdOk 8 (toldD D) = true := by
  unfold toldD
  simp only [kqdOk, List.all_cons, List.all_nil, Bool.and_true, Bool.and_eq_true]
  refine ⟨all_pairs ?_ 8, all_pairs ?_ 4, ?_, all_pairs ?_ 4, all_pairs ?_ 5⟩
  · intro k p h
    unfold fCls at h
    split at h
    · cases h; rfl
    · cases h
  · intro k p h
    unfold fHeld at h
    split at h
    · cases h; rfl
    · cases h
  · unfold setsD
    have h0 : (upTo (fSet0 D) 8).all (kqdOk 5) = true := all_ints (fun k p h => by
      unfold fSet0 at h
      split at h
      · cases h; rfl
      · cases h) 8
    have h1 : (upTo (fSet1 D) 8).all (kqdOk 5) = true := all_ints (fun k p h => by
      unfold fSet1 at h
      split at h
      · cases h; rfl
      · cases h) 8
    split
    · simp only [List.map_cons, List.map_nil, List.all_cons, List.all_nil, kqdOk, h0, h1, Bool.and_self]
    · simp only [List.map_cons, List.map_nil, List.all_cons, List.all_nil, kqdOk, h0, Bool.and_self]
  · intro k p h
    unfold fPts at h
    split at h
    · cases h
      simp only [kqdOk]
      rw [List.all_eq_true]
      intro d hd
      obtain ⟨j, _, rfl⟩ := List.mem_map.mp hd
      rfl
    · cases h
  · intro k p h
    unfold fCar at h
    split at h
    · cases h
      simp only [kqdOk, List.all_cons, List.all_nil, Bool.and_true, Bool.and_self, Bool.and_eq_true]
      exact ⟨by decide +kernel, by decide +kernel⟩
    · cases h
end Mine
end
section
open PySem PySem.W PyProof.Rows PySem.Spec PySem.Calls
set_option linter.unusedVariables false
set_option maxRecDepth 100000
namespace Mine
/-! the plain law: told alike iff meant alike -/
theorem upTo_inj {α : Type} {f g : Nat → Option α} (κ : α → Int) (hf : ∀ k p, f k = some p → κ p = (k : Int)) (hg : ∀ k p, g k = some p → κ p = (k : Int)) (n : Nat) :
    upTo f n = upTo g n ↔ ∀ k < n, f k = g k := by
  have low : ∀ (f : Nat → Option α), (∀ k p, f k = some p → κ p = (k : Int)) → ∀ n, ∀ p ∈ upTo f n, κ p < (n : Int) := by
    intro f hf n p hp
    obtain ⟨k, hk, e⟩ := List.mem_filterMap.mp hp
    rw [hf k p e]
    have := List.mem_range.mp hk
    omega
  constructor
  · induction n with
    | zero => intro _ k hk; omega
    | succ n ih =>
      intro h
      have key : f n = g n ∧ upTo f n = upTo g n := by
        cases e1 : f n with
        | none =>
          rw [upTo_none e1] at h
          cases e2 : g n with
          | none => rw [upTo_none e2] at h; exact ⟨rfl, h⟩
          | some q =>
            rw [upTo_some e2] at h
            have hq : q ∈ upTo f n := by rw [h]; exact List.mem_append_right _ (.head _)
            have h1 := low f hf n q hq
            rw [hg n q e2] at h1
            omega
        | some p =>
          rw [upTo_some e1] at h
          cases e2 : g n with
          | none =>
            rw [upTo_none e2] at h
            have hp : p ∈ upTo g n := by rw [← h]; exact List.mem_append_right _ (.head _)
            have h1 := low g hg n p hp
            rw [hf n p e1] at h1
            omega
          | some q =>
            rw [upTo_some e2] at h
            obtain ⟨h1, h2⟩ := List.append_inj' h rfl
            exact ⟨by rw [(List.cons.inj h2).1], h1⟩
      intro k hk
      by_cases e : k = n
      · rw [e]; exact key.1
      · exact ih key.2 k (by omega)
  · intro h
    induction n with
    | zero => rfl
    | succ n ih =>
      have e := h n (Nat.lt_succ_self n)
      have r := ih fun k hk => h k (Nat.lt_succ_of_lt hk)
      cases e1 : f n with
      | none => rw [upTo_none e1, upTo_none (e ▸ e1), r]
      | some p => rw [upTo_some e1, upTo_some (e ▸ e1), r]
theorem pairsD_inj {a b : List (Int × Dat)} : pairsD a = pairsD b ↔ a = b := by
  unfold pairsD
  refine ⟨fun h => ?_, fun h => by rw [h]⟩
  refine (List.map_inj_right fun x y e => ?_).mp h
  simp only [Dat.tuple.injEq, List.cons.injEq, Dat.int.injEq, and_true] at e
  exact Prod.ext e.1 e.2
def kDat : Dat → Int
  | .int i => i
  | _ => 0
theorem key_set0 {D : List Int} (k : Nat) (p : Dat) (h : fSet0 D k = some p) : kDat p = (k : Int) := by
  unfold fSet0 at h
  split at h
  · cases h; rfl
  · cases h
theorem key_set1 {D : List Int} (k : Nat) (p : Dat) (h : fSet1 D k = some p) : kDat p = (k : Int) := by
  unfold fSet1 at h
  split at h
  · cases h; rfl
  · cases h
theorem cls_iff {D O : List Int} {k : Nat} (h1 : 0 ≤ D.getD k 0) (h2 : 0 ≤ O.getD k 0) : fCls D k = fCls O k ↔ D.getD k 0 = O.getD k 0 := by
  unfold fCls
  constructor
  · intro h
    split at h <;> split at h
    · simpa using h
    · cases h
    · cases h
    · omega
  · intro h; rw [h]
theorem held_iff {D O : List Int} {k : Nat} (h1 : 0 ≤ D.getD (8 + k) 0) (h2 : 0 ≤ O.getD (8 + k) 0) : fHeld D k = fHeld O k ↔ D.getD (8 + k) 0 = O.getD (8 + k) 0 := by
  unfold fHeld
  constructor
  · intro h
    split at h <;> split at h
    · simpa using h
    · cases h
    · cases h
    · omega
  · intro h; rw [h]
theorem set0_iff {D O : List Int} {k : Nat} : fSet0 D k = fSet0 O k ↔ ((k : Int).fmod 3 == (D.getD 12 0).fmod 3) = ((k : Int).fmod 3 == (O.getD 12 0).fmod 3) := by
  rw [Bool.eq_iff_iff, beq_iff_eq, beq_iff_eq]
  unfold fSet0
  constructor
  · intro h
    split at h <;> split at h
    · rename_i a b; exact ⟨fun _ => b, fun _ => a⟩
    · cases h
    · cases h
    · rename_i a b; exact ⟨fun c => absurd c a, fun c => absurd c b⟩
  · intro h
    by_cases c : (k : Int).fmod 3 = (D.getD 12 0).fmod 3
    · rw [if_pos c, if_pos (h.mp c)]
    · rw [if_neg c, if_neg fun x => c (h.mpr x)]
theorem set1_iff {D O : List Int} {k : Nat} : fSet1 D k = fSet1 O k ↔ ((k : Int) > D.getD 14 0 ↔ (k : Int) > O.getD 14 0) := by
  unfold fSet1
  constructor
  · intro h
    split at h <;> split at h
    · rename_i a b; exact ⟨fun _ => b, fun _ => a⟩
    · cases h
    · cases h
    · rename_i a b; exact ⟨fun c => absurd c a, fun c => absurd c b⟩
  · intro h
    by_cases c : (k : Int) > D.getD 14 0
    · rw [if_pos c, if_pos (h.mp c)]
    · rw [if_neg c, if_neg fun x => c (h.mpr x)]
theorem pts_iff {D O : List Int} {k : Nat} (h1 : 0 ≤ D.getD (15 + k) 0) (h2 : 0 ≤ O.getD (15 + k) 0) : fPts D k = fPts O k ↔ (if D.getD (15 + k) 0 > 3 then D.getD (15 + k) 0 else -1) = (if O.getD (15 + k) 0 > 3 then O.getD (15 + k) 0 else -1) := by
  unfold fPts
  constructor
  · intro h
    split at h <;> split at h
    · rename_i a b
      rw [if_pos a, if_pos b]
      simp only [Option.some.injEq, Prod.mk.injEq, Dat.tuple.injEq, true_and] at h
      have e := congrArg List.length h
      simp only [List.length_map, List.length_range] at e
      omega
    · cases h
    · cases h
    · rename_i a b; rw [if_neg a, if_neg b]
  · intro h
    by_cases a : D.getD (15 + k) 0 > 3
    · by_cases b : O.getD (15 + k) 0 > 3
      · rw [if_pos a, if_pos b] at h
        rw [h]
      · rw [if_pos a, if_neg b] at h; omega
    · by_cases b : O.getD (15 + k) 0 > 3
      · rw [if_neg a, if_pos b] at h; omega
      · rw [if_neg a, if_neg b]
theorem car_iff {D O : List Int} {k : Nat} (h1 : 0 ≤ D.getD (19 + k) 0) (h2 : 0 ≤ O.getD (19 + k) 0) : fCar D k = fCar O k ↔ (if D.getD (19 + k) 0 > 2 then D.getD (19 + k) 0 else -1) = (if O.getD (19 + k) 0 > 2 then O.getD (19 + k) 0 else -1) := by
  unfold fCar
  constructor
  · intro h
    split at h <;> split at h
    · rename_i a b
      rw [if_pos a, if_pos b]
      simp only [Option.some.injEq, Prod.mk.injEq, Dat.tuple.injEq, List.cons.injEq, Dat.int.injEq, true_and, and_true] at h
      exact h.2
    · cases h
    · cases h
    · rename_i a b; rw [if_neg a, if_neg b]
  · intro h
    by_cases a : D.getD (19 + k) 0 > 2
    · by_cases b : O.getD (19 + k) 0 > 2
      · rw [if_pos a, if_pos b] at h
        rw [h]
      · rw [if_pos a, if_neg b] at h; omega
    · by_cases b : O.getD (19 + k) 0 > 2
      · rw [if_neg a, if_pos b] at h; omega
      · rw [if_neg a, if_neg b]
theorem sets_iff {D O : List Int} : (setsD D).map Dat.tuple = (setsD O).map Dat.tuple ↔ (∀ k < 8, fSet0 D k = fSet0 O k) ∧ (D.getD 13 0 > 2 ↔ O.getD 13 0 > 2) ∧ (D.getD 13 0 > 2 → ∀ k < 8, fSet1 D k = fSet1 O k) := by
  have inj : (setsD D).map Dat.tuple = (setsD O).map Dat.tuple ↔ setsD D = setsD O := List.map_inj_right fun x y e => Dat.tuple.inj e
  rw [inj]
  unfold setsD
  rw [List.cons.injEq, upTo_inj kDat key_set0 key_set0]
  refine and_congr_right fun _ => ?_
  constructor
  · intro h
    split at h <;> split at h
    · rename_i a b
      refine ⟨⟨fun _ => b, fun _ => a⟩, fun _ => ?_⟩
      exact (upTo_inj kDat key_set1 key_set1 8).mp (List.cons.inj h).1
    · cases h
    · cases h
    · rename_i a b
      exact ⟨⟨fun c => absurd c a, fun c => absurd c b⟩, fun c => absurd c a⟩
  · rintro ⟨h1, h2⟩
    by_cases c : D.getD 13 0 > 2
    · rw [if_pos c, if_pos (h1.mp c), (upTo_inj kDat key_set1 key_set1 8).mpr (h2 c)]
    · rw [if_neg c, if_neg fun x => c (h1.mpr x)]
theorem told_iff {D O : List Int} (h1 : ∀ k, 0 ≤ D.getD k 0) (h2 : ∀ k, 0 ≤ O.getD k 0) : toldD D = toldD O ↔
    (∀ k < 8, D.getD k 0 = O.getD k 0) ∧ (∀ k < 4, D.getD (8 + k) 0 = O.getD (8 + k) 0) ∧ ((∀ k < 8, fSet0 D k = fSet0 O k) ∧ (D.getD 13 0 > 2 ↔ O.getD 13 0 > 2) ∧ (D.getD 13 0 > 2 → ∀ k < 8, fSet1 D k = fSet1 O k)) ∧
    (∀ k < 4, fPts D k = fPts O k) ∧ ∀ k < 5, fCar D k = fCar O k := by
  unfold toldD
  simp only [Dat.tuple.injEq, List.cons.injEq, and_true]
  rw [pairsD_inj, pairsD_inj, pairsD_inj, pairsD_inj, sets_iff, upTo_inj (·.1) key_cls key_cls, upTo_inj (·.1) key_held key_held, upTo_inj (·.1) key_pts key_pts, upTo_inj (·.1) key_car key_car]
  exact and_congr (forall_congr' fun k => forall_congr' fun _ => cls_iff (h1 k) (h2 k)) (and_congr (forall_congr' fun k => forall_congr' fun _ => held_iff (h1 _) (h2 _)) Iff.rfl)
theorem eqvAll_map (f g : Nat → PyData) : ∀ l : List Nat, PyData.eqvAll (l.map f) (l.map g) = true ↔ ∀ k ∈ l, PyData.eqv (f k) (g k) = true
  | [] => by simp [PyData.eqvAll]
  | k :: l => by
    simp only [List.map_cons, PyData.eqvAll, Bool.and_eq_true, eqvAll_map f g l, List.mem_cons, forall_eq_or_imp]
theorem kqdPs_map (f : Nat → Dat) : ∀ l : List Nat, kqdPs (l.map f) = l.map fun k => kqdP (f k)
  | [] => rfl
  | k :: l => by rw [List.map_cons, kqdPs, kqdPs_map f l, List.map_cons]
theorem row_iff {D O : List Int} {k : Nat} : PyData.eqv (kqdP (rowD D k)) (kqdP (rowD O k)) = true ↔
    D.getD k 0 = O.getD k 0 ∧ (if k < 4 then D.getD (8 + k) 0 else 0) = (if k < 4 then O.getD (8 + k) 0 else 0) ∧ ((k : Int).fmod 3 == (D.getD 12 0).fmod 3) = ((k : Int).fmod 3 == (O.getD 12 0).fmod 3) ∧
    decide (D.getD 13 0 > 2 ∧ (k : Int) > D.getD 14 0) = decide (O.getD 13 0 > 2 ∧ (k : Int) > O.getD 14 0) ∧
    (if k < 4 ∧ D.getD (15 + k) 0 > 3 then D.getD (15 + k) 0 else -1) = (if k < 4 ∧ O.getD (15 + k) 0 > 3 then O.getD (15 + k) 0 else -1) ∧
    (if k < 5 ∧ D.getD (19 + k) 0 > 2 then D.getD (19 + k) 0 else -1) = (if k < 5 ∧ O.getD (19 + k) 0 > 2 then O.getD (19 + k) 0 else -1) := by
  simp only [rowD, kqdP, kqdPs, PyData.eqv, PyData.eqvAll, Bool.and_eq_true, beq_iff_eq, and_true]
theorem meant_iff {D O : List Int} : PyData.eqv (kqdP (meantD D)) (kqdP (meantD O)) = true ↔ decide (D.getD 13 0 > 2) = decide (O.getD 13 0 > 2) ∧ ∀ k < 8, PyData.eqv (kqdP (rowD D k)) (kqdP (rowD O k)) = true := by
  unfold meantD rowsD
  simp only [kqdP, kqdPs, PyData.eqv, PyData.eqvAll, Bool.and_eq_true, beq_iff_eq, and_true, kqdPs_map, eqvAll_map, List.mem_range]
theorem alike {D O : List Int} (h1 : ∀ k, 0 ≤ D.getD k 0) (h2 : ∀ k, 0 ≤ O.getD k 0) : toldD D = toldD O ↔ PyData.eqv (kqdP (meantD D)) (kqdP (meantD O)) = true := by
  rw [told_iff h1 h2, meant_iff]
  constructor
  · rintro ⟨a, b, ⟨c, d, e⟩, f, g⟩
    refine ⟨decide_eq_decide.mpr d, fun k hk => row_iff.mpr ⟨a k hk, ?_, set0_iff.mp (c k hk), ?_, ?_, ?_⟩⟩
    · by_cases q : k < 4
      · rw [if_pos q, if_pos q, b k q]
      · rw [if_neg q, if_neg q]
    · refine decide_eq_decide.mpr ⟨fun ⟨x, y⟩ => ⟨d.mp x, (set1_iff.mp (e x k hk)).mp y⟩, fun ⟨x, y⟩ => ⟨d.mpr x, (set1_iff.mp (e (d.mpr x) k hk)).mpr y⟩⟩
    · by_cases q : k < 4
      · simp only [q, true_and]
        exact (pts_iff (h1 _) (h2 _)).mp (f k q)
      · simp only [q, false_and, if_false]
    · by_cases q : k < 5
      · simp only [q, true_and]
        exact (car_iff (h1 _) (h2 _)).mp (g k q)
      · simp only [q, false_and, if_false]
  · rintro ⟨d, r⟩
    have r' := fun k hk => row_iff.mp (r k hk)
    have d' : D.getD 13 0 > 2 ↔ O.getD 13 0 > 2 := decide_eq_decide.mp d
    refine ⟨fun k hk => (r' k hk).1, fun k hk => ?_, ⟨fun k hk => set0_iff.mpr (r' k hk).2.2.1, d', fun x k hk => ?_⟩, fun k hk => ?_, fun k hk => ?_⟩
    · have q := (r' k (by omega)).2.1
      rwa [if_pos hk, if_pos hk] at q
    · have q := decide_eq_decide.mp (r' k hk).2.2.2.1
      exact set1_iff.mpr ⟨fun y => (q.mp ⟨x, y⟩).2, fun y => (q.mpr ⟨d'.mp x, y⟩).2⟩
    · have q := (r' k (by omega)).2.2.2.2.1
      simp only [hk, true_and] at q
      exact (pts_iff (h1 _) (h2 _)).mpr q
    · have q := (r' k (by omega)).2.2.2.2.2
      simp only [hk, true_and] at q
      exact (car_iff (h1 _) (h2 _)).mpr q
theorem nonneg {D : List Int} (h : ∀ d ∈ D, 0 ≤ d ∧ d < 6) (k : Nat) : 0 ≤ D.getD k 0 := by
  rw [List.getD_eq_getElem?_getD]
  cases e : D[k]? with
  | none => exact Int.le_refl _
  | some d => exact (h d (List.mem_of_getElem? e)).1
open Classical in
theorem alike_bool {D O : List Int} (h1 : ∀ d ∈ D, 0 ≤ d ∧ d < 6) (h2 : ∀ d ∈ O, 0 ≤ d ∧ d < 6) : PyData.eqv (kqdP (meantD D)) (kqdP (meantD O)) = decide (toldD D = toldD O) := by
  have q := alike (nonneg h1) (nonneg h2)
  by_cases h : toldD D = toldD O
  · rw [decide_eq_true h]; exact q.mp h
  · rw [decide_eq_false h]; exact Bool.eq_false_iff.mpr fun x => h (q.mpr x)
theorem set_digits {D : List Int} {i : Nat} {r : Int} (h : ∀ d ∈ D, 0 ≤ d ∧ d < 6) (r0 : 0 ≤ r) (r1 : r < 6) : ∀ d ∈ D.set i r, 0 ≤ d ∧ d < 6 := by
  intro d hd
  rcases List.mem_or_eq_of_mem_set hd with hd | rfl
  · exact h d hd
  · exact ⟨r0, r1⟩
end Mine
end
section
open PySem PySem.W PyProof.Rows PySem.Spec PySem.Calls
set_option linter.unusedVariables false
set_option pp.deepTerms false
set_option pp.proofs false
namespace Mine
local macro_rules | `(tactic| k_all) => `(tactic| first | with_reducible assumption | exact all_ne_lt (by assumption) | exact all_ne_lt (And.right (by assumption)) | exact all_ne_lt (And.right (And.right (by assumption))) | exact all_ne_lt (And.right (And.right (And.right (by assumption)))) | exact all_ne_lt (And.right (And.right (And.right (And.right (by assumption))))) | exact all_ne_lt (And.right (And.right (And.right (And.right (And.right (by assumption)))))) | exact all_ne_lt (And.right (And.right (And.right (And.right (And.right (And.right (by assumption))))))) | exact all_ne_lt (And.right (And.right (And.right (And.right (And.right (And.right (And.right (by assumption)))))))) | exact all_ne_lt (And.right (And.right (And.right (And.right (And.right (And.right (And.right (And.right (by assumption))))))))))
local macro_rules | `(tactic| k_mem) => `(tactic| first | with_reducible assumption | (refine mem_in ?_; with_reducible assumption) | (refine List.mem_append.mpr (Or.inl ?_); k_mem) | (refine List.mem_append.mpr (Or.inr ?_); k_mem))
local macro_rules | `(tactic| l_idx) => `(tactic| with_reducible assumption)
local macro_rules | `(tactic| k_get) => `(tactic| with_reducible assumption)
local macro_rules | `(tactic| walk_at "call ref") => `(tactic| with_reducible refine Held.out ?_)
local macro_rules | `(tactic| walk_at "call ref") => `(tactic| (k_here; (with_reducible show wpAny _ _ (call (Value.ref 170) _) _ _ _); k_dflt (refine' digits_spec0 _ _ _ _ _ _ _ _ _ _ _ _ _ _ _ _ _ _ _ _ _ _ _ _ _ _ _ _ _ ?B ?F ?X ?N ?TT ?hk ?hi ?hlen ?hlen2 ?hTC ?hTn ?hd1 ?hu ?_; (case B => k_asm); (case F => k_asm); (case X => k_asm); (case N => k_asm); (case TT => k_asm); (case hk => first | exact rfl | assumption); (case hi => first | assumption | exact IntsAre.cons _ _ .nil); (case hlen => first | assumption | exact Nat.zero_lt_one); (case hlen2 => first | omega | decide); (case hTC => k_ne); (case hTn => k_all); (case hd1 => ktr_room); (case hu => ktr_units); k_whole; intro D' dvs' ds' h' tk' ta' hi' hl' hb' F' N' n1' n2')))
local macro_rules | `(tactic| walk_at "call ref") => `(tactic| (k_here; (with_reducible show wpAny _ _ (call (Value.ref 165) _) _ _ _); k_dflt (refine' draw_spec ?B ?F ?X ?N ?TT ?hk ?U ?hCm ?hi ?hCT ?hlen ?hlen2 ?h0 ?h1 ?l0 ?l1 ?hd1 ?hu ?_; (case B => k_asm); (case F => k_asm); (case X => k_asm); (case N => k_asm); (case TT => k_asm); (case hk => first | exact rfl | assumption); (case U => k_updF); (case hCm => k_mem); (case hi => first | assumption | exact IntsAre.cons _ _ .nil); (case hCT => first | assumption | k_ne); (case hlen => first | assumption | exact Nat.zero_lt_one); (case hlen2 => first | omega | decide); (case h0 => omega); (case h1 => omega); (case l0 => decide); (case l1 => decide); (case hd1 => ktr_room); (case hu => ktr_units); k_whole; intro r' t' h' tk' ta' r0' r1' F' N')))
local macro_rules | `(tactic| walk_at "compareOp Eq ref ref") => `(tactic| with_reducible refine Held.out ?_)
local macro_rules | `(tactic| walk_at "compareOp NotEq ref ref") => `(tactic| with_reducible refine Held.out ?_)
theorem fillLw : PySem.Challenge.rw_pb0159_01 = PySem.Challenge.rw_pb0159_01 ∧ (hd.heap_39 = hd.heap_39) := by
  w_top off
  k_fill
  exact ⟨rfl, rfl⟩
set_option maxRecDepth 100000 in
set_option maxHeartbeats 8000000 in
theorem law_holds : PySem.Challenge.rw_pb0159_01.Holds := hd (by
  k_go0
  (all_goals try k_fold)
  k_steps
  all_goals (
      rename_i Dg dvs ds hA tkA taA hi hl hb n1 n2 FB tkB Ot cO hB lB hC tkC r1 t1 hD tkD taD r10 r11 hE tkE r2 t2 hF tkF taF r20 r21 hG FZ NZ hiO hlO hsO
      have hbO := set_digits (i := r1.toNat) hb r20 r21
      have hlO' := hlO.trans hl
      have NW := news_sub (news' := [(Ot, W.listOf (List.toArray (dvs.set r1.toNat (Value.int r2 t2))) cO), (Dg, W.listOf dvs.toArray dvs.length)]) NZ (fun p hp => by rcases List.mem_cons.mp hp with rfl | hp; exact .head _; rcases List.mem_cons.mp hp with rfl | hp; exact .tail _ (.head _); cases hp)
      clear NZ hsO lB n1 n2
      refine Held.mk ?_
      k_dflt (refine' made_spec (D := ds) (dvs := dvs) ?B ?F ?X ?N ?TT ?hk ?hdl ?hi ?hlen ?hb ?hd1 ?hu ?_; (case B => k_asm); (case F => k_asm); (case X => k_asm); (case N => k_asm); (case TT => k_asm); (case hk => first | exact rfl | assumption); (case hdl => exact (.tail _ (.head _))); (case hi => exact hi); (case hlen => exact hl); (case hb => exact hb); (case hd1 => ktr_room); (case hu => ktr_units); k_whole)
      intro v1 w1 h1 tk1 F1 N1 s1 G1
      have mO1 := s1 _ (.head _)
      have mD1 := s1 _ (.tail _ (.head _))
      clear s1 NW
      obtain ⟨x1, dx1, es1, nn1, vc1, va1, sl1, pl1, kl1, svs1, ns1, op1, kvp1, oc1, kvc1, e1, m1_1, m1_2, m1_3, m1_4, m1_5, m1_6, m1_7, m1_8, _⟩ := id G1
      subst e1
      k_steps
      refine Held.mk ?_
      k_dflt (refine' gdef_told ?B ?F ?X ?N ?TT ?hk ?hG ?ho ?hd1 ?hu ?_; (case B => k_asm); (case F => k_asm); (case X => k_asm); (case N => k_asm); (case TT => k_asm); (case hk => first | exact rfl | assumption); (case hG => exact G1); (case ho => exact (fun p h => h)); (case hd1 => ktr_room); (case hu => ktr_units); k_whole)
      intro v2 w2 h2 tk2 F2 N2 T2
      obtain ⟨a2, e2⟩ := told_ref T2
      subst e2
      k_steps
      refine Held.mk ?_
      k_dflt (refine' made_spec (D := ds) (dvs := dvs) ?B ?F ?X ?N ?TT ?hk ?hdl ?hi ?hlen ?hb ?hd1 ?hu ?_; (case B => k_asm); (case F => k_asm); (case X => k_asm); (case N => k_asm); (case TT => k_asm); (case hk => first | exact rfl | assumption); (case hdl => exact (List.mem_append_left _ mD1)); (case hi => exact hi); (case hlen => exact hl); (case hb => exact hb); (case hd1 => ktr_room); (case hu => ktr_units); k_whole)
      intro v3 w3 h3 tk3 F3 N3 s3 G3
      have s31 : ∀ p ∈ w1, p ∈ w3 := fun p h => s3 p (List.mem_append_left _ h)
      have T2' := DatIn.mono (fun p h => s3 p (List.mem_append_right _ h)) T2
      clear s3 T2
      obtain ⟨x3, dx3, es3, nn3, vc3, va3, sl3, pl3, kl3, svs3, ns3, op3, kvp3, oc3, kvc3, e3, m3_1, m3_2, m3_3, m3_4, m3_5, m3_6, m3_7, m3_8, _⟩ := id G3
      subst e3
      k_steps
      refine Held.mk ?_
      k_dflt (refine' gdef_told ?B ?F ?X ?N ?TT ?hk ?hG ?ho ?hd1 ?hu ?_; (case B => k_asm); (case F => k_asm); (case X => k_asm); (case N => k_asm); (case TT => k_asm); (case hk => first | exact rfl | assumption); (case hG => exact G3); (case ho => exact (fun p h => h)); (case hd1 => ktr_room); (case hu => ktr_units); k_whole)
      intro v4 w4 h4 tk4 F4 N4 T4
      obtain ⟨a4, e4⟩ := told_ref T4
      subst e4
      k_steps
      refine Held.mk ?_
      refine ne_told (by k_asm) T2' (fun p h => List.mem_append_left _ h) T4 (fun p h => List.mem_append_right _ h) (told_ok ds) (by ktr_units) ?_
      have m1_1' := List.mem_append_left w4 (s31 _ m1_1)
      have m1_2' := List.mem_append_left w4 (s31 _ m1_2)
      k_steps
      clear T2' T4
      refine Held.mk ?_
      k_dflt (refine' gdef_told ?B ?F ?X ?N ?TT ?hk ?hG ?ho ?hd1 ?hu ?_; (case B => k_asm); (case F => k_asm); (case X => k_asm); (case N => k_asm); (case TT => k_asm); (case hk => first | exact rfl | assumption); (case hG => exact G1); (case ho => exact (fun p h => List.mem_append_left _ (s31 p h))); (case hd1 => ktr_room); (case hu => ktr_units); k_whole)
      intro v5 w5 h5 tk5 F5 N5 T5
      obtain ⟨a5, e5⟩ := told_ref T5
      subst e5
      k_steps
      refine Held.mk ?_
      k_dflt (refine' made_spec (D := (ds.set r1.toNat r2)) (dvs := (dvs.set r1.toNat (Value.int r2 t2))) ?B ?F ?X ?N ?TT ?hk ?hdl ?hi ?hlen ?hb ?hd1 ?hu ?_; (case B => k_asm); (case F => k_asm); (case X => k_asm); (case N => k_asm); (case TT => k_asm); (case hk => first | exact rfl | assumption); (case hdl => exact (List.mem_append_left _ (List.mem_append_left _ (s31 _ mO1)))); (case hi => exact hiO); (case hlen => exact hlO'); (case hb => exact hbO); (case hd1 => ktr_room); (case hu => ktr_units); k_whole)
      intro v6 w6 h6 tk6 F6 N6 s6 G6
      have T5' := DatIn.mono (fun p h => s6 p (List.mem_append_right _ h)) T5
      have mD6 := s6 _ (List.mem_append_left _ (List.mem_append_left _ (s31 _ mD1)))
      have mO6 := s6 _ (List.mem_append_left _ (List.mem_append_left _ (s31 _ mO1)))
      clear s6 T5
      obtain ⟨x6, dx6, es6, nn6, vc6, va6, sl6, pl6, kl6, svs6, ns6, op6, kvp6, oc6, kvc6, e6, m6_1, m6_2, m6_3, m6_4, m6_5, m6_6, m6_7, m6_8, _⟩ := id G6
      subst e6
      k_steps
      refine Held.mk ?_
      k_dflt (refine' gdef_told ?B ?F ?X ?N ?TT ?hk ?hG ?ho ?hd1 ?hu ?_; (case B => k_asm); (case F => k_asm); (case X => k_asm); (case N => k_asm); (case TT => k_asm); (case hk => first | exact rfl | assumption); (case hG => exact G6); (case ho => exact (fun p h => h)); (case hd1 => ktr_room); (case hu => ktr_units); k_whole)
      intro v7 w7 h7 tk7 F7 N7 T7
      obtain ⟨a7, e7⟩ := told_ref T7
      subst e7
      k_steps
      refine Held.mk ?_
      refine eq_told (by k_asm) T5' (fun p h => List.mem_append_left _ h) T7 (fun p h => List.mem_append_right _ h) (told_ok _) (told_ok _) (by ktr_units) ?_
      k_steps
      refine Held.mk ?_
      k_dflt (refine' meant_spec (D := ds) (dvs := dvs) ?B ?F ?X ?N ?TT ?hk ?hdl ?hi ?hlen ?hb ?hd1 ?hu ?_; (case B => k_asm); (case F => k_asm); (case X => k_asm); (case N => k_asm); (case TT => k_asm); (case hk => first | exact rfl | assumption); (case hdl => exact (List.mem_append_left _ mD6)); (case hi => exact hi); (case hlen => exact hl); (case hb => exact hb); (case hd1 => ktr_room); (case hu => ktr_units); k_whole)
      intro v8 w8 h8 tk8 F8 N8 s8 T8
      obtain ⟨a8, e8⟩ := meant_ref T8
      subst e8
      have mO8 := s8 _ (List.mem_append_left _ mO6)
      k_steps
      refine Held.mk ?_
      k_dflt (refine' meant_spec (D := (ds.set r1.toNat r2)) (dvs := (dvs.set r1.toNat (Value.int r2 t2))) ?B ?F ?X ?N ?TT ?hk ?hdl ?hi ?hlen ?hb ?hd1 ?hu ?_; (case B => k_asm); (case F => k_asm); (case X => k_asm); (case N => k_asm); (case TT => k_asm); (case hk => first | exact rfl | assumption); (case hdl => exact mO8); (case hi => exact hiO); (case hlen => exact hlO'); (case hb => exact hbO); (case hd1 => ktr_room); (case hu => ktr_units); k_whole)
      intro v9 w9 h9 tk9 F9 N9 s9 T9
      obtain ⟨a9, e9⟩ := meant_ref T9
      subst e9
      k_steps
      refine Held.mk ?_
      refine eq_meant (by k_asm) T8 s9 T9 (fun p h => h) (by ktr_units) ?_
      rw [alike_bool hb hbO]
      k_steps)
)
end Mine
end
theorem PySem.Challenge.cw_pb0159_01_holds : PySem.Challenge.rw_pb0159_01.Holds := by
  exact Mine.law_holds
