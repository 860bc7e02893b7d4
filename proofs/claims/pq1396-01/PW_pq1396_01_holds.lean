import PyProof.Rows.All
import Wide.All
import OpenK.AllK
import Wide.FinOn
import PySem.Challenge.RW_pq1396_01
set_option Elab.async false
set_option maxRecDepth 100000
section
open PySem PySem.W PyProof.Rows
set_option maxRecDepth 100000 in
set_option maxHeartbeats 8000000 in
open_top Mine.hd for PySem.Challenge.rw_pq1396_01
end
section
open PySem PySem.W PyProof.Rows
namespace Mine
theorem allLt_up {d c : Nat} {l : List (Addr × Obj)} (h : AllLt d l) (q : d ≤ c) : AllLt c l := by
  induction l with
  | nil => trivial
  | cons p l ih => exact ⟨Nat.lt_of_lt_of_le h.1 q, ih h.2⟩
theorem allLt_all {c : Nat} {l : List (Addr × Obj)} (h : AllLt c l) : ∀ p ∈ l, p.1 < c := by
  induction l with
  | nil => exact fun _ q => nomatch q
  | cons p l ih =>
    intro q hq
    rcases List.mem_cons.mp hq with e | hq
    · exact e ▸ h.1
    · exact ih h.2 q hq
theorem allLt_ne {c : Nat} {l : List (Addr × Obj)} (h : AllLt c l) : ∀ p ∈ l, p.1 ≠ c := fun p hp => Nat.ne_of_lt (allLt_all h p hp)
theorem ne_below {d : Addr} {l : List (Addr × Obj)} (h : ∀ p ∈ l, p.1 < d) : ∀ p ∈ l, p.1 ≠ d := fun p hp => Nat.ne_of_lt (h p hp)
end Mine
end
open PySem PySem.W PyProof.Rows
local macro_rules | `(tactic| k_all) => `(tactic| exact Mine.ne_below (by assumption))
local macro_rules | `(tactic| k_all) => `(tactic| (refine Mine.allLt_ne ?_; (refine' Mine.allLt_up ?h ?le; (case h => tbn_find); (case le => omega))))
local macro_rules | `(tactic| k_room) => `(tactic| ktr_room)
local macro_rules | `(tactic| k_units) => `(tactic| ktr_units)
section
open PySem PySem.W PyProof.Rows
namespace Mine
abbrev vecD (w : World) (t1 t2 t3 t4 t5 : Nat) (k i a : Value) : Obj :=
  dictOf [{ hash := PyData.keyHash w.params (Str.ofString "kind"), key := Value.str (Str.ofString "kind") t1, val := k },
    { hash := PyData.keyHash w.params (Str.ofString "items"), key := Value.str (Str.ofString "items") t2, val := i },
    { hash := PyData.keyHash w.params (Str.ofString "attrs"), key := Value.str (Str.ofString "attrs") t3, val := a },
    { hash := PyData.keyHash w.params (Str.ofString "shared"), key := Value.str (Str.ofString "shared") t4, val := Value.bool false },
    { hash := PyData.keyHash w.params (Str.ofString "loose"), key := Value.str (Str.ofString "loose") t5, val := Value.bool false }] 5
abbrev fnS (n : List (Str × NameKind)) (g c : Bool) (mo : List (Str × Const)) : Scope := { kind := .function, names := n, isGenerator := g, isCoroutine := c, more := mo }

set_option maxHeartbeats 8000000 in
theorem mkVec {w : World} {mean : ExcName → Option Value} {mg mb : Str → Option Value} {dp un : Nat} {gd : Option (List Code)} {cn : Str} {cnm : List (Str × NameKind)} {cg cc : Bool} {cm : List (Str × Const)} {a : Addr} {ccd : Value} {cl : List (Str × Addr)} {outer : List Env} {A₀ : Around} {base h₀ : Heap} {L : Addr} {m : Str → Option Value} {s : Shared} {Q E : Value → Shared → Prop}
    (B : Below A₀ base outer h₀) (F : Fr h₀ L s.heap m) (X : (Mine.hd.heap_39 w.params).In h₀) (T : Top Mine.hd.view_39 (looseW Mine.hd.view_39 []) mean mg mb h₀) (hd : dp + 6 < recursionLimit) (hu : un + 40 < cLine)
    {k i : Value} {news : List (Addr × Obj)}
    (N : News h₀ L s.heap news)
    (hret : ∀ x d t1 t2 t3 t4 t5 h' tk', Fr h₀ L h' m → News h₀ L h' ((x, instObj 92 d) :: (d, vecD w t1 t2 t3 t4 t5 k i .none) :: news) → (∀ p ∈ news, p.1 < d) → d < x → Q (.ref x) { s with heap := h', toks := tk' }) :
    wpAny (model PySem.Challenge.rw_pq1396_01.row.prog w) (ktrTop dp un gd cn (fnS cnm cg cc cm) L a ccd cl outer) (call (.ref 92) [k, i]) Q E s := by
  revert X; k_fill; intro X
  k_steps
  exact hret _ _ _ _ _ _ _ _ _ (by assumption) (by assumption) (by assumption) (by assumption)
end Mine
end
section
open PySem PySem.W PyProof.Rows
namespace Mine
structure ItemAt (vs : List Value) (i : Int) (v : Value) : Prop where
  lo : 1 ≤ i
  hi : i ≤ vs.length
  at_ : vs[(i - 1).toNat]? = some v
  fit : vs.length < 100
end Mine
end
section
open PySem PySem.W PyProof.Rows
namespace Mine
/-- a comprehension without a test over a list: every turn yields a value that stands in Y, over a ledger that grows -/
theorem rest_map {prog : Program} {w : World} {A : Around} {h₀ : Heap} {L : Addr} {m : Str → Option Value} {env : Env} {elt : PySem.Expr} {x : Str} {scope : Scope} {cl : List (Str × Addr)} {s : Shared} {S : List (Addr × Obj) → Prop} {Fin : List Value → List (Addr × Obj) → Prop} {news₀ : List (Addr × Obj)} {vs : List Value}
    (Y : List (Addr × Obj) → Value → Value → Prop) (mono : ∀ l l' v y, (∀ p ∈ l, p ∈ l') → Y l v y → Y l' v y)
    (turn : ∀ v news I oI C oC D m₂ ys h tk (E' : Value → Shared → Prop), v ∈ vs → (∀ p ∈ news₀, p ∈ news) → LCg.NsObj oC m₂ → m₂ x = some v → Fr h₀ L h m → News h₀ L h ((I, oI) :: (C, oC) :: (D, LCg.lst ys) :: news) → LCg.Off3 I C D news → ((@Ne Nat I C) ∧ (@Ne Nat I D) ∧ (@Ne Nat C D)) → S news →
      wpAny (model prog w) A (eval elt (compEnvC scope cl C env)) (LCg.CompEnd h₀ L m { s with heap := h, toks := tk } I oI C oC D (LCg.lst ys) S (fun y news' => (∀ p ∈ news, p ∈ news') ∧ Y news' v y)) E' { s with heap := h, toks := tk })
    (hS : ∀ l, (∀ p ∈ news₀, p ∈ l) → S l)
    (fin : ∀ ys news, (∀ p ∈ news₀, p ∈ news) → Paired (Y news) vs ys → Fin ys news) :
    LCg.CompRest prog w A h₀ L m env elt x scope cl s S (fun i v => vs.toArray[i]? = some v) Fin vs.toArray.size 0 [] news₀ := by
  have key : ∀ (post pre : List Value) (ys : List Value) (news : List (Addr × Obj)), vs = pre ++ post → (∀ p ∈ news₀, p ∈ news) → Paired (Y news) pre ys →
      LCg.CompRest prog w A h₀ L m env elt x scope cl s S (fun i v => vs.toArray[i]? = some v) Fin post.length pre.length ys news := by
    intro post
    induction post with
    | nil =>
      intro pre ys news e hs hp
      rw [List.append_nil] at e
      subst e
      exact LCg.CompRest.zero (fin ys news hs hp)
    | cons v post ih =>
      intro pre ys news e hs hp
      refine LCg.CompRest.succ ?_
      intro v' I oI C oC D m₂ h tk E' hv hC hx F N off ne
      have hv' : v' = v := by
        rw [e] at hv
        simpa using hv.symm
      subst hv'
      refine wpAny_mono (turn v' news I oI C oC D m₂ ys h tk E' (by rw [e]; simp) hs hC hx F N off ne (hS _ hs)) (fun y s₂ hq => ?_) fun _ _ z => z
      obtain ⟨h', tk', nw, es, F', N', off', hS', hsub, hY⟩ := hq
      refine ⟨h', tk', nw, es, F', N', off', hS', ?_⟩
      have hp' : Paired (Y nw) (pre ++ [v']) (ys ++ [y]) := Paired.snoc (Paired.mono (fun a b q => mono _ _ _ _ hsub q) hp) hY
      have := ih (pre ++ [v']) (ys ++ [y]) nw (by rw [e]; simp) (fun p hp => hsub p (hs p hp)) hp'
      simpa using this
  have := key vs [] [] news₀ rfl (fun _ h => h) .nil
  simpa using this
end Mine
end
section
open PySem PySem.W PyProof.Rows
namespace Mine
def VecIs (w : World) (k : Str) (u : Value) (news : List (Addr × Obj)) (y : Value) : Prop :=
  ∃ x d l t1 t2 t3 t4 t5 tk n, y = .ref x ∧ (x, instObj 92 d) ∈ news ∧ (d, vecD w t1 t2 t3 t4 t5 (.str k tk) (.ref l) .none) ∈ news ∧ (l, W.listOf #[u] n) ∈ news
theorem VecIs.mono {w : World} {k : Str} {u y : Value} {l l' : List (Addr × Obj)} (h : ∀ p ∈ l, p ∈ l') (q : VecIs w k u l y) : VecIs w k u l' y := by
  obtain ⟨x, d, l, t1, t2, t3, t4, t5, tk, n, e, a, b, c⟩ := q
  exact ⟨x, d, l, t1, t2, t3, t4, t5, tk, n, e, h _ a, h _ b, h _ c⟩
theorem turn_led {h₀ h : Heap} {L : Addr} {a b c : Addr × Obj} {news₀ news : List (Addr × Obj)} (N : News h₀ L h (a :: b :: c :: news)) (hs : ∀ p ∈ news₀, p ∈ news) : News h₀ L h (a :: b :: c :: (news₀ ++ news)) := fun p hp => by
  rcases List.mem_cons.mp hp with e | hp
  · exact N p (e ▸ List.mem_cons_self)
  rcases List.mem_cons.mp hp with e | hp
  · exact N p (e ▸ List.mem_cons_of_mem _ List.mem_cons_self)
  rcases List.mem_cons.mp hp with e | hp
  · exact N p (e ▸ List.mem_cons_of_mem _ (List.mem_cons_of_mem _ List.mem_cons_self))
  rcases List.mem_append.mp hp with hp | hp
  · exact N p (List.mem_cons_of_mem _ (List.mem_cons_of_mem _ (List.mem_cons_of_mem _ (hs p hp))))
  · exact N p (List.mem_cons_of_mem _ (List.mem_cons_of_mem _ (List.mem_cons_of_mem _ hp)))
theorem vec_end {h₀ h' : Heap} {L : Addr} {x d l I C D : Nat} {m : Str → Option Value} {s₁ : Shared} {ox od ol oI oC oD : Obj} {S : List (Addr × Obj) → Prop} {rest : Value → List (Addr × Obj) → Prop} {y : Value} {tk : Nat} {tail news1 : List (Addr × Obj)}
    (F : Fr h₀ L h' m) (N : News h₀ L h' ((x, ox) :: (d, od) :: (l, ol) :: (I, oI) :: (C, oC) :: (D, oD) :: tail)) (ht : ∀ p ∈ news1, p ∈ tail) (h1 : I < l) (h2 : C < l) (h3 : D < l) (h4 : l < d) (h5 : d < x) (off : LCg.Off3 I C D news1)
    (hS : S ((x, ox) :: (d, od) :: (l, ol) :: news1)) (r : rest y ((x, ox) :: (d, od) :: (l, ol) :: news1)) :
    LCg.CompEnd h₀ L m s₁ I oI C oC D oD S rest y { s₁ with heap := h', toks := tk } := by
  refine LCg.CompEnd.intro F N _ (fun p hp => ?_) ?_ hS r
  · simp only [List.mem_cons] at hp ⊢
    rcases hp with hp | hp | hp | hp | hp | hp | hp
    · simp [hp]
    · simp [hp]
    · simp [hp]
    · simp [hp]
    · simp [hp]
    · simp [hp]
    · have := ht p hp; simp [this]
  · refine ⟨⟨Nat.ne_of_gt (by omega), Nat.ne_of_gt (by omega), Nat.ne_of_gt (by omega)⟩, ⟨Nat.ne_of_gt (by omega), Nat.ne_of_gt (by omega), Nat.ne_of_gt (by omega)⟩, ⟨Nat.ne_of_gt h1, Nat.ne_of_gt h2, Nat.ne_of_gt h3⟩, off⟩
theorem SrcAt.mono' {h₀ : Heap} {ax : Addr} {its : Array Value} {l l' : List (Addr × Obj)} (h : ∀ p ∈ l, p ∈ l') (q : LCg.SrcAt h₀ ax its l) : LCg.SrcAt h₀ ax its l' := by
  rcases q with q | ⟨o, ho, r⟩
  · exact .inl q
  · exact .inr ⟨o, h _ ho, r⟩
local macro_rules | `(tactic| walk_at "eval ListComp") => `(tactic| (k_here; k_dflt (refine LCg.ListComp_U (F₀ := by k_asm) (by with_unfolding_all rfl) (by decide) (by rfl) (by decide) (by rfl) ?_)))
local macro_rules | `(tactic| walk_at "call ref") => `(tactic| (k_here; (with_reducible show wpAny _ _ (call (Value.ref 92) [_, _]) _ _ _); k_dflt (refine' mkVec ?k1 ?k2 ?k3 ?k4 ?k5 ?k6 ?k7 ?_; (case k1 => k_asm); (case k2 => k_asm); (case k3 => k_asm); (case k4 => k_asm); (case k5 => first | omega | decide | (dsimp only [ktrTop]; omega) | (dsimp only [ktrTop]; decide)); (case k6 => first | omega | decide | (dsimp only [ktrTop]; omega) | (dsimp only [ktrTop]; decide)); (case k7 => k_asm)); intro x9 d9 t91 t92 t93 t94 t95 h9 tk9 F9 N9 low9 lt9; (try k_lt low9); k_lt2 lt9; (try k_sweep)))
set_option maxHeartbeats 8000000 in
theorem lv_bare {w : World} {mean : ExcName → Option Value} {mg mb : Str → Option Value} {dp un : Nat} {gd : Option (List Code)} {cn : Str} {cnm : List (Str × NameKind)} {cg cc : Bool} {cm : List (Str × Const)} {a : Addr} {ccd : Value} {cl : List (Str × Addr)} {outer : List Env} {A₀ : Around} {base h₀ : Heap} {L : Addr} {m : Str → Option Value} {s : Shared} {Q E : Value → Shared → Prop}
    (B : Below A₀ base outer h₀) (F : Fr h₀ L s.heap m) (X : (Mine.hd.heap_39 w.params).In h₀) (T : Top Mine.hd.view_39 (looseW Mine.hd.view_39 []) mean mg mb h₀) (hd : dp + 20 < recursionLimit) (hu : un + 100 < cLine)
    {x d I : Addr} {t1 t2 t3 t4 t5 tk : Nat} {vs : List Value} {n : Nat} {news : List (Addr × Obj)} (hlen : vs.length < 100)
    (N : News h₀ L s.heap ((x, instObj 92 d) :: (d, vecD w t1 t2 t3 t4 t5 (.str (Str.ofString "integer") tk) (.ref I) .none) :: (I, W.listOf vs.toArray n) :: news))
    (hret : ∀ D ys news' h' tk', Fr h₀ L h' m → News h₀ L h' news' → (∀ p ∈ news, p ∈ news') → (D, LCg.lst ys) ∈ news' → Paired (fun v y => VecIs w (Str.ofString "integer") v news' y) vs ys → Q (.ref D) { s with heap := h', toks := tk' }) :
    wpAny (model PySem.Challenge.rw_pq1396_01.row.prog w) (ktrTop dp un gd cn (fnS cnm cg cc cm) L a ccd cl outer) (call (.ref 115) [.ref x]) Q E s := by
  revert X; k_fill; intro X
  k_steps
  have hsz : vs.toArray.size ≤ sizeLine := by rw [PySem.sizeLine_eq, List.size_toArray]; omega
  k_dflt (refine LCg.CompSrc.ledger (by rfl) (by k_asm) (by k_asm) (by k_mem) hsz ?_)
  intro g'
  refine rest_map (fun l v y => VecIs w (Str.ofString "integer") v l y) (fun l l' v y h q => VecIs.mono h q) ?_ (fun l hl => .inr ⟨_, hl _ (by k_mem), rfl, _, rfl⟩) ?_
  · intro v news1 I oI C oC D m₂ ys h tk E' hv hsub hC hx F N off ne hS
    replace N := turn_led N hsub
    (simp only [List.cons_append] at N)
    first | k_fold | (k_unmd; k_fold) | (dsimp only; k_fold)
    k_steps
    refine vec_end (by assumption) (by assumption) (fun p hp => by simp [hp]) (by omega) (by omega) (by omega) (by omega) (by omega) off (SrcAt.mono' (fun p hp => by simp [hp]) hS) ⟨fun p hp => by simp [hp], ⟨_, _, _, _, _, _, _, _, _, _, rfl, .head _, .tail _ (.head _), .tail _ (.tail _ (.head _))⟩⟩
  · intro ys news1 hsub hp
    k_steps
    exact hret _ ys _ _ _ (by assumption) (by assumption) (fun p hp => List.mem_cons_of_mem _ (hsub p (by simp [hp]))) (.head _) (Paired.mono (fun a b q => VecIs.mono (fun p hp => List.mem_cons_of_mem _ hp) q) hp)
end Mine
end
section
open PySem PySem.W PyProof.Rows
namespace Mine
local macro_rules | `(tactic| walk_at "eval ListComp") => `(tactic| (k_here; k_dflt (refine LCg.ListComp_U (F₀ := by k_asm) (by with_unfolding_all rfl) (by decide) (by rfl) (by decide) (by rfl) ?_)))
local macro_rules | `(tactic| walk_at "call ref") => `(tactic| (k_here; (with_reducible show wpAny _ _ (call (Value.ref 92) [_, _]) _ _ _); k_dflt (refine' mkVec ?k1 ?k2 ?k3 ?k4 ?k5 ?k6 ?k7 ?_; (case k1 => k_asm); (case k2 => k_asm); (case k3 => k_asm); (case k4 => k_asm); (case k5 => first | omega | decide | (dsimp only [ktrTop]; omega) | (dsimp only [ktrTop]; decide)); (case k6 => first | omega | decide | (dsimp only [ktrTop]; omega) | (dsimp only [ktrTop]; decide)); (case k7 => k_asm)); intro x9 d9 t91 t92 t93 t94 t95 h9 tk9 F9 N9 low9 lt9; (try k_lt low9); k_lt2 lt9; (try k_sweep)))
set_option maxHeartbeats 8000000 in
theorem lv_other {w : World} {mean : ExcName → Option Value} {mg mb : Str → Option Value} {dp un : Nat} {gd : Option (List Code)} {cn : Str} {cnm : List (Str × NameKind)} {cg cc : Bool} {cm : List (Str × Const)} {a : Addr} {ccd : Value} {cl : List (Str × Addr)} {outer : List Env} {A₀ : Around} {base h₀ : Heap} {L : Addr} {m : Str → Option Value} {s : Shared} {Q E : Value → Shared → Prop}
    (B : Below A₀ base outer h₀) (F : Fr h₀ L s.heap m) (X : (Mine.hd.heap_39 w.params).In h₀) (T : Top Mine.hd.view_39 (looseW Mine.hd.view_39 []) mean mg mb h₀) (hd : dp + 20 < recursionLimit) (hu : un + 100 < cLine)
    {x d I ad cx cd ci : Addr} {t1 t2 t3 t4 t5 tk c1 c2 c3 c4 c5 ck fk nc : Nat} {o : Obj} {av : Value} {vs : List Value} {n : Nat} {news : List (Addr × Obj)} (hlen : vs.length < 100)
    (hO : o.IsDictOf (PySem.strKind PySem.Challenge.rw_pq1396_01.row.prog w) [(Str.ofString "class", .ref cx), (Str.ofString "levels", av)]) (hM : (ad == sysModules) = false)
    (N : News h₀ L s.heap ((x, instObj 92 d) :: (d, vecD w t1 t2 t3 t4 t5 (.str (Str.ofString "integer") tk) (.ref I) (.ref ad)) :: (I, W.listOf vs.toArray n) :: (ad, o) :: (cx, instObj 92 cd) :: (cd, vecD w c1 c2 c3 c4 c5 (.str (Str.ofString "character") ck) (.ref ci) .none) :: (ci, W.listOf #[.str (Str.ofString "other") fk] nc) :: news))
    (hret : ∀ D ys news' h' tk', Fr h₀ L h' m → News h₀ L h' news' → (∀ p ∈ news, p ∈ news') → (D, LCg.lst ys) ∈ news' → Paired (fun v y => VecIs w (Str.ofString "integer") v news' y) vs ys → Q (.ref D) { s with heap := h', toks := tk' }) :
    wpAny (model PySem.Challenge.rw_pq1396_01.row.prog w) (ktrTop dp un gd cn (fnS cnm cg cc cm) L a ccd cl outer) (call (.ref 115) [.ref x]) Q E s := by
  revert X; k_fill; intro X
  k_steps
  have hsz : vs.toArray.size ≤ sizeLine := by rw [PySem.sizeLine_eq, List.size_toArray]; omega
  k_dflt (refine LCg.CompSrc.ledger (by rfl) (by k_asm) (by k_asm) (by k_mem) hsz ?_)
  intro g'
  refine rest_map (fun l v y => VecIs w (Str.ofString "integer") v l y) (fun l l' v y h q => VecIs.mono h q) ?_ (fun l hl => .inr ⟨_, hl _ (by k_mem), rfl, _, rfl⟩) ?_
  · intro v news1 I oI C oC D m₂ ys h tk E' hv hsub hC hx F N off ne hS
    replace N := turn_led N hsub
    (simp only [List.cons_append] at N)
    first | k_fold | (k_unmd; k_fold) | (dsimp only; k_fold)
    k_steps
    refine vec_end (by assumption) (by assumption) (fun p hp => by simp [hp]) (by omega) (by omega) (by omega) (by omega) (by omega) off (SrcAt.mono' (fun p hp => by simp [hp]) hS) ⟨fun p hp => by simp [hp], ⟨_, _, _, _, _, _, _, _, _, _, rfl, .head _, .tail _ (.head _), .tail _ (.tail _ (.head _))⟩⟩
  · intro ys news1 hsub hp
    k_steps
    exact hret _ ys _ _ _ (by assumption) (by assumption) (fun p hp => List.mem_cons_of_mem _ (hsub p (by simp [hp]))) (.head _) (Paired.mono (fun a b q => VecIs.mono (fun p hp => List.mem_cons_of_mem _ hp) q) hp)
end Mine
end
section
open PySem PySem.W PyProof.Rows
namespace Mine
def CodeOk (tvs : List Value) (v u : Value) : Prop := (v = .none ∧ u = .none) ∨ ∃ i tk, v = .int i tk ∧ ItemAt tvs i u
local macro_rules | `(tactic| walk_at "eval ListComp") => `(tactic| (k_here; k_dflt (refine LCg.ListComp_U (F₀ := by k_asm) (by with_unfolding_all rfl) (by decide) (by rfl) (by decide) (by rfl) ?_)))
local macro_rules | `(tactic| walk_at "call builtin:len") => `(tactic| (k_here; (rename ItemAt _ _ _ => iaX); (with_reducible show wpAny _ _ (call (Value.builtin "len") [Value.ref _]) _ _ _); k_dflt (refine' kst_len ?k1 ?k2 rfl ?k4 ?_; (case k1 => k_asm); (case k2 => k_mem); (case k4 => (have := ItemAt.fit iaX); omega))))
local macro_rules | `(tactic| walk_at "subscriptTail") => `(tactic| (k_here; (rename ItemAt _ _ _ => iaX); (with_reducible show wpAny _ _ (subscriptTail _ _ (Value.ref _) (Value.int _ _)) _ _ _); (with_unfolding_all refine' item_litK ?k1 ?k2 ?k3 ?k4 ?_ ?k6; (case k1 => exact News.isList (by k_asm) (by k_mem)); (case k2 => ((have := ItemAt.lo iaX); omega)); (case k3 => ((have := ItemAt.hi iaX); (have := ItemAt.fit iaX); omega)); (case k4 => exact ItemAt.at_ iaX); (case k6 => with_unfolding_all rfl); k_whole)))
local macro_rules | `(tactic| walk_at "call ref") => `(tactic| (k_here; (with_reducible show wpAny _ _ (call (Value.ref 92) [_, _]) _ _ _); k_dflt (refine' mkVec ?k1 ?k2 ?k3 ?k4 ?k5 ?k6 ?k7 ?_; (case k1 => k_asm); (case k2 => k_asm); (case k3 => k_asm); (case k4 => k_asm); (case k5 => first | omega | decide | (dsimp only [ktrTop]; omega) | (dsimp only [ktrTop]; decide)); (case k6 => first | omega | decide | (dsimp only [ktrTop]; omega) | (dsimp only [ktrTop]; decide)); (case k7 => k_asm)); intro x9 d9 t91 t92 t93 t94 t95 h9 tk9 F9 N9 low9 lt9; (try k_lt low9); k_lt2 lt9; (try k_sweep)))
set_option maxHeartbeats 16000000 in
theorem lv_text {w : World} {mean : ExcName → Option Value} {mg mb : Str → Option Value} {dp un : Nat} {gd : Option (List Code)} {cn : Str} {cnm : List (Str × NameKind)} {cg cc : Bool} {cm : List (Str × Const)} {a : Addr} {ccd : Value} {cl : List (Str × Addr)} {outer : List Env} {A₀ : Around} {base h₀ : Heap} {L : Addr} {m : Str → Option Value} {s : Shared} {Q E : Value → Shared → Prop}
    (B : Below A₀ base outer h₀) (F : Fr h₀ L s.heap m) (X : (Mine.hd.heap_39 w.params).In h₀) (T : Top Mine.hd.view_39 (looseW Mine.hd.view_39 []) mean mg mb h₀) (hd : dp + 20 < recursionLimit) (hu : un + 100 < cLine)
    {x d I ad cx cd ci lx ld li : Addr} {t1 t2 t3 t4 t5 tk c1 c2 c3 c4 c5 ck fk l1 l2 l3 l4 l5 lk : Nat} {vs tvs : List Value} {n nc nl : Nat} {news : List (Addr × Obj)} {o : Obj} (hlen : vs.length < 100)
    (hO : o.IsDictOf (PySem.strKind PySem.Challenge.rw_pq1396_01.row.prog w) [(Str.ofString "class", .ref cx), (Str.ofString "levels", .ref lx)]) (hM : (ad == sysModules) = false)
    (hG : ∀ v ∈ vs, ∃ u, CodeOk tvs v u)
    (N : News h₀ L s.heap ((x, instObj 92 d) :: (d, vecD w t1 t2 t3 t4 t5 (.str (Str.ofString "integer") tk) (.ref I) (.ref ad)) :: (I, W.listOf vs.toArray n) :: (ad, o) :: (cx, instObj 92 cd) :: (cd, vecD w c1 c2 c3 c4 c5 (.str (Str.ofString "character") ck) (.ref ci) .none) :: (ci, W.listOf #[.str (Str.ofString "factor") fk] nc)
      :: (lx, instObj 92 ld) :: (ld, vecD w l1 l2 l3 l4 l5 (.str (Str.ofString "character") lk) (.ref li) .none) :: (li, W.listOf tvs.toArray nl) :: news))
    (hret : ∀ D ys news' h' tk', Fr h₀ L h' m → News h₀ L h' news' → (∀ p ∈ news, p ∈ news') → (D, LCg.lst ys) ∈ news' → Paired (fun v y => ∃ u, CodeOk tvs v u ∧ VecIs w (Str.ofString "character") u news' y) vs ys → Q (.ref D) { s with heap := h', toks := tk' }) :
    wpAny (model PySem.Challenge.rw_pq1396_01.row.prog w) (ktrTop dp un gd cn (fnS cnm cg cc cm) L a ccd cl outer) (call (.ref 115) [.ref x]) Q E s := by
  revert X; k_fill; intro X
  k_steps
  have hsz : vs.toArray.size ≤ sizeLine := by rw [PySem.sizeLine_eq, List.size_toArray]; omega
  k_dflt (refine LCg.CompSrc.ledger (by rfl) (by k_asm) (by k_asm) (by k_mem) hsz ?_)
  intro g'
  refine rest_map (fun l v y => ∃ u, CodeOk tvs v u ∧ VecIs w (Str.ofString "character") u l y) (fun l l' v y h q => q.imp fun u q => ⟨q.1, VecIs.mono h q.2⟩) ?_ (fun l hl => .inr ⟨_, hl _ (by k_mem), rfl, _, rfl⟩) ?_
  · intro v news1 I oI C oC D m₂ ys h tk E' hv hsub hC hx F N off ne hS
    replace N := turn_led N hsub
    (simp only [List.cons_append] at N)
    obtain ⟨u, ⟨rfl, rfl⟩ | ⟨i, ik, rfl, iaX⟩⟩ := hG v hv
    · first | k_fold | (k_unmd; k_fold) | (dsimp only; k_fold)
      k_steps
      refine vec_end (by assumption) (by assumption) (fun p hp => by simp [hp]) (by omega) (by omega) (by omega) (by omega) (by omega) off (SrcAt.mono' (fun p hp => by simp [hp]) hS) ⟨fun p hp => by simp [hp], ⟨_, .inl ⟨rfl, rfl⟩, _, _, _, _, _, _, _, _, _, _, rfl, .head _, .tail _ (.head _), .tail _ (.tail _ (.head _))⟩⟩
    · first | k_fold | (k_unmd; k_fold) | (dsimp only; k_fold)
      have h1 := iaX.lo
      have h2 := iaX.hi
      k_steps
      all_goals refine vec_end (by assumption) (by assumption) (fun p hp => by simp [hp]) (by omega) (by omega) (by omega) (by omega) (by omega) off (SrcAt.mono' (fun p hp => by simp [hp]) hS) ⟨fun p hp => by simp [hp], ⟨_, .inr ⟨_, _, rfl, by assumption⟩, _, _, _, _, _, _, _, _, _, _, rfl, .head _, .tail _ (.head _), .tail _ (.tail _ (.head _))⟩⟩
  · intro ys news1 hsub hp
    k_steps
    exact hret _ ys _ _ _ (by assumption) (by assumption) (fun p hp => List.mem_cons_of_mem _ (hsub p (by simp [hp]))) (.head _) (Paired.mono (fun a b q => q.imp fun u q => ⟨q.1, VecIs.mono (fun p hp => List.mem_cons_of_mem _ hp) q.2⟩) hp)
end Mine
end
section
open PySem PySem.W PyProof.Rows
namespace Mine
theorem dict_mapFields (o : Obj) (f) : (o.mapFields f).dict = o.dict := by
  obtain ⟨c, d, dt, sl⟩ := o; cases dt <;> rfl
abbrev frs (l : List Env) : List Addr := l.filterMap (·.frame)

/-- what one note of a frame turns in the heap -/
structure NoteTo (l : List Env) (e : Addr) (oe : Obj) (vs : Array Value) (fl : Value) (h h' : Heap) : Prop where
  size : h'.objs.size = h.objs.size + 1
  keep : ∀ b o, b ≠ e → b ∉ frs l → h.get? b = some o → h'.get? b = some o
  upto : ∀ b o, b ≠ e → h.get? b = some o → ∃ sl, h'.get? b = some { o with slots := sl }
  at_ : ∃ oe' T oT ts, h'.get? e = some oe' ∧ oe'.cls = oe.cls ∧ oe'.dict = oe.dict ∧ oe'.data = .fields (vs.setIfInBounds 1 (.ref T)) ∧ T ≠ e ∧ T = h.objs.size ∧ h'.get? T = some oT ∧ oT.data = .fields ts ∧ ts[3]? = some fl

theorem frs_some {h base : Heap} {l : List Env} (hl : h.FunFrames base l) {b : Addr} (hb : b ∈ frs l) : ∃ o, h.get? b = some o ∧ ∀ vs, o.data ≠ .fields vs := (hl.mem hb).2

section
variable {M : Model} {A : Around} {E : Value → Shared → Prop} {s : Shared}
theorem note_entry {base : Heap} {env : Env} {outer : List Env} {L e : Addr} {oe : Obj} {vs : Array Value} {head : Value} {hn : Bool} {Q : Unit → Shared → Prop}
    (hfr : A.frames = some (env :: outer)) (hl : s.heap.FunFrames base (env :: outer)) (hf : env.frame = some L)
    (he : s.heap.get? e = some oe) (hd : oe.data = .fields vs) (hsz : 1 < vs.size)
    (h : ∀ h', NoteTo (env :: outer) e oe vs (rawInt L) s.heap h' → Q () { s with heap := h' }) :
    wpAny M A (do let a ← frameOf env; let pl ← entryPlaceOf L hn; let b ← EntryCells.newEntry head a .none (rawInt L) .none pl; setField (.ref e) 1 b) Q E s := by
  have ene : e ∉ frs (env :: outer) := fun hm => by
    obtain ⟨o, ho, hnf⟩ := frs_some hl hm
    rw [he] at ho
    cases ho
    exact hnf vs hd
  refine wpAny_bind (wpAny_frameOf_fun hfr hl hf fun h₁ hs₁ => wpAny_bind (wpAny_entryPlaceOf fun pl hpl => ?_))
  unfold EntryCells.newEntry newFields
  refine wpAny_bind (wpAny_newObj_type ?_ (hpl.sizeOk5 _ _ _ _ _))
  generalize hoT : ({ cls := .type "traceback", dict := none, data := .fields ([head, .ref L, .none, rawInt L, .none] ++ (if pl.isEmpty then List.replicate 6 Value.none else pl)).toArray } : Obj) = oT
  have he₁ : h₁.get? e = some oe := (hs₁.2.1 e ene).trans he
  have he₂ : (h₁.push oT).get? e = some oe := Heap.get?_push_of_some _ he₁
  refine wpAny_setField he₂ hd hsz (h _ ?_)
  have hTe : h₁.objs.size ≠ e := Nat.ne_of_gt (Heap.lt_size he₁)
  have up : ∀ b o, b ≠ e → h₁.get? b = some o → ((h₁.push oT).update e (Obj.mapFields (·.setIfInBounds 1 (Value.ref h₁.objs.size)))).get? b = some o := fun b o hb q => by
    rw [Heap.get?_update_other _ _ (Ne.symm hb)]
    exact Heap.get?_push_of_some _ q
  refine ⟨by rw [Heap.size_after_update, Heap.size_push, hs₁.1], fun b o hb hm q => up b o hb ((hs₁.2.1 b hm).trans q), fun b o hb q => ?_, ?_⟩
  · obtain ⟨sl, hs⟩ := hs₁.2.2 b o q
    exact ⟨sl, up b _ hb hs⟩
  · have hd₃ := Obj.data_mapFields hd (·.setIfInBounds 1 (Value.ref h₁.objs.size))
    refine ⟨_, h₁.objs.size, oT, _, Heap.get?_update_self _ he₂ (Obj.isFreed_of_fields hd₃), Obj.cls_mapFields _ _, dict_mapFields _ _, hd₃, hTe, hs₁.1, ?_, by rw [← hoT], ?_⟩
    · rw [Heap.get?_update_other _ _ (Ne.symm hTe)]
      exact Heap.get?_push_size _ (by rw [← hoT]; rfl)
    · first | (simp; done) | (rcases hpl with rfl | ⟨_, _, _, _, _, _, _, rfl⟩ <;> simp)
end

/-- an exception on its way: H is the heap where it was raised, X what was let go meanwhile, Z the frames -/
structure Fly (H : Heap) (X Z : List Addr) (base : Heap) (l : List Env) (e : Addr) (cls : Value) (dd : Option Addr) (fl : Value) (h : Heap) : Prop where
  keep : ∀ b o, H.get? b = some o → b ∉ X → b ∉ Z → b ≠ e → h.get? b = some o
  upto : ∀ b o, H.get? b = some o → b ∉ X → b ≠ e → ∃ sl, h.get? b = some { o with slots := sl }
  frames : h.FunFrames base l
  inZ : ∀ b ∈ frs l, b ∈ Z ∧ b ∉ X
  at_ : ∃ oe vs T oT ts, h.get? e = some oe ∧ oe.cls = cls ∧ oe.dict = dd ∧ oe.data = .fields vs ∧ vs[1]? = some (.ref T) ∧ T ≠ e ∧ H.get? T = none ∧ h.get? T = some oT ∧ oT.data = .fields ts ∧ ts[3]? = some fl
  size : H.objs.size ≤ h.objs.size

theorem Fly.tail {H : Heap} {X Z : List Addr} {base : Heap} {env : Env} {l : List Env} {e : Addr} {cls : Value} {dd : Option Addr} {fl : Value} {h : Heap} (F : Fly H X Z base (env :: l) e cls dd fl h) : Fly H X Z base l e cls dd fl h := by
  obtain ⟨a, b, c, d, f, g⟩ := F
  obtain ⟨c1, c2, c3⟩ := c
  refine ⟨a, b, c3, fun x hx => d x ?_, f, g⟩
  obtain ⟨L, o, hf, _⟩ := c2
  show x ∈ (env :: l).filterMap (·.frame)
  rw [List.filterMap_cons, hf]
  exact List.mem_cons_of_mem _ hx

section
variable {M : Model} {A : Around} {E : Value → Shared → Prop} {s : Shared} {H base : Heap} {X Z : List Addr} {env : Env} {outer l : List Env} {L e : Addr} {cls : Value} {dd : Option Addr} {fl : Value} {Q : Unit → Shared → Prop}

theorem fly_first {oe : Obj} {vs : Array Value} (hfr : A.frames = some (env :: outer)) (hl : s.heap.FunFrames base (env :: outer)) (hf : env.frame = some L)
    (he : s.heap.get? e = some oe) (hd : oe.data = .fields vs) (h1 : vs[1]? = some .none) (hZ : ∀ b ∈ frs (env :: outer), b ∈ Z)
    (h : ∀ h', Fly s.heap [] Z base (env :: outer) e oe.cls oe.dict (rawInt L) h' → Q () { s with heap := h' }) : wpAny M A (noteFrame (.ref e) env) Q E s := by
  unfold noteFrame
  simp only [hf]
  refine wpAny_bind (wpAny_field he hd h1 ?_)
  rw [if_neg (by decide)]
  have hsz := (Array.getElem?_eq_some_iff.mp h1).1
  refine note_entry hfr hl hf he hd hsz fun h' N => h h' ⟨fun b o q _ hb hbe => N.keep b o hbe (fun hm => hb (hZ b hm)) q, fun b o q _ hbe => N.upto b o hbe q, ?_, fun b hb => ⟨hZ b hb, fun q => nomatch q⟩, ?_, by rw [N.size]; exact Nat.le_succ _⟩
  · exact hl.of_keeps fun b o ho hnf => by
      have hbe : b ≠ e := fun q => by
        rw [q, he] at ho
        cases ho
        exact hnf vs hd
      obtain ⟨sl, hs⟩ := N.upto b o hbe ho
      exact ⟨_, hs, rfl⟩
  · obtain ⟨oe', T, oT, ts, a1, a2, a3, a4, a5, a6, a7, a8, a9⟩ := N.at_
    exact ⟨oe', _, T, oT, ts, a1, a2, a3, a4, by simp [hsz], a5, a6 ▸ Heap.get?_none_of_le (Nat.le_refl _), a7, a8, a9⟩

theorem fly_set (f : Option Addr) (F : Fly H X Z base l e cls dd fl s.heap)
    (h : ∀ h', Fly H X Z base l e cls dd (f.elim .none fun a => rawInt a) h' → Q () { s with heap := h' }) : wpAny M A (setFlight (.ref e) f) Q E s := by
  obtain ⟨k, u, fr, iz, ⟨oe, vs, T, oT, ts, he, hc, hdd, hd, h1, hTe, hHT, hT, hdT, h3⟩, sx⟩ := F
  have hsz : 3 < ts.size := (Array.getElem?_eq_some_iff.mp h3).1
  have other : ∀ b o, b ≠ T → s.heap.get? b = some o → (s.heap.update T (Obj.mapFields (·.setIfInBounds 3 (f.elim .none fun a => rawInt a)))).get? b = some o := fun b o hb q => (Heap.get?_update_other _ _ (Ne.symm hb)).trans q
  have hne : ∀ b o, H.get? b = some o → b ≠ T := fun b o q r => by rw [r, hHT] at q; cases q
  unfold setFlight
  refine wpAny_bind (wpAny_field he hd h1 ?_)
  rw [if_pos (show (Value.ref T != Value.none) = true from by simp)]
  refine wpAny_setField hT hdT hsz (h _ ⟨fun b o q hx hz hbe => other b o (hne b o q) (k b o q hx hz hbe), fun b o q hx hbe => ?_, ?_, iz, ?_, by rw [Heap.size_after_update]; exact sx⟩)
  · obtain ⟨sl, hs⟩ := u b o q hx hbe
    exact ⟨sl, other b _ (hne b o q) hs⟩
  · exact fr.of_keeps fun b o ho hnf => ⟨o, other b o (fun q => by
      rw [q, hT] at ho
      cases ho
      exact hnf ts hdT) ho, rfl⟩
  · exact ⟨oe, vs, T, _, _, other e oe (Ne.symm hTe) he, hc, hdd, hd, h1, hTe, hHT, Heap.get?_update_self _ hT (Obj.isFreed_of_fields (Obj.data_mapFields hdT _)), Obj.data_mapFields hdT _, by simp [hsz]⟩

/-- a frame's note, whatever the mark was -/
theorem fly_note (hfr : A.frames = some (env :: outer)) (hf : env.frame = some L) (F : Fly H X Z base (env :: outer) e cls dd fl s.heap)
    (h : ∀ h', Fly H X Z base (env :: outer) e cls dd (rawInt L) h' → Q () { s with heap := h' }) : wpAny M A (noteFrame (.ref e) env) Q E s := by
  obtain ⟨k, u, fr, iz, ⟨oe, vs, T, oT, ts, he, hc, hdd, hd, h1, hTe, hHT, hT, hdT, h3⟩, sx⟩ := id F
  have hsz : 3 < ts.size := (Array.getElem?_eq_some_iff.mp h3).1
  have hsz1 := (Array.getElem?_eq_some_iff.mp h1).1
  unfold noteFrame
  simp only [hf]
  refine wpAny_bind (wpAny_field he hd h1 ?_)
  rw [if_pos (show (Value.ref T != Value.none) = true from by simp)]
  refine wpAny_bind (wpAny_field hT hdT h3 ?_)
  by_cases hq : (fl == rawInt L) = true
  · rw [if_pos hq]
    have e1 : fl = rawInt L := by simpa using hq
    subst e1
    exact wpAny_pure (h _ F)
  · rw [if_neg hq]
    refine wpAny_bind (wpAny_setField hT hdT hsz ?_)
    have other : ∀ b o, b ≠ T → s.heap.get? b = some o → (s.heap.update T (Obj.mapFields (·.setIfInBounds 3 Value.none))).get? b = some o := fun b o hb q => (Heap.get?_update_other _ _ (Ne.symm hb)).trans q
    have hne : ∀ b o, H.get? b = some o → b ≠ T := fun b o q r => by rw [r, hHT] at q; cases q
    have fr' : (s.heap.update T (Obj.mapFields (·.setIfInBounds 3 Value.none))).FunFrames base (env :: outer) := fr.of_keeps fun b o ho hnf => ⟨o, other b o (fun q => by
      rw [q, hT] at ho
      cases ho
      exact hnf ts hdT) ho, rfl⟩
    refine note_entry (s := { s with heap := s.heap.update T (Obj.mapFields (·.setIfInBounds 3 Value.none)) }) hfr fr' hf (other e oe (Ne.symm hTe) he) hd hsz1 fun h' N => h h' ⟨fun b o q hx hz hbe => N.keep b o hbe (fun hm => hz (iz b hm).1) (other b o (hne b o q) (k b o q hx hz hbe)), fun b o q hx hbe => ?_, ?_, iz, ?_, by rw [N.size, Heap.size_after_update]; exact Nat.le_succ_of_le sx⟩
    · obtain ⟨sl, hs⟩ := u b o q hx hbe
      obtain ⟨sl', hs'⟩ := N.upto b _ hbe (other b _ (hne b o q) hs)
      exact ⟨sl', hs'⟩
    · exact fr'.of_keeps fun b o ho hnf => by
        have hbe : b ≠ e := fun q => by
          rw [q] at ho
          have := (other e oe (Ne.symm hTe) he).symm.trans ho
          cases this
          exact hnf vs hd
        obtain ⟨sl, hs⟩ := N.upto b o hbe ho
        exact ⟨_, hs, rfl⟩
    · obtain ⟨oe', T', oT', ts', a1, a2, a3, a4, a5, a6, a7, a8, a9⟩ := N.at_
      refine ⟨oe', _, T', oT', ts', a1, a2.trans hc, a3.trans hdd, a4, by simp [hsz1], a5, ?_, a7, a8, a9⟩
      rw [a6, Heap.size_after_update]
      exact Heap.get?_none_of_le sx

theorem fly_leave (hfr : A.frames = some (env :: outer)) (hf : env.frame = some L) (F : Fly H X Z base (env :: outer) e cls dd fl s.heap)
    (h : ∀ h', Fly H X Z base outer e cls dd .none h' → Q () { s with heap := h' }) : wpAny M A (leaving env (.ref e)) Q E s := by
  unfold leaving
  exact wpAny_bind (fly_note hfr hf F fun h' F' => fly_set none F' fun h'' F'' => h h'' F''.tail)
end
end Mine
end
section
open PySem PySem.W PySem.Calls PySem.Spec PyProof.Rows
namespace Mine
/-- what an exception that leaves the block of a comprehension must meet -/
abbrev CompX (prog : Program) (w : World) (A : Around) (E : Value → Shared → Prop) (cenv : Env) : Value → Shared → Prop :=
  notedBy (model prog w) A cenv fun x s' => ∃ m, s'.heap.Ns cenv.locals m ∧ ∀ h', Heap.SameBut cenv.locals s'.heap h' → ∀ env' : Env, env'.locals = cenv.locals → wpAny (model prog w) A (passOn "comprehension.variables-let-go" x env' : Sem Value) (fun _ _ => False) E { s' with heap := h' }

theorem comp_bad {prog : Program} {w : World} {A : Around} {h₀ : Heap} {L : Addr} {m : Str → Option Value} {env : Env} {elt iter : PySem.Expr} {x : Str} {px pos : Pos} {scope : Scope} {cl : List (Str × Addr)} {s : Shared} {Q E : Value → Shared → Prop} {news₀ : List (Addr × Obj)}
    {ax : Addr} {vs : List Value} {nn : Nat} (G : Value → Prop)
    (hh : A.handled = none) (hclos : closureFor scope env = pure cl) (hcell : ∀ y ∈ scope.names, y.2 ≠ .cell) (hkind : scope.kind = .function)
    (hnames : ∀ y ∈ scope.names, y.2 = .local → scope.names.lookup y.1 = some .local) (hx : scope.names.lookup x = some .local)
    (hiter : ∀ (R : Value → Shared → Prop), (∀ tk, R (.ref ax) { s with toks := tk }) → wpAny (model prog w) A (eval iter env) R E s)
    (F₀ : Fr h₀ L s.heap m) (N₀ : News h₀ L s.heap news₀) (hax : (ax, W.listOf vs.toArray nn) ∈ news₀) (hsz : vs.length ≤ sizeLine) (hbad : ∃ v ∈ vs, ¬ G v)
    (good : ∀ v news I oI C oC D m₂ ys h tk (E' : Value → Shared → Prop), v ∈ vs → G v → (∀ p ∈ news₀, p ∈ news) → LCg.NsObj oC m₂ → m₂ x = some v → Fr h₀ L h m → News h₀ L h ((I, oI) :: (C, oC) :: (D, LCg.lst ys) :: news) → LCg.Off3 I C D news → ((@Ne Nat I C) ∧ (@Ne Nat I D) ∧ (@Ne Nat C D)) →
      wpAny (model prog w) A (eval elt (compEnvC scope cl C env)) (LCg.CompEnd h₀ L m { s with heap := h, toks := tk } I oI C oC D (LCg.lst ys) (fun _ => True) (fun _ news' => ∀ p ∈ news, p ∈ news')) E' { s with heap := h, toks := tk })
    (bad : ∀ v news C oC m₂ h tk, v ∈ vs → ¬ G v → (∀ p ∈ news₀, p ∈ news) → LCg.NsObj oC m₂ → m₂ x = some v → Fr h₀ L h m → News h₀ L h ((C, oC) :: news) → (∀ p ∈ news₀, p.1 ≠ C) →
      wpAny (model prog w) A (eval elt (compEnvC scope cl C env)) (fun _ _ => False) (CompX prog w A E (compEnvC scope cl C env)) { s with heap := h, toks := tk })
    (hs : ∀ x, foldedSetIterable iter env x = pure x := by intro _; rfl) :
    wpAny (model prog w) A (eval (.ListComp elt [⟨.Name x px, iter, [], 0⟩] scope pos) env) Q E s := by
  rw [eval_ListComp]
  refine wpAny_comprehension_free (use := none) rfl hs hclos hkind hnames (hiter _ fun tk₀ => ?_)
  have hobj : s.heap.get? ax = some (W.listOf vs.toArray nn) := (N₀ _ hax).1
  have hl : s.heap.IsList ax vs.toArray := ⟨_, hobj, rfl, nn, rfl⟩
  refine wpAny_pyIter_list (s := { s with toks := tk₀ }) hl ?_
  refine wpAny_newObj_type (wpAny_newFunctionEnv hcell (by intro y hy; simp at hy) (fun h₁ hns₁ hsb₁ => ?_) hkind)
  dsimp only at hns₁ hsb₁ ⊢
  generalize hH1 : s.heap.push { cls := .type "list_iterator", data := .fields #[.ref ax, .int 0 0] } = H1 at hns₁ hsb₁ ⊢
  generalize hH2 : H1.push { cls := .type "list", dict := none, data := .seq ([] : List Value).toArray } = H2 at hns₁ hsb₁ ⊢
  have z1 : H1.objs.size = s.heap.objs.size + 1 := by rw [← hH1, Heap.size_push]
  have z2 : H2.objs.size = s.heap.objs.size + 2 := by rw [← hH2, Heap.size_push, z1]
  have up2 : ∀ b o, H1.get? b = some o → H2.get? b = some o := fun b o q => hH2 ▸ Heap.get?_push_of_some _ q
  have up1 : ∀ b o, s.heap.get? b = some o → H1.get? b = some o := fun b o q => hH1 ▸ Heap.get?_push_of_some _ q
  have old : ∀ b o, s.heap.get? b = some o → h₁.get? b = some o := fun b o q => hsb₁.extBut b o (fun r => by have q' : @LT.lt Nat _ b s.heap.objs.size := Heap.lt_size q; have r' : @Eq Nat b H2.objs.size := r; omega) (Heap.get?_push_of_some _ (up2 b o (up1 b o q)))
  have hI : h₁.get? s.heap.objs.size = some { cls := .type "list_iterator", data := .fields #[.ref ax, .int 0 0] } := hsb₁.extBut _ _ (fun r => by have r' : s.heap.objs.size = H2.objs.size := r; omega) (Heap.get?_push_of_some _ (up2 _ _ (hH1 ▸ Heap.get?_push_size _ rfl)))
  have hD : h₁.get? H1.objs.size = some (LCg.lst []) := hsb₁.extBut _ _ (fun r => by have r' : H1.objs.size = H2.objs.size := r; omega) (Heap.get?_push_of_some _ (hH2 ▸ Heap.get?_push_size _ rfl))
  have fresh : ∀ a, s.heap.objs.size ≤ a → s.heap.get? a = none := fun a ha => Heap.get?_none_of_le ha
  have fresh₀ : ∀ a, s.heap.objs.size ≤ a → h₀.get? a = none := fun a ha => by
    cases q : h₀.get? a with
    | none => rfl
    | some o => have := F₀.keep a o q; rw [fresh a ha] at this; cases this
  have hLlt : L < s.heap.objs.size := F₀.ns.lt
  have hIL : s.heap.objs.size ≠ L := Nat.ne_of_gt hLlt
  have hDL : H1.objs.size ≠ L := by rw [z1]; exact Nat.ne_of_gt (Nat.lt_succ_of_lt hLlt)
  have hCL : H2.objs.size ≠ L := by rw [z2]; exact Nat.ne_of_gt (Nat.lt_succ_of_lt (Nat.lt_succ_of_lt hLlt))
  have hI₀ := fresh₀ s.heap.objs.size (Nat.le_refl _)
  have hD₀ : h₀.get? H1.objs.size = none := fresh₀ _ (by rw [z1]; omega)
  have hC₀ : h₀.get? H2.objs.size = none := fresh₀ _ (by rw [z2]; omega)
  have hIC : s.heap.objs.size ≠ H2.objs.size := by rw [z2]; omega
  have hID : s.heap.objs.size ≠ H1.objs.size := by rw [z1]; omega
  have hDC : H1.objs.size ≠ H2.objs.size := by rw [z1, z2]; omega
  have haxlt : ax < s.heap.objs.size := Heap.lt_size hobj
  have hax2 : @Ne Nat ax H2.objs.size := by have q' : @LT.lt Nat _ ax s.heap.objs.size := haxlt; omega
  have hax1 : @Ne Nat ax H1.objs.size := by have q' : @LT.lt Nat _ ax s.heap.objs.size := haxlt; omega
  have Wk := Walks.list (prog := prog) (w := w) hh s.heap.objs.size ax (Nat.ne_of_lt haxlt) vs.toArray
  have off₀ : LCg.Off3 s.heap.objs.size H2.objs.size H1.objs.size news₀ := LCg.Off3.of fun p hp => by
    have := @id (@LT.lt Nat _ p.1 s.heap.objs.size) (Heap.lt_size (N₀ p hp).1)
    exact ⟨Nat.ne_of_lt this, by rw [z2]; exact Nat.ne_of_lt (by omega), by rw [z1]; exact Nat.ne_of_lt (by omega)⟩
  have loop : ∀ s₃ : Shared, s₃ = { s with heap := h₁, toks := tk₀ + ([] : List (Str × Value)).length } →
      codeAny (model prog w) A (.compLoop (.ListComp elt [⟨.Name x px, iter, [], 0⟩] scope pos) 0 (.ref s.heap.objs.size) (.ref H1.objs.size) (compEnvC scope cl H2.objs.size env))
        (compPost (model prog w) A E none Q (.ref H1.objs.size) H2.objs.size) s₃ := by
    rintro s₃ rfl
    refine codeAny_compLoop_tests
      (fun k s' => ∃ h' tk i ys m' news', s' = { s with heap := h', toks := tk } ∧ i ≤ vs.length ∧ k = vs.length + 1 - i ∧ ys.length = i ∧ (∀ v ∈ vs.take i, G v) ∧ (h'.IsListIter s.heap.objs.size ax i ∧ h'.IsList ax vs.toArray) ∧ Fr h₀ L h' m ∧ h'.Ns H2.objs.size m' ∧ News h₀ L h' ((H1.objs.size, LCg.lst ys) :: news') ∧
        LCg.Off3 s.heap.objs.size H2.objs.size H1.objs.size news' ∧ (∀ p ∈ news₀, p ∈ news')) ?_ (vs.length + 1)
      ⟨h₁, _, 0, [], _, news₀, rfl, Nat.zero_le _, rfl, rfl, by simp, ⟨⟨_, hI, rfl, rfl⟩, hl.at fun o q => old _ o q⟩, F₀.keeps old, hns₁, ?_, off₀, fun _ h => h⟩
    · rintro k s' ⟨h', tk, i, ys, m', news', rfl, hi, rfl, hyl, hG, hst, F', hn', N', off', hsub⟩
      have off3 := off'.mem
      have hlt : i < vs.length := by
        rcases Nat.lt_or_ge i vs.length with q | q
        · exact q
        · obtain ⟨v, hv, hnG⟩ := hbad
          rw [List.take_of_length_le q] at hG
          exact absurd (hG v hv) hnG
      refine Wk.item i _ _ _ (by simpa using hlt) hst fun v h₂ tk₂ hPv hst₂ hk₂ => ?_
      have hv : v = vs[i] := by
        have : vs[i]? = some v := by simpa using hPv
        rw [List.getElem?_eq_getElem hlt] at this
        exact (Option.some.inj this).symm
      have hmem : v ∈ vs := hv ▸ List.getElem_mem hlt
      refine wpAny_assign_Name (wpAny_storeName_local (lookup_relabel_local hx) (hn'.at' fun o e => hk₂ _ o (by simpa using Ne.symm hIC) e) (fun h₃ hn₃ hs₃ => ?_) (by simp [compEnvC, relabel, hkind]))
      refine wpAny_tests_nil ?_
      simp only [if_true]
      have hst₃ : h₃.IsListIter s.heap.objs.size ax (i + 1) ∧ h₃.IsList ax vs.toArray :=
        ⟨hst₂.1.at fun o e => hs₃.extBut _ o hIC e, hst₂.2.at fun o e => hs₃.extBut _ o hax2 e⟩
      obtain ⟨oI, heI, hoI⟩ := hst₃.1
      obtain ⟨oC, heC, hoC⟩ := LCg.ns_obj hn₃
      have F₃ : Fr h₀ L h₃ m := (LCg.fr_but F' hk₂ (Ne.symm hIL) hI₀).change hs₃ hCL hC₀
      have N₂ : News h₀ L h₂ ((H1.objs.size, LCg.lst ys) :: news') := LCg.news_but N' hk₂ fun p hp => by
        rcases List.mem_cons.mp hp with rfl | hp
        · exact Ne.symm hID
        · exact (off3 p hp).1
      have N₃ : News h₀ L h₃ ((s.heap.objs.size, oI) :: (H2.objs.size, oC) :: (H1.objs.size, LCg.lst ys) :: news') := fun p hp => by
        rcases List.mem_cons.mp hp with rfl | hp
        · exact ⟨heI, hIL, hI₀⟩
        · rcases List.mem_cons.mp hp with rfl | hp
          · exact ⟨heC, hCL, hC₀⟩
          · have z := N₂ p hp
            refine ⟨hs₃.extBut _ _ ?_ z.1, z.2⟩
            rcases List.mem_cons.mp hp with rfl | hp
            · exact hDC
            · exact (off3 p hp).2.1
      by_cases hg : G v
      · refine wpAny_mono (good v news' _ oI _ oC _ _ ys h₃ _ _ hmem hg hsub hoC (by simp) F₃ N₃ off' ⟨hIC, hID, Ne.symm hDC⟩) (fun y s₄ h₄ => ?_) fun _ _ e => e
        obtain ⟨h₄, tk₄, news₄, rfl, F₄, N₄, off₄, _, hsub₄⟩ := h₄
        have zI := (N₄ (s.heap.objs.size, oI) List.mem_cons_self).1
        have zC := (N₄ (H2.objs.size, oC) (List.mem_cons_of_mem _ List.mem_cons_self)).1
        have zD := (N₄ (H1.objs.size, LCg.lst ys) (List.mem_cons_of_mem _ (List.mem_cons_of_mem _ List.mem_cons_self))).1
        have N₄' : News h₀ L h₄ news₄ := fun p hp => N₄ p (List.mem_cons_of_mem _ (List.mem_cons_of_mem _ (List.mem_cons_of_mem _ hp)))
        have off4 := off₄.mem
        have hax4 : (ax, W.listOf vs.toArray nn) ∈ news₄ := hsub₄ _ (hsub _ hax)
        refine append_at (hsz := by show ys.toArray.size ≤ sizeLine; rw [List.size_toArray, hyl]; exact Nat.le_trans hi hsz) zD fun h₅ hs₅ hD₅ => ?_
        refine ⟨vs.length + 1 - (i + 1), by omega, h₅, tk₄, i + 1, ys ++ [y], _, news₄, rfl, hlt, rfl, by rw [List.length_append, List.length_singleton, hyl], ?_, ⟨⟨oI, hs₅.extBut _ _ hID zI, hoI⟩, ⟨_, hs₅.extBut _ _ hax1 (N₄' _ hax4).1, rfl, nn, rfl⟩⟩, F₄.change hs₅ hDL hD₀,
          (hoC.ns zC).sameBut hs₅ (Ne.symm hDC), fun p hp => ?_, off₄, fun p hp => hsub₄ p (hsub p hp)⟩
        · intro u hu
          rw [List.take_add_one, List.getElem?_eq_getElem hlt] at hu
          rcases List.mem_append.mp hu with hu | hu
          · exact hG u hu
          · have : u = vs[i] := by simpa using hu
            rw [this, ← hv]
            exact hg
        · rcases List.mem_cons.mp hp with rfl | hp
          · exact ⟨hD₅.trans (congrArg some (LCg.lst_snoc ys y)), hDL, hD₀⟩
          · exact ⟨hs₅.extBut _ _ (off4 p hp).2.2 (N₄' p hp).1, (N₄' p hp).2⟩
      · refine wpAny_mono (bad v news' H2.objs.size oC _ h₃ _ hmem hg hsub hoC (by simp) F₃ (fun p hp => N₃ p ?_) (fun p hp z => by have q := (N₀ p hp).1; rw [z, fresh _ (by rw [z2]; omega)] at q; cases q)) (fun _ _ f => f.elim) fun _ _ e => e
        rcases List.mem_cons.mp hp with rfl | hp
        · exact .tail _ (.head _)
        · exact .tail _ (.tail _ (.tail _ hp))
    · intro p hp
      rcases List.mem_cons.mp hp with rfl | hp
      · exact ⟨hD, hDL, hD₀⟩
      · exact ⟨old _ _ (N₀ p hp).1, (N₀ p hp).2⟩
  exact codeAny_compStart_list (loop _ rfl) (Wk.self 0 _ _ _ ⟨⟨_, hI, rfl, rfl⟩, hl.at fun o q => old _ o q⟩ (loop _ rfl))
end Mine
end
section
open PySem PySem.W PySem.W.X PySem.Calls PySem.Spec PyProof.Rows
namespace Mine
abbrev excD (t dd : Addr) : Obj := { cls := .ref 51, dict := some dd, data := .fields #[.ref t, .none, .none, .none, .bool false, .none] }
abbrev msgD (w : World) (t1 t2 : Tok) : Obj := dictOf [{ hash := PyData.keyHash w.params (Str.ofString "message"), key := Value.str (Str.ofString "message") t1, val := Value.str (Str.ofString "malformed factor") t2 }] 1

section
variable {M : Model} {A : Around} {E : Value → Shared → Prop} {env : Env}
variable {nm q : Str} {C N : Addr} {bs bm : List Value} {hdct : Bool} {sn : List Str} {sub : List Value} {ab : Bool} {col : Option Bool} {cdd : Option Addr} {k0 k1 k2 k3 k5 : Option Value} {newId : String}
theorem raise_inst {s : Shared} {x : Sem Value} {Q : Flow → Shared → Prop} (hbase : bm.contains (.type "BaseException") = true) (hh : A.handled = none)
    (h : wpAny M A x (fun v s₁ => ∃ e t dd, v = .ref e ∧ s₁.heap.get? C = some (excClassObj nm q C N bs bm hdct sn sub ab col cdd k0 k1 k2 k3 k5 newId) ∧
      s₁.heap.get? e = some { cls := .ref C, dict := some dd, data := .fields #[.ref t, .none, .none, .none, .bool false, .none] } ∧ E (.ref e) s₁) E s) :
    wpAny M A (raiseStmt env (some x) none) Q E s := by
  have hcB : (Value.ref C :: bm).contains (.type "BaseException") = true := by rw [List.contains_cons, hbase, Bool.or_true]
  unfold raiseStmt
  refine wpAny_bind (wpAny_mono h (fun v s₁ h₁ => ?_) fun _ _ x => x)
  obtain ⟨e, t, dd, rfl, hC, he, hE⟩ := h₁
  obtain ⟨hp, g, d, tk, os⟩ := s₁
  repeat (first | with_reducible refine wpAny_loadPart_at he ?_ | with_reducible refine wpAny_loadPart_at hC ?_ | (with_reducible refine wpAny_isSubtype_exc hC ?_; rw [hcB]) | wp_step)
  exact wpAny_raiseNew_none hh hE

theorem raise_exec {s : Shared} {e : PySem.Expr} {pos : Pos} {Q : Flow → Shared → Prop} (hbase : bm.contains (.type "BaseException") = true) (hh : A.handled = none)
    (h : wpAny M A (eval e env) (fun v s₁ => ∃ e t dd, v = .ref e ∧ s₁.heap.get? C = some (excClassObj nm q C N bs bm hdct sn sub ab col cdd k0 k1 k2 k3 k5 newId) ∧
      s₁.heap.get? e = some { cls := .ref C, dict := some dd, data := .fields #[.ref t, .none, .none, .none, .bool false, .none] } ∧ E (.ref e) s₁) E s) :
    wpAny M A (exec (.Raise (some e) none pos) env) Q E s := by
  rw [arm_exec_Raise]
  simp only [evalOpt, Option.map]
  exact wpAny_bind (wpAny_standAt (raise_inst hbase hh (wpAny_bind (wpAny_mono h (fun v s₃ h₃ => wpAny_bind (wpAny_standAt (wpAny_pure h₃))) fun _ _ x => x))))
end

/-- the ready form: the class is the text's own -/
theorem raise_ref {M : Model} {A : Around} {E : Value → Shared → Prop} {env : Env} {K : Frag} {h₀ : Heap} {s : Shared} {e : PySem.Expr} {pos : Pos} {Q : Flow → Shared → Prop}
    (X : K.In h₀) (hK : ktsIn K 51 "Exception" = true) (hh : A.handled = none)
    (h : wpAny M A (eval e env) (fun v s₁ => ∃ x t dd, v = .ref x ∧ (∀ b o, h₀.get? b = some o → s₁.heap.get? b = some o) ∧ s₁.heap.get? x = some (excD t dd) ∧ E (.ref x) s₁) E s) :
    wpAny M A (exec (.Raise (some e) none pos) env) Q E s := by
  obtain ⟨nm, qn, N, bs, bm, hdct, sn, sub, ab, col, dd, k0, k1, k2, k3, k5, newId, h1, h2, h3⟩ := kts_cls X hK
  refine raise_exec (C := 51) (nm := nm) (q := qn) (N := N) (bs := bs) (bm := bm) (hdct := hdct) (sn := sn) (sub := sub) (ab := ab) (col := col) (cdd := dd) (k0 := k0) (k1 := k1) (k2 := k2) (k3 := k3) (k5 := k5) (newId := newId) h2 hh (wpAny_mono h (fun v s₁ q => ?_) fun _ _ x => x)
  obtain ⟨x, t, d, e1, e2, e3, e4⟩ := q
  exact ⟨x, t, d, e1, e2 _ _ h1, e3, e4⟩

theorem Mem.ext {h h' : Heap} {news : List (Addr × Obj)} (D : Mem h h' [] news) : ∀ b o, h.get? b = some o → h'.get? b = some o := fun b o e => D.keep b o e (by rw [show away [] b = true from rfl, Bool.or_true])
structure RefQ (w : World) (h : Heap) (tk : Tok) (g : Array GenState) (d : Drawn) (os : OsState) (Q : Value → Shared → Prop) : Prop where
  go : ∀ (e dd t0 : Addr) (t1 t2 : Nat) h', (∀ b o, h.get? b = some o → h'.get? b = some o) → h'.get? e = some (excD t0 dd) → h'.get? dd = some (msgD w t1 tk) → h.get? e = none → h.get? dd = none → dd ≠ e → Q (.ref e) ⟨h', g, d, t2, os⟩
local macro_rules | `(tactic| x_close) => `(tactic| ((rename Mem _ _ _ [_, _, _, _] => D9); (rename RefQ _ _ _ _ _ _ _ => q9); (have e0 := D9.at 0 _ _ rfl); (rw [← PySem.W.XFast.xe12210062019545310541] at e0); (with_unfolding_all exact RefQ.go q9 _ _ _ _ _ _ (Mem.ext D9) (D9.at 2 _ _ rfl) e0 (D9.nw _ (.tail _ (.tail _ (.head _)))).2 (D9.nw _ (.head _)).2 (D9.ne 0 2 _ _ _ _ rfl rfl rfl))))
set_option maxHeartbeats 0 in
theorem mkRefusal {w : World} {gd : Option (List Code)} {cn : Str} {cnm : List (Str × NameKind)} {cg cc : Bool} {cm : List (Str × Const)} {L a : Addr} {ccd : Value} {cl : List (Str × Addr)} {outer : List Env}  {h : Heap} {g : Array GenState} {d : Drawn} {t : Nat} {os : OsState} {Q E : Value → Shared → Prop} {tk : Tok}
    (X : (Mine.hd.heap_39 w.params).In h)
    (hq : RefQ w h tk g d os Q) :
    wpAny (model PySem.Challenge.rw_pq1396_01.row.prog w) (ktrTop 305 16 gd cn (fnS cnm cg cc cm) L a ccd cl outer) (call (.ref 51) [.str (Str.ofString "malformed factor") tk]) Q E ⟨h, g, d, t, os⟩ := by
  revert X; k_fill; intro X
  x_run
end Mine
end
section
open PySem PySem.W PySem.Calls PySem.Spec PyProof.Rows
namespace Mine
theorem noteFrame_congr {e : Value} {env env' : Env} (h : env'.frame = env.frame) : noteFrame e env' = noteFrame e env := by
  unfold noteFrame PySem.frameOf; rw [h]

theorem funFrames_but {h h' base : Heap} {C : Addr} (sb : Heap.SameBut C h h') : ∀ {l : List Env}, h.FunFrames base l → C ∉ frs l → h'.FunFrames base l
  | [], _, _ => trivial
  | env :: l, hl, hC => by
    obtain ⟨hk, ⟨L, o, hf, hn, ho, hd⟩, hr⟩ := hl
    have e : frs (env :: l) = L :: frs l := by show (env :: l).filterMap (·.frame) = _; rw [List.filterMap_cons, hf]
    rw [e] at hC
    exact ⟨hk, ⟨L, o, hf, hn, (sb.2 L (fun q => hC (q ▸ List.mem_cons_self))).trans ho, hd⟩, funFrames_but sb hr fun q => hC (List.mem_cons_of_mem _ q)⟩

theorem fly_drop {H : Heap} {X Z : List Addr} {base : Heap} {l : List Env} {e C : Addr} {cls : Value} {dd : Option Addr} {fl : Value} {h h' : Heap} {oC : Obj} (F : Fly H X Z base l e cls dd fl h)
    (sb : Heap.SameBut C h h') (hC : h.get? C = some oC) (hd : ∀ vs, oC.data ≠ .fields vs) (hn : C ∉ frs l) : Fly H (C :: X) Z base l e cls dd fl h' := by
  obtain ⟨k, u, fr, iz, ⟨oe, vs, T, oT, ts, he, hc, hdd, hd', h1, hTe, hHT, hT, hdT, h3⟩, sx⟩ := F
  have ne : ∀ b ob v, h.get? b = some ob → ob.data = .fields v → b ≠ C := fun b ob v q r z => by
    rw [z, hC] at q
    cases q
    exact hd v r
  refine ⟨fun b o q hx hz hbe => (sb.2 b (fun z => hx (z ▸ List.mem_cons_self))).trans (k b o q (fun z => hx (List.mem_cons_of_mem _ z)) hz hbe), fun b o q hx hbe => ?_, funFrames_but sb fr hn, fun b hb => ⟨(iz b hb).1, fun z => ?_⟩, ?_, by rw [sb.1]; exact sx⟩
  · obtain ⟨sl, hs⟩ := u b o q (fun z => hx (List.mem_cons_of_mem _ z)) hbe
    exact ⟨sl, (sb.2 b (fun z => hx (z ▸ List.mem_cons_self))).trans hs⟩
  · rcases List.mem_cons.mp z with z | z
    · exact hn (z ▸ hb)
    · exact (iz b hb).2 z
  · exact ⟨oe, vs, T, oT, ts, (sb.2 e (ne e oe vs he hd')).trans he, hc, hdd, hd', h1, hTe, hHT, (sb.2 T (ne T oT ts hT hdT)).trans hT, hdT, h3⟩

section
variable {prog : Program} {w : World} {A : Around} {E : Value → Shared → Prop} {s : Shared} {H base : Heap} {X Z : List Addr} {env cenv : Env} {outer l : List Env} {L e : Addr} {cls : Value} {dd : Option Addr} {fl : Value}

theorem fly_pass {α : Type} {Q : α → Shared → Prop} {what : String} (F : Fly H X Z base l e cls dd fl s.heap)
    (h : ∀ fl' h', Fly H X Z base l e cls dd fl' h' → E (.ref e) { s with heap := h' }) : wpAny (model prog w) A (PySem.passOn what (.ref e) env : Sem α) Q E s := by
  obtain ⟨oe, vs, T, oT, ts, he, hc, hdd, hd', h1, hTe, hHT, hT, hdT, h3⟩ := F.at_
  unfold PySem.passOn
  refine wpAny_bind (wpAny_field he hd' h1 ?_)
  rw [if_neg (show ¬ ((Value.ref T == Value.none) = true) from by simp)]
  refine wpAny_bind (fly_set _ F fun h' F' => ?_)
  exact wpAny_throw (h _ _ F')

/-- the exception leaves a comprehension's block -/
theorem comp_fly {oC : Obj} {m₂ : Str → Option Value} (hfr : A.frames = some (env :: outer)) (hf : env.frame = some L) (hc : cenv.frame = some L) (F : Fly H X Z base (env :: outer) e cls dd fl s.heap)
    (hC : H.get? cenv.locals = some oC) (ho : LCg.NsObj oC m₂) (hX : cenv.locals ∉ X) (hZ : cenv.locals ∉ Z) (hCe : cenv.locals ≠ e)
    (h : ∀ fl' h', Fly H (cenv.locals :: X) Z base (env :: outer) e cls dd fl' h' → E (.ref e) { s with heap := h' }) : CompX prog w A E cenv (.ref e) s := by
  unfold CompX notedBy
  rw [noteFrame_congr (hc.trans hf.symm)]
  refine fly_note hfr hf F fun h₁ F₁ => ?_
  have k := F₁.keep _ _ hC hX hZ hCe
  refine ⟨m₂, ho.ns k, fun h₂ sb env' _ => ?_⟩
  obtain ⟨es, ep, hd, _⟩ := ho
  exact fly_pass (s := { s with heap := h₂ }) (fly_drop F₁ sb k (fun vs q => by rw [hd] at q; cases q) (fun q => hZ ((F₁.inZ _ q).1))) fun fl' h₃ F₃ => h _ _ F₃
end
/-- an address that is new to a function's keeping -/
structure NewIn (h₀ : Heap) (L : Addr) (news : List (Addr × Obj)) (b : Addr) : Prop where
  base : h₀.get? b = none
  ne : b ≠ L
  off : ∀ p ∈ news, p.1 ≠ b

/-- the heap after a refusal has left all frames ahead of l -/
structure Gone (w : World) (h₀ : Heap) (L : Addr) (m : Str → Option Value) (base : Heap) (news : List (Addr × Obj)) (l : List Env) (fl : Value) (e : Addr) (h : Heap) : Prop where
  at_ : ∃ dd H X Z t1 t2, Fly H X Z base l e (.ref 51) (some dd) fl h ∧ Fr h₀ L H m ∧ News h₀ L H news ∧ H.get? dd = some (msgD w t1 t2) ∧ dd ≠ e ∧ dd ∉ X ∧ dd ∉ Z ∧ NewIn h₀ L news e ∧ NewIn h₀ L news dd ∧ (∀ b ∈ X, NewIn h₀ L news b) ∧ (∀ b ∈ Z, b ∈ frs l ∨ NewIn h₀ L news b)

/-- the frame where it was raised is left -/
theorem gone_begin {M : Model} {A : Around} {env : Env} {outer : List Env} {L L' : Addr} {base h₀ g' h₁ : Heap} {w : World} {e dd t0 : Addr} {t1 t2 : Nat} {m m' : Str → Option Value} {news : List (Addr × Obj)} {s : Shared} {Q : Unit → Shared → Prop} {E : Value → Shared → Prop}
    (hfr : A.frames = some (env :: outer)) (hf : env.frame = some L') (hb : base.StaysIn g') (hl : g'.FunFrames base outer) (hk : env.scope.kind ≠ .module) (FG : Fr h₀ L g' m) (F' : Fr g' L' h₁ m') (N : News h₀ L h₁ news) (N' : News g' L' h₁ news)
    (ext : ∀ b o, h₁.get? b = some o → s.heap.get? b = some o) (he : s.heap.get? e = some (excD t0 dd)) (hd : s.heap.get? dd = some (msgD w t1 t2)) (ne : h₁.get? e = none) (nd : h₁.get? dd = none) (hde : dd ≠ e)
    (h : ∀ h', Gone w h₀ L m base news outer .none e h' → Q () { s with heap := h' }) : wpAny M A (leaving env (.ref e)) Q E s := by
  have hbL : base.get? L' = none := by
    cases q : base.get? L' with
    | none => rfl
    | some o => exact absurd (Nat.lt_of_lt_of_le (Heap.lt_size (hb _ _ q)) F'.above) (Nat.lt_irrefl _)
  have up : ∀ b o, g'.get? b = some o → s.heap.get? b = some o := fun b o q => ext b o (F'.keep b o q)
  have fr : s.heap.FunFrames base (env :: outer) := by
    obtain ⟨o, es, ep, ho, hdt, _⟩ := F'.ns
    exact ⟨hk, ⟨L', o, hf, hbL, ext _ _ ho, fun vs q => by rw [hdt] at q; cases q⟩, hl.of_keeps fun b o q _ => ⟨o, up b o q, rfl⟩⟩
  have new : ∀ b, h₁.get? b = none → NewIn h₀ L news b := fun b q => by
    refine ⟨?_, fun z => ?_, fun p hp z => ?_⟩
    · cases z : h₀.get? b with
      | none => rfl
      | some o => rw [F'.keep _ _ (FG.keep _ _ z)] at q; cases q
    · obtain ⟨o, es, ep, ho, _⟩ := FG.ns
      rw [z, F'.keep _ _ ho] at q; cases q
    · rw [← z, (N' p hp).1] at q; cases q
  have newL : NewIn h₀ L news L' := by
    refine ⟨?_, fun z => ?_, fun p hp => (N' p hp).2.1⟩
    · cases z : h₀.get? L' with
      | none => rfl
      | some o => exact absurd (Nat.lt_of_lt_of_le (Heap.lt_size (FG.keep _ _ z)) F'.above) (Nat.lt_irrefl _)
    · have := FG.ns.lt
      exact absurd (Nat.lt_of_lt_of_le (z ▸ this) F'.above) (Nat.lt_irrefl _)
  have fe : frs (env :: outer) = L' :: frs outer := by show (env :: outer).filterMap (·.frame) = _; rw [List.filterMap_cons, hf]
  have mem : ∀ b ∈ frs outer, ∃ o, h₁.get? b = some o := fun b hb' => let ⟨o, q, _⟩ := frs_some hl hb'; ⟨o, F'.keep _ _ q⟩
  unfold leaving
  refine wpAny_bind (fly_first (Z := frs (env :: outer)) hfr fr hf he rfl rfl (fun b q => q) fun h₂ F₂ => fly_set (s := { s with heap := h₂ }) none F₂ fun h₃ F₃ => h h₃ ⟨dd, s.heap, [], frs (env :: outer), t1, t2, F₃.tail, ⟨?_, ?_, ?_⟩, fun p hp => ⟨ext _ _ (N' p hp).1, (N p hp).2⟩, hd, hde, by simp, ?_, new e ne, new dd nd, by simp, ?_⟩)
  · obtain ⟨o, es, ep, ho, r⟩ := FG.ns
    exact ⟨o, es, ep, up _ _ ho, r⟩
  · exact fun b o q => up b o (FG.keep b o q)
  · exact FG.above
  · intro q
    rw [fe] at q
    rcases List.mem_cons.mp q with q | q
    · obtain ⟨o, es, ep, ho, r⟩ := F'.ns
      rw [q, ho] at nd; cases nd
    · obtain ⟨o, ho⟩ := mem _ q
      rw [ho] at nd; cases nd
  · intro b q
    rw [fe] at q
    rcases List.mem_cons.mp q with q | q
    · exact .inr (q ▸ newL)
    · exact .inl q
end Mine
end
section
open PySem PySem.W PySem.Calls PySem.Spec PyProof.Rows
namespace Mine
theorem NewIn.up {h₀ g' : Heap} {L L' b : Addr} {m : Str → Option Value} {led ledC : List (Addr × Obj)} (FG : Fr h₀ L g' m) (sub : ∀ p ∈ led, p ∈ ledC) (q : NewIn g' L' ledC b) : NewIn h₀ L led b := by
  refine ⟨?_, fun z => ?_, fun p hp => q.off p (sub p hp)⟩
  · cases z : h₀.get? b with
    | none => rfl
    | some o => have := FG.keep _ _ z; rw [q.base] at this; cases this
  · obtain ⟨o, es, ep, ho, _⟩ := FG.ns
    have := q.base
    rw [z, ho] at this; cases this

/-- what has left the frame of a helper, as the helper's caller sees it -/
theorem gone_up {w : World} {h₀ g' H base h : Heap} {L L' e dd : Addr} {m m' : Str → Option Value} {led ledC : List (Addr × Obj)} {X Z : List Addr} {lenv : Env} {outer : List Env} {t1 t2 : Nat} {fl : Value}
    (F : Fly H X Z base outer e (.ref 51) (some dd) fl h) (hf : lenv.frame = some L') (FG : Fr h₀ L g' m) (N : ∀ p ∈ led, p.1 ≠ L ∧ h₀.get? p.1 = none) (sub : ∀ p ∈ led, p ∈ ledC)
    (F' : Fr g' L' H m') (N' : News g' L' H ledC) (hd : H.get? dd = some (msgD w t1 t2)) (hde : dd ≠ e) (hdX : dd ∉ X) (hdZ : dd ∉ Z) (ne : NewIn g' L' ledC e) (nd : NewIn g' L' ledC dd) (nX : ∀ b ∈ X, NewIn h₀ L led b)
    (nZ : ∀ b ∈ Z, b ∈ frs (lenv :: outer) ∨ NewIn g' L' ledC b) : Gone w h₀ L m base led outer fl e h := by
  refine ⟨dd, H, X, Z, t1, t2, F, ⟨?_, fun b o q => F'.keep _ _ (FG.keep _ _ q), FG.above⟩, fun p hp => ⟨(N' p (sub p hp)).1, N p hp⟩, hd, hde, hdX, hdZ, ne.up FG sub, nd.up FG sub, nX, fun b hb => ?_⟩
  · obtain ⟨o, es, ep, ho, r⟩ := FG.ns
    exact ⟨o, es, ep, F'.keep _ _ ho, r⟩
  · rcases nZ b hb with q | q
    · have fe : frs (lenv :: outer) = L' :: frs outer := by show (lenv :: outer).filterMap (·.frame) = _; rw [List.filterMap_cons, hf]
      rw [fe] at q
      rcases List.mem_cons.mp q with q | q
      · refine .inr (q ▸ ⟨?_, fun z => ?_, fun p hp => (N' p (sub p hp)).2.1⟩)
        · cases z : h₀.get? L' with
          | none => rfl
          | some o => exact absurd (Nat.lt_of_lt_of_le (Heap.lt_size (FG.keep _ _ z)) F'.above) (Nat.lt_irrefl _)
        · have := FG.ns.lt
          exact absurd (Nat.lt_of_lt_of_le (z ▸ this) F'.above) (Nat.lt_irrefl _)
      · exact .inl q
    · exact .inr (q.up FG sub)

theorem gone_comp {prog : Program} {w : World} {A : Around} {E' : Value → Shared → Prop} {lenv cenv : Env} {outer : List Env} {h₀ g' base : Heap} {L L' e C : Addr} {m m' m₂ : Str → Option Value} {led ledC : List (Addr × Obj)} {oC : Obj} {s : Shared}
    (hfr : A.frames = some (lenv :: outer)) (hf : lenv.frame = some L') (hc : cenv.frame = some L') (hcl : cenv.locals = C) (hl : g'.FunFrames base outer) (FG : Fr h₀ L g' m) (N : ∀ p ∈ led, p.1 ≠ L ∧ h₀.get? p.1 = none) (hCn : ∀ p ∈ led, p.1 ≠ C) (sub : ∀ p ∈ led, p ∈ ledC)
    (G : Gone w g' L' m' base ledC (lenv :: outer) .none e s.heap) (hC : (C, oC) ∈ ledC) (ho : LCg.NsObj oC m₂)
    (h : ∀ h', Gone w h₀ L m base led outer .none e h' → E' (.ref e) { s with heap := h' }) :
    CompX prog w A (fun e s' => wpAny (model prog w) A (leaving lenv e) (fun _ s'' => E' e s'') (fun e' s'' => E' e' s'') s') cenv (.ref e) s := by
  obtain ⟨dd, H, X, Z, t1, t2, F, F', N', hd, hde, hdX, hdZ, ne, nd, nX, nZ⟩ := G
  subst hcl
  have fe : frs (lenv :: outer) = L' :: frs outer := by show (lenv :: outer).filterMap (·.frame) = _; rw [List.filterMap_cons, hf]
  have hCX : cenv.locals ∉ X := fun q => (nX _ q).off _ hC rfl
  have hCZ : cenv.locals ∉ Z := fun q => by
    rcases nZ _ q with q | q
    · rw [fe] at q
      rcases List.mem_cons.mp q with q | q
      · exact (N' _ hC).2.1 q
      · obtain ⟨o, ho, _⟩ := frs_some hl q
        rw [(N' _ hC).2.2] at ho; cases ho
    · exact q.off _ hC rfl
  have nC : NewIn h₀ L led cenv.locals := by
    refine ⟨?_, fun z => ?_, fun p hp => hCn p hp⟩
    · cases z : h₀.get? cenv.locals with
      | none => rfl
      | some o => have := FG.keep _ _ z; rw [(N' _ hC).2.2] at this; cases this
    · obtain ⟨o, es, ep, ho, _⟩ := FG.ns
      have := (N' _ hC).2.2
      rw [show (cenv.locals, oC).1 = L from z, ho] at this; cases this
  refine comp_fly hfr hf hc F (N' _ hC).1 ho hCX hCZ (fun z => ne.off _ hC z) fun fl' h₁ F₁ => ?_
  refine fly_leave (s := { s with heap := h₁ }) hfr hf F₁ fun h₂ F₂ => h h₂ (gone_up F₂ hf FG N sub F' N' hd hde ?_ hdZ ne nd (fun b hb => ?_) nZ)
  · intro q
    rcases List.mem_cons.mp q with q | q
    · exact nd.off _ hC q.symm
    · exact hdX q
  · rcases List.mem_cons.mp hb with q | q
    · exact q ▸ nC
    · exact (nX b q).up FG sub
end Mine
end
section
open PySem PySem.W PySem.Calls PySem.Spec PyProof.Rows
namespace Mine
@[irreducible] def Stop (P : Prop) : Prop := P
theorem Stop.mk {P : Prop} (h : P) : Stop P := by unfold Stop; exact h
theorem Stop.of {P : Prop} (h : Stop P) : P := by unfold Stop at h; exact h
theorem Stop.on {P : Prop} (h : Stop P) : P := Stop.of h
theorem bad_led {h₀ h : Heap} {L : Addr} {a : Addr × Obj} {news₀ news : List (Addr × Obj)} (N : News h₀ L h (a :: news)) (hs : ∀ p ∈ news₀, p ∈ news) : News h₀ L h (a :: (news₀ ++ news)) := fun p hp => by
  rcases List.mem_cons.mp hp with e | hp
  · exact N p (e ▸ List.mem_cons_self)
  · rcases List.mem_append.mp hp with hp | hp
    · exact N p (List.mem_cons_of_mem _ (hs p hp))
    · exact N p (List.mem_cons_of_mem _ hp)
/-- a code that has no text -/
structure OffText (vs : List Value) (i : Int) : Prop where
  off : ¬ (1 ≤ i ∧ i ≤ vs.length)
  fit : vs.length < 100
local macro_rules | `(tactic| walk_at "eval ListComp") => `(tactic| (k_here; refine Stop.on ?_))
local macro_rules | `(tactic| walk_at "exec Raise some none") => `(tactic| (k_here; refine Stop.on ?_))
local macro_rules | `(tactic| walk_at "call builtin:len") => `(tactic| (k_here; (first | (rename ItemAt _ _ _ => iaX) | (rename OffText _ _ => iaX)); (with_reducible show wpAny _ _ (call (Value.builtin "len") [Value.ref _]) _ _ _); k_dflt (refine' kst_len ?k1 ?k2 rfl ?k4 ?_; (case k1 => k_asm); (case k2 => k_mem); (case k4 => ((first | (have := ItemAt.fit iaX) | (have := OffText.fit iaX)); omega)))))
local macro_rules | `(tactic| walk_at "subscriptTail") => `(tactic| (k_here; (rename ItemAt _ _ _ => iaX); (with_reducible show wpAny _ _ (subscriptTail _ _ (Value.ref _) (Value.int _ _)) _ _ _); (with_unfolding_all refine' item_litK ?k1 ?k2 ?k3 ?k4 ?_ ?k6; (case k1 => exact News.isList (by k_asm) (by k_mem)); (case k2 => ((have := ItemAt.lo iaX); omega)); (case k3 => ((have := ItemAt.hi iaX); (have := ItemAt.fit iaX); omega)); (case k4 => exact ItemAt.at_ iaX); (case k6 => with_unfolding_all rfl); k_whole)))
local macro_rules | `(tactic| walk_at "call ref") => `(tactic| (k_here; (with_reducible show wpAny _ _ (call (Value.ref 92) [_, _]) _ _ _); k_dflt (refine' mkVec ?k1 ?k2 ?k3 ?k4 ?k5 ?k6 ?k7 ?_; (case k1 => k_asm); (case k2 => k_asm); (case k3 => k_asm); (case k4 => k_asm); (case k5 => first | omega | decide | (dsimp only [ktrTop]; omega) | (dsimp only [ktrTop]; decide)); (case k6 => first | omega | decide | (dsimp only [ktrTop]; omega) | (dsimp only [ktrTop]; decide)); (case k7 => k_asm)); intro x9 d9 t91 t92 t93 t94 t95 h9 tk9 F9 N9 low9 lt9; (try k_lt low9); k_lt2 lt9; (try k_sweep)))
set_option maxHeartbeats 16000000 in
theorem lv_off {w : World} {mean : ExcName → Option Value} {mg mb : Str → Option Value} {gd : Option (List Code)} {cn : Str} {cnm : List (Str × NameKind)} {cg cc : Bool} {cm : List (Str × Const)} {a : Addr} {ccd : Value} {cl : List (Str × Addr)} {outer : List Env} {A₀ : Around} {base h₀ : Heap} {L : Addr} {m : Str → Option Value} {s : Shared} {Q E : Value → Shared → Prop}
    (B : Below A₀ base outer h₀) (F : Fr h₀ L s.heap m) (X : (Mine.hd.heap_39 w.params).In h₀) (T : Top Mine.hd.view_39 (looseW Mine.hd.view_39 []) mean mg mb h₀) 
    {x d I ad cx cd ci lx ld li : Addr} {t1 t2 t3 t4 t5 tk c1 c2 c3 c4 c5 ck fk l1 l2 l3 l4 l5 lk : Nat} {vs tvs : List Value} {n nc nl : Nat} {news : List (Addr × Obj)} {o : Obj} (hlen : vs.length < 100)
    (hO : o.IsDictOf (PySem.strKind PySem.Challenge.rw_pq1396_01.row.prog w) [(Str.ofString "class", .ref cx), (Str.ofString "levels", .ref lx)]) (hM : (ad == sysModules) = false)
    (hV : ∀ v ∈ vs, v = .none ∨ ∃ i ik, v = .int i ik) (hT : tvs.length < 100) (hbad : ∃ v ∈ vs, ¬ ∃ u, CodeOk tvs v u)
    {led : List (Addr × Obj)} (hled : led = ((x, instObj 92 d) :: (d, vecD w t1 t2 t3 t4 t5 (.str (Str.ofString "integer") tk) (.ref I) (.ref ad)) :: (I, W.listOf vs.toArray n) :: (ad, o) :: (cx, instObj 92 cd) :: (cd, vecD w c1 c2 c3 c4 c5 (.str (Str.ofString "character") ck) (.ref ci) .none) :: (ci, W.listOf #[.str (Str.ofString "factor") fk] nc)
      :: (lx, instObj 92 ld) :: (ld, vecD w l1 l2 l3 l4 l5 (.str (Str.ofString "character") lk) (.ref li) .none) :: (li, W.listOf tvs.toArray nl) :: news)) (N : News h₀ L s.heap led)
    (hret : ∀ e h' tk', Gone w h₀ L m base led (envX cn (fnS cnm cg cc cm) L a ccd cl :: outer) .none e h' → E (.ref e) { s with heap := h', toks := tk' }) :
    wpAny (model PySem.Challenge.rw_pq1396_01.row.prog w) (ktrTop 303 10 gd cn (fnS cnm cg cc cm) L a ccd cl outer) (call (.ref 115) [.ref x]) Q E s := by
  subst hled
  have N₀ := Stop.mk (fun p hp => (N p hp).2 : ∀ p ∈ _, p.1 ≠ L ∧ h₀.get? p.1 = none)
  revert X; k_fill; intro X
  k_steps
  have FG₀ := Stop.mk (by assumption : Fr h₀ L _ m)
  have B₀ := Stop.mk (by assumption : Below (ktrTop 303 10 gd cn (fnS cnm cg cc cm) L a ccd cl outer) base (envX cn (fnS cnm cg cc cm) L a ccd cl :: outer) _)
  have hsz : vs.toArray.size ≤ sizeLine := by rw [PySem.sizeLine_eq, List.size_toArray]; omega
  refine Stop.mk ?_
  refine' comp_bad (fun v => ∃ u, CodeOk tvs v u) ?hh ?hclos ?hcell ?hkind ?hnames ?hx ?hiter ?F₀ ?N₀ ?hax hsz hbad ?good ?bad
  case hh => rfl
  case hclos => with_unfolding_all rfl
  case hcell => decide
  case hkind => rfl
  case hnames => decide
  case hx => rfl
  case F₀ => k_asm
  case N₀ => k_asm
  case hax => k_mem
  case hiter =>
    intro R hR
    k_steps
    exact hR _
  case good =>
    intro v news1 I oI C oC D m₂ ys h tk E' hv hG hsub hC hx F N off ne
    replace N := turn_led N hsub
    (simp only [List.cons_append] at N)
    obtain ⟨u, ⟨rfl, rfl⟩ | ⟨i, ik, rfl, iaX⟩⟩ := hG
    · first | k_fold | (k_unmd; k_fold) | (dsimp only; k_fold)
      k_steps
      refine vec_end (S := fun _ => True) (by assumption) (by assumption) (fun p hp => by simp [hp]) (by omega) (by omega) (by omega) (by omega) (by omega) off trivial (fun p hp => by simp [hp])
    · first | k_fold | (k_unmd; k_fold) | (dsimp only; k_fold)
      have h1 := iaX.lo
      have h2 := iaX.hi
      k_steps
      all_goals refine vec_end (S := fun _ => True) (by assumption) (by assumption) (fun p hp => by simp [hp]) (by omega) (by omega) (by omega) (by omega) (by omega) off trivial (fun p hp => by simp [hp])
  case bad =>
    intro v news1 C oC m₂ h tk hv hG hsub hC hx F N hCn
    replace N := bad_led N hsub
    (simp only [List.cons_append] at N)
    rcases hV v hv with rfl | ⟨i, ik, rfl⟩
    · exact absurd ⟨_, .inl ⟨rfl, rfl⟩⟩ hG
    · have iaX : OffText tvs i := ⟨fun q => hG (by
        have hlt : (i - 1).toNat < tvs.length := by omega
        exact ⟨_, .inr ⟨_, _, rfl, q.1, q.2, List.getElem?_eq_getElem hlt, hT⟩⟩), hT⟩
      have h1 := iaX.off
      have NC := Stop.mk N
      first | k_fold | (k_unmd; k_fold) | (dsimp only; k_fold)
      k_steps
      all_goals
        refine Stop.mk ?_
        refine raise_ref (by assumption : (Mine.hd.heap_39 w.params).In _) (by rfl) rfl ?_
        k_steps
        rename Fr _ _ _ _ => Fx
        rename News _ _ _ _ => Nx
        refine mkRefusal (Frag.In.keeps (by assumption) Fx.keep) ⟨fun e dd t0 t1' t2' h'' ext he hd' ne nd hde => ⟨e, t0, dd, rfl, fun b o q => ext b o (Fx.keep b o q), he, ?_⟩⟩
        have NC := Stop.of NC
        rename Below _ _ _ _ => Bx
        refine gone_begin rfl rfl Bx.stays Bx.frames (show ScopeKind.function ≠ ScopeKind.module by decide) (by assumption) Fx (fun p hp => ⟨(Nx p hp).1, (NC p hp).2⟩) Nx ext he hd' ne nd hde (fun h₃ G => ?_)
        refine gone_comp rfl rfl rfl rfl (Stop.of B₀).frames (Stop.of FG₀) (Stop.of N₀) (fun p hp => hCn p (by repeat first | exact hp | apply List.Mem.tail)) (fun p hp => by repeat first | exact hp | exact List.mem_append_left news1 hp | apply List.Mem.tail) G (.head _) hC (fun h₄ G₄ => hret _ _ _ G₄)
end Mine
end
section
open PySem PySem.W PySem.Calls PySem.Spec PyProof.Rows
namespace Mine
local macro_rules | `(tactic| walk_at "eval ListComp") => `(tactic| (k_here; refine Stop.on ?_))
local macro_rules | `(tactic| walk_at "exec Raise some none") => `(tactic| (k_here; refine Stop.on ?_))
set_option maxHeartbeats 16000000 in
theorem lv_int {w : World} {mean : ExcName → Option Value} {mg mb : Str → Option Value} {gd : Option (List Code)} {cn : Str} {cnm : List (Str × NameKind)} {cg cc : Bool} {cm : List (Str × Const)} {a : Addr} {ccd : Value} {cl : List (Str × Addr)} {outer : List Env} {A₀ : Around} {base h₀ : Heap} {L : Addr} {m : Str → Option Value} {s : Shared} {Q E : Value → Shared → Prop}
    (B : Below A₀ base outer h₀) (F : Fr h₀ L s.heap m) (X : (Mine.hd.heap_39 w.params).In h₀) (T : Top Mine.hd.view_39 (looseW Mine.hd.view_39 []) mean mg mb h₀) 
    {x d I ad cx cd ci lx ld li : Addr} {t1 t2 t3 t4 t5 tk c1 c2 c3 c4 c5 ck fk l1 l2 l3 l4 l5 lk : Nat} {vs tvs : List Value} {n nc nl : Nat} {news : List (Addr × Obj)} {o : Obj} (hlen : vs.length < 100)
    (hO : o.IsDictOf (PySem.strKind PySem.Challenge.rw_pq1396_01.row.prog w) [(Str.ofString "class", .ref cx), (Str.ofString "levels", .ref lx)]) (hM : (ad == sysModules) = false)
    {led : List (Addr × Obj)} (hled : led = ((x, instObj 92 d) :: (d, vecD w t1 t2 t3 t4 t5 (.str (Str.ofString "integer") tk) (.ref I) (.ref ad)) :: (I, W.listOf vs.toArray n) :: (ad, o) :: (cx, instObj 92 cd) :: (cd, vecD w c1 c2 c3 c4 c5 (.str (Str.ofString "character") ck) (.ref ci) .none) :: (ci, W.listOf #[.str (Str.ofString "factor") fk] nc)
      :: (lx, instObj 92 ld) :: (ld, vecD w l1 l2 l3 l4 l5 (.str (Str.ofString "integer") lk) (.ref li) .none) :: (li, W.listOf tvs.toArray nl) :: news)) (N : News h₀ L s.heap led)
    (hnil : vs = [] → ∀ D h' tk', Fr h₀ L h' m → News h₀ L h' ((D, LCg.lst []) :: led) → Q (.ref D) { s with heap := h', toks := tk' })
    (hret : vs ≠ [] → ∀ e h' tk', Gone w h₀ L m base led (envX cn (fnS cnm cg cc cm) L a ccd cl :: outer) .none e h' → E (.ref e) { s with heap := h', toks := tk' }) :
    wpAny (model PySem.Challenge.rw_pq1396_01.row.prog w) (ktrTop 303 10 gd cn (fnS cnm cg cc cm) L a ccd cl outer) (call (.ref 115) [.ref x]) Q E s := by
  subst hled
  have N₀ := Stop.mk (fun p hp => (N p hp).2 : ∀ p ∈ _, p.1 ≠ L ∧ h₀.get? p.1 = none)
  revert X; k_fill; intro X
  k_steps
  have FG₀ := Stop.mk (by assumption : Fr h₀ L _ m)
  have B₀ := Stop.mk (by assumption : Below (ktrTop 303 10 gd cn (fnS cnm cg cc cm) L a ccd cl outer) base (envX cn (fnS cnm cg cc cm) L a ccd cl :: outer) _)
  have hsz : vs.toArray.size ≤ sizeLine := by rw [PySem.sizeLine_eq, List.size_toArray]; omega
  refine Stop.mk ?_
  by_cases hvs : vs = []
  · k_dflt (refine LCg.ListComp_U (F₀ := by k_asm) (by with_unfolding_all rfl) (by decide) (by rfl) (by decide) (by rfl) ?_)
    k_steps
    k_dflt (refine LCg.CompSrc.ledger (by rfl) (by k_asm) (by k_asm) (by k_mem) hsz ?_)
    intro g'
    refine rest_map (fun _ _ _ => True) (fun _ _ _ _ _ _ => trivial) ?_ (fun l hl => .inr ⟨_, hl _ (by k_mem), rfl, _, rfl⟩) ?_
    · intro v news1 I oI C oC D m₂ ys h tk E' hv
      rw [hvs] at hv
      cases hv
    · intro ys news1 hsub hp
      rw [hvs] at hp
      cases hp
      k_steps
      rename News _ _ _ _ => Nx
      exact hnil hvs _ _ _ (by assumption) (fun p hp => by
        rcases List.mem_cons.mp hp with e | hp
        · exact e ▸ Nx _ (.head _)
        · exact Nx p (List.mem_cons_of_mem _ (hsub p (by repeat first | exact hp | apply List.Mem.tail))))
  · refine' comp_bad (fun _ => False) ?hh ?hclos ?hcell ?hkind ?hnames ?hx ?hiter ?F₀ ?N₀ ?hax hsz ?hbad ?good ?bad
    case hbad => obtain ⟨v, hv⟩ := List.exists_mem_of_ne_nil vs hvs; exact ⟨v, hv, id⟩
    case hh => rfl
    case hclos => with_unfolding_all rfl
    case hcell => decide
    case hkind => rfl
    case hnames => decide
    case hx => rfl
    case F₀ => k_asm
    case N₀ => k_asm
    case hax => k_mem
    case hiter =>
      intro R hR
      k_steps
      exact hR _
    case good =>
      intro v news1 I oI C oC D m₂ ys h tk E' hv hG
      exact hG.elim
    case bad =>
      intro v news1 C oC m₂ h tk hv hG hsub hC hx F N hCn
      replace N := bad_led N hsub
      (simp only [List.cons_append] at N)
      have NC := Stop.mk N
      first | k_fold | (k_unmd; k_fold) | (dsimp only; k_fold)
      k_steps
      all_goals
        refine Stop.mk ?_
        refine raise_ref (by assumption : (Mine.hd.heap_39 w.params).In _) (by rfl) rfl ?_
        k_steps
        rename Fr _ _ _ _ => Fx
        rename News _ _ _ _ => Nx
        refine mkRefusal (Frag.In.keeps (by assumption) Fx.keep) ⟨fun e dd t0 t1' t2' h'' ext he hd' ne nd hde => ⟨e, t0, dd, rfl, fun b o q => ext b o (Fx.keep b o q), he, ?_⟩⟩
        have NC := Stop.of NC
        rename Below _ _ _ _ => Bx
        refine gone_begin rfl rfl Bx.stays Bx.frames (show ScopeKind.function ≠ ScopeKind.module by decide) (by assumption) Fx (fun p hp => ⟨(Nx p hp).1, (NC p hp).2⟩) Nx ext he hd' ne nd hde (fun h₃ G => ?_)
        refine gone_comp rfl rfl rfl rfl (Stop.of B₀).frames (Stop.of FG₀) (Stop.of N₀) (fun p hp => hCn p (by repeat first | exact hp | apply List.Mem.tail)) (fun p hp => by repeat first | exact hp | exact List.mem_append_left news1 hp | apply List.Mem.tail) G (.head _) hC (fun h₄ G₄ => hret hvs _ _ _ G₄)
end Mine
end
section
open PySem PySem.W PySem.Calls PySem.Spec PyProof.Rows
namespace Mine
local macro_rules | `(tactic| walk_at "eval ListComp") => `(tactic| (k_here; refine Stop.on ?_))
local macro_rules | `(tactic| walk_at "exec Raise some none") => `(tactic| (k_here; refine Stop.on ?_))
set_option maxHeartbeats 16000000 in
theorem lv_none {w : World} {mean : ExcName → Option Value} {mg mb : Str → Option Value} {gd : Option (List Code)} {cn : Str} {cnm : List (Str × NameKind)} {cg cc : Bool} {cm : List (Str × Const)} {a : Addr} {ccd : Value} {cl : List (Str × Addr)} {outer : List Env} {A₀ : Around} {base h₀ : Heap} {L : Addr} {m : Str → Option Value} {s : Shared} {Q E : Value → Shared → Prop}
    (B : Below A₀ base outer h₀) (F : Fr h₀ L s.heap m) (X : (Mine.hd.heap_39 w.params).In h₀) (T : Top Mine.hd.view_39 (looseW Mine.hd.view_39 []) mean mg mb h₀) 
    {x d I ad cx cd ci lx ld li : Addr} {t1 t2 t3 t4 t5 tk c1 c2 c3 c4 c5 ck fk l1 l2 l3 l4 l5 lk : Nat} {vs tvs : List Value} {n nc nl : Nat} {news : List (Addr × Obj)} {o : Obj} (hlen : vs.length < 100)
    (hO : o.IsDictOf (PySem.strKind PySem.Challenge.rw_pq1396_01.row.prog w) [(Str.ofString "class", .ref cx)]) (hM : (ad == sysModules) = false)
    {led : List (Addr × Obj)} (hled : led = ((x, instObj 92 d) :: (d, vecD w t1 t2 t3 t4 t5 (.str (Str.ofString "integer") tk) (.ref I) (.ref ad)) :: (I, W.listOf vs.toArray n) :: (ad, o) :: (cx, instObj 92 cd) :: (cd, vecD w c1 c2 c3 c4 c5 (.str (Str.ofString "character") ck) (.ref ci) .none) :: (ci, W.listOf #[.str (Str.ofString "factor") fk] nc)
      :: news)) (N : News h₀ L s.heap led)
    (hnil : vs = [] → ∀ D h' tk', Fr h₀ L h' m → News h₀ L h' ((D, LCg.lst []) :: led) → Q (.ref D) { s with heap := h', toks := tk' })
    (hret : vs ≠ [] → ∀ e h' tk', Gone w h₀ L m base led (envX cn (fnS cnm cg cc cm) L a ccd cl :: outer) .none e h' → E (.ref e) { s with heap := h', toks := tk' }) :
    wpAny (model PySem.Challenge.rw_pq1396_01.row.prog w) (ktrTop 303 10 gd cn (fnS cnm cg cc cm) L a ccd cl outer) (call (.ref 115) [.ref x]) Q E s := by
  subst hled
  have N₀ := Stop.mk (fun p hp => (N p hp).2 : ∀ p ∈ _, p.1 ≠ L ∧ h₀.get? p.1 = none)
  revert X; k_fill; intro X
  k_steps
  have FG₀ := Stop.mk (by assumption : Fr h₀ L _ m)
  have B₀ := Stop.mk (by assumption : Below (ktrTop 303 10 gd cn (fnS cnm cg cc cm) L a ccd cl outer) base (envX cn (fnS cnm cg cc cm) L a ccd cl :: outer) _)
  have hsz : vs.toArray.size ≤ sizeLine := by rw [PySem.sizeLine_eq, List.size_toArray]; omega
  refine Stop.mk ?_
  by_cases hvs : vs = []
  · k_dflt (refine LCg.ListComp_U (F₀ := by k_asm) (by with_unfolding_all rfl) (by decide) (by rfl) (by decide) (by rfl) ?_)
    k_steps
    k_dflt (refine LCg.CompSrc.ledger (by rfl) (by k_asm) (by k_asm) (by k_mem) hsz ?_)
    intro g'
    refine rest_map (fun _ _ _ => True) (fun _ _ _ _ _ _ => trivial) ?_ (fun l hl => .inr ⟨_, hl _ (by k_mem), rfl, _, rfl⟩) ?_
    · intro v news1 I oI C oC D m₂ ys h tk E' hv
      rw [hvs] at hv
      cases hv
    · intro ys news1 hsub hp
      rw [hvs] at hp
      cases hp
      k_steps
      rename News _ _ _ _ => Nx
      exact hnil hvs _ _ _ (by assumption) (fun p hp => by
        rcases List.mem_cons.mp hp with e | hp
        · exact e ▸ Nx _ (.head _)
        · exact Nx p (List.mem_cons_of_mem _ (hsub p (by repeat first | exact hp | apply List.Mem.tail))))
  · refine' comp_bad (fun _ => False) ?hh ?hclos ?hcell ?hkind ?hnames ?hx ?hiter ?F₀ ?N₀ ?hax hsz ?hbad ?good ?bad
    case hbad => obtain ⟨v, hv⟩ := List.exists_mem_of_ne_nil vs hvs; exact ⟨v, hv, id⟩
    case hh => rfl
    case hclos => with_unfolding_all rfl
    case hcell => decide
    case hkind => rfl
    case hnames => decide
    case hx => rfl
    case F₀ => k_asm
    case N₀ => k_asm
    case hax => k_mem
    case hiter =>
      intro R hR
      k_steps
      exact hR _
    case good =>
      intro v news1 I oI C oC D m₂ ys h tk E' hv hG
      exact hG.elim
    case bad =>
      intro v news1 C oC m₂ h tk hv hG hsub hC hx F N hCn
      replace N := bad_led N hsub
      (simp only [List.cons_append] at N)
      have NC := Stop.mk N
      first | k_fold | (k_unmd; k_fold) | (dsimp only; k_fold)
      k_steps
      all_goals
        refine Stop.mk ?_
        refine raise_ref (by assumption : (Mine.hd.heap_39 w.params).In _) (by rfl) rfl ?_
        k_steps
        rename Fr _ _ _ _ => Fx
        rename News _ _ _ _ => Nx
        refine mkRefusal (Frag.In.keeps (by assumption) Fx.keep) ⟨fun e dd t0 t1' t2' h'' ext he hd' ne nd hde => ⟨e, t0, dd, rfl, fun b o q => ext b o (Fx.keep b o q), he, ?_⟩⟩
        have NC := Stop.of NC
        rename Below _ _ _ _ => Bx
        refine gone_begin rfl rfl Bx.stays Bx.frames (show ScopeKind.function ≠ ScopeKind.module by decide) (by assumption) Fx (fun p hp => ⟨(Nx p hp).1, (NC p hp).2⟩) Nx ext he hd' ne nd hde (fun h₃ G => ?_)
        refine gone_comp rfl rfl rfl rfl (Stop.of B₀).frames (Stop.of FG₀) (Stop.of N₀) (fun p hp => hCn p (by repeat first | exact hp | apply List.Mem.tail)) (fun p hp => by repeat first | exact hp | exact List.mem_append_left news1 hp | apply List.Mem.tail) G (.head _) hC (fun h₄ G₄ => hret hvs _ _ _ G₄)
end Mine
end
section
open PySem PySem.W PySem.W.X PySem.Calls PySem.Spec PyProof.Rows
namespace Mine
structure MsgQ (h : Heap) (tk : Tok) (g : Array GenState) (d : Drawn) (os : OsState) (Q : Value → Shared → Prop) : Prop where
  go : ∀ t', Q (.str (Str.ofString "malformed factor") tk) ⟨h, g, d, t', os⟩
local macro_rules | `(tactic| x_close) => `(tactic| ((rename MsgQ _ _ _ _ _ _ => q9); with_unfolding_all exact MsgQ.go q9 _))
set_option maxHeartbeats 0 in
theorem excMsg_call {w : World} {gd : Option (List Code)} {cn : Str} {cnm : List (Str × NameKind)} {cg cc : Bool} {cm : List (Str × Const)} {L a : Addr} {ccd : Value} {cl : List (Str × Addr)} {outer : List Env}  {h : Heap} {g : Array GenState} {d : Drawn} {t t1 n : Nat} {os : OsState} {Q E : Value → Shared → Prop} {tk : Tok} {e dd : Addr} {vs : Array Value} {sl : Array (Option Value)}
    (X : (Mine.hd.heap_39 w.params).In h) (he : h.get? e = some { cls := .ref 51, dict := some dd, data := .fields vs, slots := sl }) (hdd : h.get? dd = some { cls := .type "dict", dict := none, data := .dict #[{ hash := PyData.keyHash w.params (Str.ofString "message"), key := Value.str (Str.ofString "message") t1, val := Value.str (Str.ofString "malformed factor") tk }] 1, slots := #[] })
    (hq : MsgQ h tk g d os Q) :
    wpAny (model PySem.Challenge.rw_pq1396_01.row.prog w) { handled := some (.ref e), depth := 303, frames := some (envX cn (fnS cnm cg cc cm) L a ccd cl :: outer), guards := gd, units := 10 } (call (.builtin "BaseException.__getattribute__") [.ref e, .str (Str.ofString "message") n]) Q E ⟨h, g, d, t, os⟩ := by
  revert X; k_fill; intro X
  x_run
end Mine
end
section
open PySem PySem.W PySem.W.X PySem.Calls PySem.Spec PyProof.Rows
namespace Mine
theorem looks_ga {M : Model} {w : World} {h : Heap} (X : (Mine.hd.heap_39 w.params).In h) : Looks M h (typeLookup (.ref 51) "__getattribute__") (some (.builtin "BaseException.__getattribute__")) := looks_findIn X (by with_unfolding_all rfl)
theorem looks_gh {M : Model} {w : World} {h : Heap} (X : (Mine.hd.heap_39 w.params).In h) : Looks M h (typeLookup (.ref 51) "__getattr__") none := looks_findIn X (by with_unfolding_all rfl)
theorem excMsg {w : World} {gd : Option (List Code)} {cn : Str} {cnm : List (Str × NameKind)} {cg cc : Bool} {cm : List (Str × Const)} {L a : Addr} {ccd : Value} {cl : List (Str × Addr)} {outer : List Env}  {h : Heap} {g : Array GenState} {d : Drawn} {t t1 : Nat} {os : OsState} {Q E : Value → Shared → Prop} {tk : Tok} {e dd : Addr} {vs : Array Value} {sl : Array (Option Value)} {expr : Bool}
    (X : (Mine.hd.heap_39 w.params).In h) (he : h.get? e = some { cls := .ref 51, dict := some dd, data := .fields vs, slots := sl }) (hdd : h.get? dd = some (msgD w t1 tk))
    (hq : ∀ t', Q (.str (Str.ofString "malformed factor") tk) ⟨h, g, d, t', os⟩) :
    wpAny (model PySem.Challenge.rw_pq1396_01.row.prog w) { handled := some (.ref e), depth := 303, frames := some (envX cn (fnS cnm cg cc cm) L a ccd cl :: outer), guards := gd, units := 10 } (getAttr (.ref e) (Str.ofString "message") expr) Q E ⟨h, g, d, t, os⟩ := by
  have f3 := PySem.F.attr_Exception.ga.bind (.ref e)
  have hx0 : (expr && onTheHeap (Value.builtin "BaseException.__getattribute__")) = false := by cases expr <;> rfl
  have hx2 : (Value.builtin "BaseException.__getattribute__" == Value.builtin "object.__getattribute__") = false := by decide +kernel
  have hx1 : (onTheHeap (Value.ref 51) && Value.builtin "BaseException.__getattribute__" == Value.builtin "object.__getattribute__") = false := by rw [hx2]; rfl
  repeat (any_goals (first | assumption | (with_reducible refine wpAny_loadPart_at he ?_) | with_reducible refine (looks_ga X).at ?_ | with_reducible refine (looks_gh X).at ?_ | ((fail_if_success (with_reducible show wpAny _ _ (call _ _) _ _ _)); wp_step)))
  refine excMsg_call (n := t) X he hdd ⟨fun t' => ?_⟩
  repeat (any_goals (first | assumption | wp_step))
  all_goals exact hq _
end Mine
end
section
open PySem PySem.W PySem.Calls PySem.Spec PyProof.Rows
namespace Mine
theorem told_caught {w : World} {mean : ExcName → Option Value} {mg mb : Str → Option Value} {gd : Option (List Code)} {tnm : List (Str × NameKind)} {tm : List (Str × Const)} {tn : Str} {ta : Addr} {tcd : Value} {lenv : Env} {h₀ g' base : Heap} {L L' e : Addr} {m m' : Str → Option Value} {led : List (Addr × Obj)} {s : Shared} {Q : Flow → Shared → Prop} {E : Value → Shared → Prop} {np p1 p2 p3 pos : Pos}
    (G : Gone w g' L' m' base led (envOf tn (fnS tnm false false tm) L' ta tcd :: [lenv]) .none e s.heap) (hl : lenv.frame = some L) (X : (Mine.hd.heap_39 w.params).In h₀) (T : Top Mine.hd.view_39 (looseW Mine.hd.view_39 []) mean mg mb h₀)
    (FG : Fr h₀ L g' m) (Nn : ∀ p ∈ led, p.1 ≠ L ∧ h₀.get? p.1 = none)
    (hk1 : (envOf tn (fnS tnm false false tm) L' ta tcd).kindOf (Str.ofString "refusal") = some .local) (hk2 : (envOf tn (fnS tnm false false tm) L' ta tcd).kindOf (Str.ofString "Refusal") = some .globalImplicit)
    (h : ∀ tok h' tk', Fr h₀ L h' m → News h₀ L h' led → Q (.ret (.str (Str.ofString "malformed factor") tok)) { s with heap := h', toks := tk' }) :
    wpAny (model PySem.Challenge.rw_pq1396_01.row.prog w) { handled := none, depth := 303, frames := some (envOf tn (fnS tnm false false tm) L' ta tcd :: [lenv]), guards := gd, units := 10 } (noteFrame (.ref e) (envOf tn (fnS tnm false false tm) L' ta tcd))
      (fun _ s₂ => wpAny (model PySem.Challenge.rw_pq1396_01.row.prog w) { handled := none, depth := 303, frames := some (envOf tn (fnS tnm false false tm) L' ta tcd :: [lenv]), guards := gd, units := 10 } (setFlight (.ref e) none) (fun _ s₃ =>
        wpAny (model PySem.Challenge.rw_pq1396_01.row.prog w) { handled := none, depth := 303, frames := some (envOf tn (fnS tnm false false tm) L' ta tcd :: [lenv]), guards := gd, units := 10 }
          (handleBy (.ref e) (envOf tn (fnS tnm false false tm) L' ta tcd) [.ExceptHandler (some (.Name (Str.ofString "Refusal") np)) (some (Str.ofString "refusal")) [.Return (some (.Attribute (.Name (Str.ofString "refusal") p1) (Str.ofString "message") p2)) p3] pos]) Q E s₃) E s₂) E s := by
  obtain ⟨dd, H, Xs, Z, t1, t2, F, F', N', hd, hde, hdX, hdZ, ne, nd, nX, nZ⟩ := G
  have hLL : L < L' := Nat.lt_of_lt_of_le FG.ns.lt F'.above
  have hLne : L ≠ L' := Nat.ne_of_lt hLL
  have fe : frs (envOf tn (fnS tnm false false tm) L' ta tcd :: [lenv]) = [L', L] := by show (_ :: [lenv]).filterMap (·.frame) = _; rw [List.filterMap_cons]; show L' :: ([lenv].filterMap (·.frame)) = _; rw [List.filterMap_cons, hl]; rfl
  have gL : ∀ b, g'.get? b = none → b ≠ L := fun b q z => by
    obtain ⟨o, es, ep, ho, _⟩ := FG.ns
    rw [z, ho] at q; cases q
  have h0L : h₀.get? L = none := Heap.get?_none_of_le FG.above
  have h0L' : h₀.get? L' = none := Heap.get?_none_of_le (Nat.le_trans FG.above (Nat.le_of_lt hLL))
  have offX : ∀ b o, g'.get? b = some o → b ∉ Xs := fun b o q z => by rw [(nX b z).base] at q; cases q
  have offE : ∀ b o, g'.get? b = some o → b ≠ e := fun b o q z => by rw [z, ne.base] at q; cases q
  -- what a heap in flight keeps
  have kept : ∀ {fl : Value} {hh : Heap}, Fly H Xs Z base (envOf tn (fnS tnm false false tm) L' ta tcd :: [lenv]) e (.ref 51) (some dd) fl hh → (∀ b o, h₀.get? b = some o → hh.get? b = some o) ∧ hh.Ns L m ∧ hh.Ns L' m' ∧ (∀ p ∈ led, hh.get? p.1 = some p.2) ∧ hh.get? dd = some (msgD w t1 t2) := by
    intro fl hh Fl
    refine ⟨fun b o q => ?_, ?_, ?_, fun p hp => ?_, Fl.keep _ _ hd hdX hdZ hde⟩
    · have q' := FG.keep _ _ q
      refine Fl.keep _ _ (F'.keep _ _ q') (offX _ _ q') (fun z => ?_) (offE _ _ q')
      rcases nZ _ z with z | z
      · rw [fe] at z
        rcases List.mem_cons.mp z with z | z
        · rw [z, h0L'] at q; cases q
        · rw [List.mem_singleton.mp z, h0L] at q; cases q
      · rw [z.base] at q'; cases q'
    · obtain ⟨o, es, ep, ho, r⟩ := FG.ns
      obtain ⟨sl, hs⟩ := Fl.upto _ _ (F'.keep _ _ ho) (offX _ _ ho) (offE _ _ ho)
      exact ⟨_, es, ep, hs, r⟩
    · obtain ⟨o, es, ep, ho, r⟩ := F'.ns
      obtain ⟨sl, hs⟩ := Fl.upto _ _ ho (fun z => (nX _ z).ne rfl) (fun z => ne.ne z.symm)
      exact ⟨_, es, ep, hs, r⟩
    · refine Fl.keep _ _ (N' p hp).1 (fun z => (nX _ z).off p hp rfl) (fun z => ?_) (fun z => ne.off p hp z)
      rcases nZ _ z with z | z
      · rw [fe] at z
        rcases List.mem_cons.mp z with z | z
        · exact (N' p hp).2.1 z
        · exact (Nn p hp).1 (List.mem_singleton.mp z)
      · exact z.off p hp rfl
  have frOf : ∀ {mm : Str → Option Value} {hh : Heap}, (∀ b o, h₀.get? b = some o → hh.get? b = some o) → hh.Ns L' mm → Fr h₀ L' hh mm := fun k n => ⟨n, k, Nat.le_trans FG.above (Nat.le_of_lt hLL)⟩
  obtain ⟨nm, qn, N, bs, bm, hdct, sn, sub, ab, col, cdd, k0, k1, k2, k3, k5, newId, hC, hbase, _⟩ := kts_cls (C := 51) (T := "Exception") X (by rfl)
  refine fly_note rfl rfl F fun h₁ F₁ => fly_set (s := { s with heap := h₁ }) none F₁ fun h₂ F₂ => ?_
  obtain ⟨K2, A2, B2, C2, D2⟩ := kept F₂
  obtain ⟨hp, g, d, tk, os⟩ := s
  refine wpAny_handleBy_cons (codeAny_handlers_test (name_K (frOf K2 B2) X (topRead_of T) (v := .ref 51) (by with_unfolding_all rfl) ?_ rfl hk2 (by decide))) (by intro q; cases q)
  obtain ⟨oe, vs, Tb, oT, ts, he, hcls, hdict, hdata, _⟩ := F₂.at_
  refine wpAny_excMatches_sub_self (K2 _ _ hC) he hcls hbase (codeAny_handlers_suite_as ?_)
  refine fly_set (s := ⟨h₂, g, d, _, os⟩) none F₂ fun h₃ F₃ => ?_
  obtain ⟨K3, A3, B3, C3, D3⟩ := kept F₃
  refine wpAny_storeName_local hk1 B3 (fun h₄ hn₄ hs₄ => ?_) rfl
  have e4 : ∀ b o, b ≠ L' → h₃.get? b = some o → h₄.get? b = some o := fun b o q r => (hs₄.2 b q).trans r
  have K4 : ∀ b o, h₀.get? b = some o → h₄.get? b = some o := fun b o q => e4 b o (fun z => by rw [z, h0L'] at q; cases q) (K3 b o q)
  obtain ⟨oe, vs, Tb, oT, ts, he, hcls, hdict, hdata, _⟩ := F₃.at_
  have he4 := e4 _ _ ne.ne he
  obtain ⟨c, dct, dt, sl⟩ := oe
  dsimp only at hcls hdict hdata
  subst hcls hdict hdata
  refine wpAny_execs_cons (wpAny_Return_some (Attribute_name (wpAny_Name (wpAny_loadName_local rfl hk1 hn₄ (v := .ref e) (by simp) ?_) (by decide))))
  refine excMsg (X.keeps K4) he4 (e4 _ _ nd.ne D3) fun t' => ?_
  refine wpAny_nameGoes hk1 hn₄ rfl fun h₅ m₅ hn₅ hs₅ => ?_
  have e5 : ∀ b o, b ≠ L' → h₄.get? b = some o → h₅.get? b = some o := fun b o q r => (hs₅.2 b q).trans r
  refine h _ _ _ ⟨?_, fun b o q => e5 b o (fun z => by rw [z, h0L'] at q; cases q) (K4 b o q), FG.above⟩ (fun p hp => ⟨e5 _ _ (N' p hp).2.1 (e4 _ _ (N' p hp).2.1 (C3 p hp)), Nn p hp⟩)
  obtain ⟨o, es, ep, ho, r⟩ := A3
  exact ⟨o, es, ep, e5 _ _ hLne (e4 _ _ hLne ho), r⟩
end Mine
end
section
open PySem PySem.W PySem.Calls PySem.Spec PyProof.Rows
namespace Mine
theorem my_def {prog : Program} {w : World} {A A₀ : Around} {s : Shared} {K : Frag} {L : Addr} {h₀ base : Heap} {m mg mb : Str → Option Value} {news : List (Addr × Obj)} {p : Program} {loose : List Str} {mean : ExcName → Option Value} {env : Env} {outer : List Env} {R : Result → Shared → Prop} {name qual : Str} {params : Arguments} {body : List Stmt} {scope : Scope} {dV kV doc pm cdv ct oc : Value} {an od : Option Addr} {osl : Array (Option Value)} {f : Addr} {args : Args} {binds : List (Str × Value)}
    (B : Below A₀ base outer h₀) (F : Fr h₀ L s.heap m) (X₀ : K.In h₀) (N : News h₀ L s.heap news) (T : Top p loose mean mg mb h₀) (hA : A.frames = some (env :: outer)) (hf : env.frame = some L) (hke : env.scope.kind = .function)
    (ho' : K.lookup f = some ⟨oc, od, .func (fnOf name qual params body scope dV kV doc pm an cdv ct), osl⟩) (hcd' : codeIn K cdv qual = true) (hroom : A.depth < recursionLimit)
    (hbind : BindsTo s (fnOf name qual params body scope dV kV doc pm an cdv ct) args binds) (hloc : ∀ y ∈ binds, scope.names.lookup y.1 = some .local)
    (h : ∀ g L' h₁, Fr h₀ L g m → Fr g L' h₁ (fun y => binds.reverse.lookup y) → News g L' h₁ news → Below A base (env :: outer) g → K.In g → Top p loose mean mg mb g →
      (∀ v s', LeaveK h₀ L m g R v s' → R (.ok (.ret v)) s') → (∀ p ∈ news, p.1 < L') →
      wpAny (model prog w) (A.deeper (envOf qual scope L' f cdv)) (execs body (envOf qual scope L' f cdv))
        (fun fl s' => R (.ok (.ret (match fl with | .ret v => v | _ => .none))) s')
        (fun e s' => wpAny (model prog w) (A.deeper (envOf qual scope L' f cdv)) (leaving (envOf qual scope L' f cdv) e) (fun _ s'' => R (.error e) s'') (fun e' s'' => R (.error e') s'') s')
        { s with heap := h₁, toks := s.toks + binds.length })
    (hco : scope.isCoroutine = false) (hgen : scope.isGenerator = false) (hk : scope.kind = .function)
    (hcell : ∀ x ∈ scope.names, x.2 ≠ .cell) : codeAny (model prog w) A (.call (.ref f) args) R s := by
  have ho := (X₀.keeps F.keep) _ _ ho'
  have hcd := codeRec_of (X₀.keeps F.keep) hcd'
  obtain ⟨FG, BG, st, lv⟩ := groundX (R := R) B F N hA hf hke
  refine codeAny_call_def (fd := fnX name qual params body scope [] dV kV doc pm an cdv ct) (body := body) (binds := binds) hroom ho rfl (T.nolimit.keeps F.keep) hcd rfl hbind hcell hloc (fun h₁ hns hk₁ => ?_) hco hgen hk
  exact h _ s.heap.objs.size h₁ FG ⟨hns, fun b o e => hk₁ b o (of_hideAll _ e), Nat.le_of_eq (hideAll_size _ _)⟩
    (fun p hp => ⟨hk₁ _ _ (N p hp).1, Nat.ne_of_lt (Heap.lt_size (N p hp).1), hideAll_none _ (List.mem_map_of_mem hp)⟩) BG (X₀.keeps st) (T.keeps st) lv (fun p hp => Heap.lt_size (N p hp).1)

/-- what a loop over a vector gives -/
structure LvDoes (w : World) (led : List (Addr × Obj)) (x : Addr) (R : List (Addr × Obj) → List Value → Prop) (bad : Prop) : Prop where
  go : ∀ {mean : ExcName → Option Value} {mg mb : Str → Option Value} {gd : Option (List Code)} {cn : Str} {cnm : List (Str × NameKind)} {cg cc : Bool} {cm : List (Str × Const)} {a : Addr} {ccd : Value} {cl : List (Str × Addr)} {outer : List Env} {A₀ : Around} {base h₀ : Heap} {L : Addr} {m : Str → Option Value} {s : Shared} {Q E : Value → Shared → Prop},
    Below A₀ base outer h₀ → Fr h₀ L s.heap m → (Mine.hd.heap_39 w.params).In h₀ → Top Mine.hd.view_39 (looseW Mine.hd.view_39 []) mean mg mb h₀ → News h₀ L s.heap led →
    (∀ D ys news' h' tk', Fr h₀ L h' m → News h₀ L h' news' → (∀ p ∈ led, p ∈ news') → (D, LCg.lst ys) ∈ news' → R news' ys → Q (.ref D) { s with heap := h', toks := tk' }) →
    (bad → ∀ e h' tk', Gone w h₀ L m base led (envX cn (fnS cnm cg cc cm) L a ccd cl :: outer) .none e h' → E (.ref e) { s with heap := h', toks := tk' }) →
    wpAny (model PySem.Challenge.rw_pq1396_01.row.prog w) (ktrTop 303 10 gd cn (fnS cnm cg cc cm) L a ccd cl outer) (call (.ref 115) [.ref x]) Q E s

theorem paired_len {R : Value → Value → Prop} : ∀ {vs ys : List Value}, Paired R vs ys → vs.length = ys.length
  | _, _, .nil => rfl
  | _, _, .cons _ q => by rw [List.length_cons, List.length_cons, paired_len q]
theorem paired_right {R : Value → Value → Prop} : ∀ {vs ys : List Value}, Paired R vs ys → ∀ {y}, y ∈ ys → ∃ v ∈ vs, R v y
  | _, _, .nil, _, h => nomatch h
  | _, _, .cons r q, y, h => by
    rcases List.mem_cons.mp h with e | h
    · exact ⟨_, List.mem_cons_self, e ▸ r⟩
    · obtain ⟨v, hv, e⟩ := paired_right q h
      exact ⟨v, List.mem_cons_of_mem _ hv, e⟩
theorem paired_trans {R S U : Value → Value → Prop} (f : ∀ a b c, R a b → S b c → U a c) : ∀ {xs ys zs : List Value}, Paired R xs ys → Paired S ys zs → Paired U xs zs
  | _, _, _, .nil, .nil => .nil
  | _, _, _, .cons r q, .cons r' q' => .cons (f _ _ _ r r') (paired_trans f q q')
def TupIs (k : Str) (u : Value) (news : List (Addr × Obj)) (z : Value) : Prop :=
  ∃ tp lx kt n, z = .ref tp ∧ (tp, { cls := .type "tuple", data := .seq #[.str k kt, .ref lx, .none] }) ∈ news ∧ (lx, W.listOf #[u] n) ∈ news
theorem TupIs.mono {k : Str} {u z : Value} {l l' : List (Addr × Obj)} (q : TupIs k u l z) (h : ∀ p ∈ l, p ∈ l') : TupIs k u l' z := by
  obtain ⟨tp, lx, kt, n, e, a, b⟩ := q
  exact ⟨tp, lx, kt, n, e, h _ a, h _ b⟩
theorem VecIs.uniq {w : World} {k : Str} {u u' y : Value} {h₀ h : Heap} {L : Addr} {news : List (Addr × Obj)} (N : News h₀ L h news) (p : VecIs w k u news y) (q : VecIs w k u' news y) : u = u' := by
  obtain ⟨x, d, l, t1, t2, t3, t4, t5, tk, n, e, a, b, c⟩ := p
  obtain ⟨x', d', l', t1', t2', t3', t4', t5', tk', n', e', a', b', c'⟩ := q
  have ex : x = x' := Value.ref.inj (e.symm.trans e')
  subst ex
  have ed : d = d' := by
    have := (N _ a).1.symm.trans (N _ a').1
    simpa [instObj] using this
  subst ed
  have el : l = l' := by
    have := (N _ b).1.symm.trans (N _ b').1
    simp [vecD, dictOf] at this
    exact this.2.1.2
  subst el
  have := (N _ c).1.symm.trans (N _ c').1
  simp [W.listOf] at this
  exact this.1
theorem tup_end {h₀ h' : Heap} {L : Addr} {t I C D : Nat} {m : Str → Option Value} {s₁ : Shared} {ot oI oC oD : Obj} {S : List (Addr × Obj) → Prop} {rest : Value → List (Addr × Obj) → Prop} {y : Value} {tk : Nat} {tail news1 : List (Addr × Obj)}
    (F : Fr h₀ L h' m) (N : News h₀ L h' ((t, ot) :: (I, oI) :: (C, oC) :: (D, oD) :: tail)) (ht : ∀ p ∈ news1, p ∈ tail) (h1 : I < t) (h2 : C < t) (h3 : D < t) (off : LCg.Off3 I C D news1)
    (hS : S ((t, ot) :: news1)) (r : rest y ((t, ot) :: news1)) : LCg.CompEnd h₀ L m s₁ I oI C oC D oD S rest y { s₁ with heap := h', toks := tk } := by
  refine LCg.CompEnd.intro F N _ (fun p hp => ?_) ?_ hS r
  · simp only [List.mem_cons] at hp ⊢
    rcases hp with hp | hp | hp | hp | hp
    · simp [hp]
    · simp [hp]
    · simp [hp]
    · simp [hp]
    · have := ht p hp; simp [this]
  · exact ⟨⟨Nat.ne_of_gt h1, Nat.ne_of_gt h2, Nat.ne_of_gt h3⟩, off⟩
@[irreducible] def Halt (P : Prop) : Prop := P
theorem Halt.mk {P : Prop} (h : P) : Halt P := by unfold Halt; exact h
theorem Halt.of {P : Prop} (h : Halt P) : P := by unfold Halt at h; exact h
local macro_rules | `(tactic| walk_at "eval ListComp") => `(tactic| (k_here; k_dflt (refine LCg.ListComp_U (F₀ := by k_asm) (by with_unfolding_all rfl) (by decide) (by rfl) (by decide) (by rfl) ?_)))
local macro_rules | `(tactic| walk_at "exec Try") => `(tactic| (k_here; refine Halt.of ?_))
local macro_rules | `(tactic| walk_at "exec Try cons cons nil nil") => `(tactic| (k_here; refine Halt.of ?_))
local macro_rules | `(tactic| walk_at "call ref") => `(tactic| (k_here; (with_reducible show wpAny _ _ (call (Value.ref 115) _) _ _ _); refine Halt.of ?_))
set_option maxHeartbeats 8000000 in
theorem told_go {w : World} {mean : ExcName → Option Value} {mg mb : Str → Option Value} {gd : Option (List Code)} {cn : Str} {cnm : List (Str × NameKind)} {cg cc : Bool} {cm : List (Str × Const)} {a : Addr} {ccd : Value} {cl : List (Str × Addr)} {A₀ : Around} {base h₀ : Heap} {L : Addr} {m : Str → Option Value} {s : Shared} {Q E : Value → Shared → Prop} {led : List (Addr × Obj)} {x : Addr} {k : Str} {P : Value → Value → Prop} {vs : List Value} {bad : Prop}
    (B : Below A₀ base [] h₀) (F : Fr h₀ L s.heap m) (X : (Mine.hd.heap_39 w.params).In h₀) (T : Top Mine.hd.view_39 (looseW Mine.hd.view_39 []) mean mg mb h₀) (N : News h₀ L s.heap led)
    (LV : LvDoes w led x (fun news' ys => Paired (fun v y => ∃ u, P v u ∧ VecIs w k u news' y) vs ys) bad) (hlen : vs.length < 100)
    (hret : ∀ D zs news' h' tk', Fr h₀ L h' m → News h₀ L h' news' → (∀ p ∈ led, p ∈ news') → (D, LCg.lst zs) ∈ news' → Paired (fun v z => ∃ u, P v u ∧ TupIs k u news' z) vs zs → Q (.ref D) { s with heap := h', toks := tk' })
    (hmsg : bad → ∀ tok h' tk', Fr h₀ L h' m → News h₀ L h' led → Q (.str (Str.ofString "malformed factor") tok) { s with heap := h', toks := tk' }) :
    wpAny (model PySem.Challenge.rw_pq1396_01.row.prog w) (ktrTop 302 7 gd cn (fnS cnm cg cc cm) L a ccd cl []) (call (.ref 134) [.ref x]) Q E s := by
  revert X; k_fill; intro X
  refine wpAny_call ?_
  refine' my_def ?k1 ?k2 ?k3 ?k4 ?k5 ?kA ?kF ?kK ?k6 ?k7 ?k8 ?k9 ?kB ?_ ?c2 ?c3 ?c4 ?c5
  case kA => exact rfl
  case kF => exact rfl
  case kK => exact rfl
  case k1 => k_asm
  case k2 => k_asm
  case k3 => k_asm
  case k4 => k_asm
  case k5 => k_asm
  case k6 => k_is
  case k7 => k_is
  case k8 => k_room
  case k9 => exact BindsTo.of_eq rfl
  case c5 => decide
  case kB => exact locs rfl
  case c2 => exact rfl
  case c3 => exact rfl
  case c4 => exact rfl
  intro g' L' h' FG' F' N' B' X' T' lv low
  (try dsimp only); (try k_lift B'); (try k_fold)
  k_steps
  refine Halt.mk ?_
  refine wpAny_Try_except ?_
  k_steps
  refine Halt.mk ?_
  refine LV.go (by k_asm) (by k_asm) (by k_asm) (by k_asm) (by k_asm) ?_ ?_
  · intro D ys news' h2 tk2 F2 N2 sub hD hp
    have hsz : ys.toArray.size ≤ sizeLine := by
      have := paired_len hp
      rw [PySem.sizeLine_eq, List.size_toArray]; omega
    k_dflt (refine LCg.CompSrc.ledger (by rfl) F2 N2 hD hsz ?_)
    intro g''
    refine rest_map (fun l y z => ∃ u, VecIs w k u news' y ∧ TupIs k u l z) (fun l l' y z h q => q.imp fun u q => ⟨q.1, q.2.mono h⟩) ?_ (fun l hl => .inr ⟨_, hl _ hD, rfl, _, rfl⟩) ?_
    · intro y news1 I oI C oC D' m₂ zs hh tk E' hy hsub hC hx F N off ne hS
      obtain ⟨v0, hv0, u, hP, x', d', l', a1, a2, a3, a4, a5, kt, n', rfl, m1, m2, m3⟩ := paired_right hp hy
      replace N := turn_led (news₀ := [(x', instObj 92 d'), (d', vecD w a1 a2 a3 a4 a5 (.str k kt) (.ref l') .none), (l', W.listOf #[u] n')]) N (fun p hp => by
        rcases List.mem_cons.mp hp with e | hp
        · exact e ▸ hsub _ m1
        rcases List.mem_cons.mp hp with e | hp
        · exact e ▸ hsub _ m2
        · exact List.mem_singleton.mp hp ▸ hsub _ m3)
      (simp only [List.cons_append, List.nil_append] at N)
      first | k_fold | (k_unmd; k_fold) | (dsimp only; k_fold)
      k_steps
      exact tup_end (by assumption) (by assumption) (fun p hp => by simp [hp]) (by omega) (by omega) (by omega) off (SrcAt.mono' (fun p hp => by simp [hp]) hS) ⟨fun p hp => by simp [hp], u, ⟨_, _, _, _, _, _, _, _, _, _, rfl, m1, m2, m3⟩, _, _, _, _, rfl, .head _, List.mem_cons_of_mem _ (hsub _ m3)⟩
    · intro zs news1 hsub hz
      k_steps
      refine lv (.ref _) _ (leaveK_ (by assumption) (by assumption) fun Fz Nz => ?_)
      exact hret _ _ _ _ _ Fz Nz (fun p hp => List.mem_cons_of_mem _ (hsub _ (sub p hp))) (.head _) (paired_trans (fun a b c r q => by
        obtain ⟨u, hP, hV⟩ := r
        obtain ⟨u', hV', hT⟩ := q
        exact ⟨u, hP, (hV.uniq N2 hV' ▸ hT).mono fun p hp => List.mem_cons_of_mem _ hp⟩) hp hz)
  · intro hb e h2 tk2 G
    exact told_caught G rfl X T FG' (fun p hp => (N p hp).2) rfl rfl (fun tok h' tk' F N => hmsg hb tok h' tk' F N)
end Mine
end
section
open PySem PySem.W PySem.Calls PySem.Spec PyProof.Rows
namespace Mine
theorem news_dup {h₀ h : Heap} {L : Addr} {pre tail : List (Addr × Obj)} (N : News h₀ L h (pre ++ tail)) : News h₀ L h (pre ++ (pre ++ tail)) := fun p hp => (List.mem_append.mp hp).elim (fun q => N p (List.mem_append_left _ q)) (N p)
section
variable {w : World} {x d I ad cx cd ci lx ld li : Addr} {t1 t2 t3 t4 t5 tk c1 c2 c3 c4 c5 ck fk l1 l2 l3 l4 l5 lk : Nat} {vs tvs : List Value} {n nc nl : Nat} {news : List (Addr × Obj)} {o : Obj} {av : Value}
theorem does_bare (hlen : vs.length < 100) : LvDoes w ((x, instObj 92 d) :: (d, vecD w t1 t2 t3 t4 t5 (.str (Str.ofString "integer") tk) (.ref I) .none) :: (I, W.listOf vs.toArray n) :: news) x
    (fun news' ys => Paired (fun v y => ∃ u, v = u ∧ VecIs w (Str.ofString "integer") u news' y) vs ys) False where
  go B F X T N hret _ := by
    refine lv_bare B F X T (by decide) (by decide) hlen (news_dup (pre := [_, _, _]) N) fun D ys news' h' tk' F' N' sub hD hp => ?_
    exact hret D ys news' h' tk' F' N' sub hD (Paired.mono (fun a b q => ⟨a, rfl, q⟩) hp)
theorem does_other (hlen : vs.length < 100)
    (hO : o.IsDictOf (PySem.strKind PySem.Challenge.rw_pq1396_01.row.prog w) [(Str.ofString "class", .ref cx), (Str.ofString "levels", av)]) (hM : (ad == sysModules) = false) :
    LvDoes w ((x, instObj 92 d) :: (d, vecD w t1 t2 t3 t4 t5 (.str (Str.ofString "integer") tk) (.ref I) (.ref ad)) :: (I, W.listOf vs.toArray n) :: (ad, o) :: (cx, instObj 92 cd) :: (cd, vecD w c1 c2 c3 c4 c5 (.str (Str.ofString "character") ck) (.ref ci) .none) :: (ci, W.listOf #[.str (Str.ofString "other") fk] nc) :: news) x
    (fun news' ys => Paired (fun v y => ∃ u, v = u ∧ VecIs w (Str.ofString "integer") u news' y) vs ys) False where
  go B F X T N hret _ := by
    refine lv_other B F X T (by decide) (by decide) hlen hO hM (news_dup (pre := [_, _, _, _, _, _, _]) N) fun D ys news' h' tk' F' N' sub hD hp => ?_
    exact hret D ys news' h' tk' F' N' sub hD (Paired.mono (fun a b q => ⟨a, rfl, q⟩) hp)
theorem does_fac (hlen : vs.length < 100)
    (hO : o.IsDictOf (PySem.strKind PySem.Challenge.rw_pq1396_01.row.prog w) [(Str.ofString "class", .ref cx), (Str.ofString "levels", .ref lx)]) (hM : (ad == sysModules) = false)
    (hV : ∀ v ∈ vs, v = .none ∨ ∃ i ik, v = .int i ik) (hT : tvs.length < 100) :
    LvDoes w ((x, instObj 92 d) :: (d, vecD w t1 t2 t3 t4 t5 (.str (Str.ofString "integer") tk) (.ref I) (.ref ad)) :: (I, W.listOf vs.toArray n) :: (ad, o) :: (cx, instObj 92 cd) :: (cd, vecD w c1 c2 c3 c4 c5 (.str (Str.ofString "character") ck) (.ref ci) .none) :: (ci, W.listOf #[.str (Str.ofString "factor") fk] nc)
      :: (lx, instObj 92 ld) :: (ld, vecD w l1 l2 l3 l4 l5 (.str (Str.ofString "character") lk) (.ref li) .none) :: (li, W.listOf tvs.toArray nl) :: news) x
    (fun news' ys => Paired (fun v y => ∃ u, CodeOk tvs v u ∧ VecIs w (Str.ofString "character") u news' y) vs ys) (∃ v ∈ vs, ¬ ∃ u, CodeOk tvs v u) where
  go B F X T N hret hbad := by
    by_cases hb : ∃ v ∈ vs, ¬ ∃ u, CodeOk tvs v u
    · exact lv_off B F X T hlen hO hM hV hT hb rfl N (hbad hb)
    · refine lv_text B F X T (by decide) (by decide) hlen hO hM (fun v hv => Classical.byContradiction fun q => hb ⟨v, hv, q⟩) (news_dup (pre := [_, _, _, _, _, _, _, _, _, _]) N) fun D ys news' h' tk' F' N' sub hD hp => ?_
      exact hret D ys news' h' tk' F' N' sub hD hp
theorem does_int (hlen : vs.length < 100)
    (hO : o.IsDictOf (PySem.strKind PySem.Challenge.rw_pq1396_01.row.prog w) [(Str.ofString "class", .ref cx), (Str.ofString "levels", .ref lx)]) (hM : (ad == sysModules) = false) :
    LvDoes w ((x, instObj 92 d) :: (d, vecD w t1 t2 t3 t4 t5 (.str (Str.ofString "integer") tk) (.ref I) (.ref ad)) :: (I, W.listOf vs.toArray n) :: (ad, o) :: (cx, instObj 92 cd) :: (cd, vecD w c1 c2 c3 c4 c5 (.str (Str.ofString "character") ck) (.ref ci) .none) :: (ci, W.listOf #[.str (Str.ofString "factor") fk] nc)
      :: (lx, instObj 92 ld) :: (ld, vecD w l1 l2 l3 l4 l5 (.str (Str.ofString "integer") lk) (.ref li) .none) :: (li, W.listOf tvs.toArray nl) :: news) x
    (fun news' ys => Paired (fun v y => ∃ u, False ∧ VecIs w (Str.ofString "character") u news' y) vs ys) (vs ≠ []) where
  go B F X T N hret hbad := lv_int B F X T hlen hO hM rfl N (fun hv D h' tk' F' N' => hret D [] _ h' tk' F' N' (fun p hp => List.mem_cons_of_mem _ hp) (.head _) (by rw [hv]; exact .nil)) fun hv => hbad hv
theorem does_none (hlen : vs.length < 100)
    (hO : o.IsDictOf (PySem.strKind PySem.Challenge.rw_pq1396_01.row.prog w) [(Str.ofString "class", .ref cx)]) (hM : (ad == sysModules) = false) :
    LvDoes w ((x, instObj 92 d) :: (d, vecD w t1 t2 t3 t4 t5 (.str (Str.ofString "integer") tk) (.ref I) (.ref ad)) :: (I, W.listOf vs.toArray n) :: (ad, o) :: (cx, instObj 92 cd) :: (cd, vecD w c1 c2 c3 c4 c5 (.str (Str.ofString "character") ck) (.ref ci) .none) :: (ci, W.listOf #[.str (Str.ofString "factor") fk] nc) :: news) x
    (fun news' ys => Paired (fun v y => ∃ u, False ∧ VecIs w (Str.ofString "character") u news' y) vs ys) (vs ≠ []) where
  go B F X T N hret hbad := lv_none (lx := x) (ld := x) (li := x) (l1 := 0) (l2 := 0) (l3 := 0) (l4 := 0) (l5 := 0) (lk := 0) (tvs := []) (nl := 0) B F X T hlen hO hM rfl N (fun hv D h' tk' F' N' => hret D [] _ h' tk' F' N' (fun p hp => List.mem_cons_of_mem _ hp) (.head _) (by rw [hv]; exact .nil)) fun hv => hbad hv
end
end Mine
end
section
open PySem PySem.W PySem.Calls PySem.Spec PyProof.Rows
namespace Mine
theorem fmod_lo (a b : Int) (h : 1 ≤ b) : 0 ≤ a.fmod b := by rw [Int.fmod_eq_emod_of_nonneg a (by omega)]; exact Int.emod_nonneg _ (by omega)
theorem fmod_hi (a b : Int) (h : 1 ≤ b) : a.fmod b < b := by rw [Int.fmod_eq_emod_of_nonneg a (by omega)]; exact Int.emod_lt_of_pos _ (by omega)
structure Script (h : Heap) (sc : Addr) (vals : List Value) (zs : List Int) : Prop where
  at_ : h.IsList sc vals.toArray
  are : IntsAre vals zs
  fit : zs.length ≤ 63
theorem Script.keeps {h h' : Heap} {sc : Addr} {vals : List Value} {zs : List Int} (S : Script h sc vals zs) (k : ∀ b o, h.get? b = some o → h'.get? b = some o) : Script h' sc vals zs := ⟨S.at_.at fun o e => k _ o e, S.are, S.fit⟩
theorem ints_get {vs : List Value} {ns : List Int} (I : IntsAre vs ns) : ∀ i : Nat, i < ns.length → ∃ n t, vs[i]? = some (.int n t) := by
  induction I with
  | nil => intro i h; cases h
  | cons n t _ ih =>
    intro i h
    cases i with
    | zero => exact ⟨n, t, rfl⟩
    | succ i => exact ih i (by simpa using h)
section
variable {prog : Program} {w : World} {A : Around} {E : Value → Shared → Prop} {s : Shared} {h₀ g : Heap} {L L' sc : Addr} {m m' : Str → Option Value} {vals : List Value} {zs : List Int} {Q : Value → Shared → Prop}
theorem script_len (S : Script h₀ sc vals zs) (F : Fr g L' s.heap m') (FG : Fr h₀ L g m) (h : Q (.int (zs.length : Int) (s.toks + 1)) { s with toks := s.toks + 1 + 1 }) : wpAny (model prog w) A (call (.builtin "len") [.ref sc]) Q E s := by
  have e2 : vals.toArray.size = zs.length := by rw [List.size_toArray, S.are.length]
  refine len_list ((S.keeps FG.keep).keeps F.keep).at_ (by rw [e2]; have := S.fit; omega) (by rw [e2]; exact h)
theorem script_item {value slice : PySem.Expr} {i : Int} {u : Tok} (S : Script h₀ sc vals zs) (F : Fr g L' s.heap m') (FG : Fr h₀ L g m) (h0 : 0 ≤ i) (hi : i < zs.length) (h : ∀ n t, Q (.int n t) s)
    (hs : subscripted slice false (.ref sc) (.int i u) = operate [.ref sc, .int i u] (getItem (.ref sc) (.int i u)) := by with_unfolding_all rfl) :
    wpAny (model prog w) A (subscriptTail value slice (.ref sc) (.int i u)) Q E s := by
  obtain ⟨n, t, hx⟩ := ints_get S.are i.toNat (by omega)
  have hl := ((S.keeps FG.keep).keeps F.keep).at_
  have hf := S.fit
  exact tail_any hl.typeIs slot_list_getitem.lookup (wpAny_getItem_list hl h0 (by omega) (by simpa using hx) (h n t)) hs
end
local macro_rules | `(tactic| walk_at "call builtin:len") => `(tactic| (k_here; (rename Script _ _ _ _ => scX); (with_reducible show wpAny _ _ (call (Value.builtin "len") [Value.ref _]) _ _ _); k_dflt (refine' script_len scX ?k1 ?k2 ?_; (case k1 => with_reducible assumption); (case k2 => with_reducible assumption))))
local macro_rules | `(tactic| walk_at "subscriptTail") => `(tactic| (k_here; (rename Script _ _ _ _ => scX); (with_reducible show wpAny _ _ (subscriptTail _ _ (Value.ref _) (Value.int _ _)) _ _ _); (with_unfolding_all refine' script_item scX ?k1 ?k2 ?k3 ?k4 ?_ ?k6; (case k1 => with_reducible assumption); (case k2 => with_reducible assumption); (case k3 => omega); (case k4 => omega); (case k6 => with_unfolding_all rfl); k_whole); intro n9 t9))
set_option maxHeartbeats 8000000 in
theorem part_go {w : World} {mean : ExcName → Option Value} {mg mb : Str → Option Value} {dp un : Nat} {gd : Option (List Code)} {cn : Str} {cnm : List (Str × NameKind)} {cg cc : Bool} {cm : List (Str × Const)} {a : Addr} {ccd : Value} {cl : List (Str × Addr)} {outer : List Env} {A₀ : Around} {base h₀ : Heap} {L : Addr} {m : Str → Option Value} {s : Shared} {Q E : Value → Shared → Prop}
    (B : Below A₀ base outer h₀) (F : Fr h₀ L s.heap m) (X : (Mine.hd.heap_39 w.params).In h₀) (T : Top Mine.hd.view_39 (looseW Mine.hd.view_39 []) mean mg mb h₀) (hd : dp + 20 < recursionLimit) (hu : un + 100 < cLine)
    {sc : Addr} {zs : List Int} {vals : List Value} {i ways : Int} {t1 t2 : Nat} {news : List (Addr × Obj)}
    (hL : Script h₀ sc vals zs) (hi : 0 ≤ i) (hi2 : i < 100) (hw : 1 ≤ ways) (hw2 : ways < 100)
    (N : News h₀ L s.heap news)
    (hret : ∀ n u h' tk', 0 ≤ n → n < ways → Fr h₀ L h' m → News h₀ L h' news → Q (.int n u) { s with heap := h', toks := tk' }) :
    wpAny (model PySem.Challenge.rw_pq1396_01.row.prog w) (ktrTop dp un gd cn (fnS cnm cg cc cm) L a ccd cl outer) (call (.ref 129) [.ref sc, .int i t1, .int ways t2]) Q E s := by
  revert X; k_fill; intro X
  k_steps
  all_goals refine hret _ _ _ _ ?_ ?_ (by assumption) (by assumption)
  all_goals first | omega | exact fmod_lo _ _ hw | exact fmod_hi _ _ hw
end Mine
end
section
open PySem PySem.W PySem.Calls PySem.Spec PyProof.Rows
namespace Mine
def CodeV (v : Value) : Prop := v = .none ∨ ∃ i ik, v = .int i ik
theorem turn_end {s : Shared} {h₀ h' : Heap} {L lc l8 : Addr} {o8 : Obj} {m : Str → Option Value} {vs : List Value} {v : Value} {c tk : Nat} {ro : List (Addr × Obj)} (cv : CodeV v) (F : Fr h₀ L h' m) (N : News h₀ L h' ((l8, o8) :: (lc, W.listOf (vs.toArray.push v) (c + 1)) :: ro)) :
    Halt (∃ v h₁ tk' c', CodeV v ∧ { s with heap := h', toks := tk } = { s with heap := h₁, toks := tk' } ∧ Fr h₀ L h₁ m ∧ ∃ news', News h₀ L h₁ news' ∧ ∀ p ∈ ((lc, W.listOf (vs ++ [v]).toArray c') :: ro), p ∈ news') := by
  rw [List.push_toArray] at N
  exact Halt.mk ⟨v, h', tk, c + 1, cv, rfl, F, _, N, fun p hp => List.mem_cons_of_mem _ hp⟩
theorem range_loop {prog : Program} {w : World} {A : Around} {E : Value → Shared → Prop} {s : Shared} {env : Env} {h₀ : Heap} {x : Str} {body : List Stmt} {Q : Flow → Shared → Prop} {m₀ : Str → Option Value} {n : Int} {u : Tok} {lc : Addr} {rest : List (Addr × Obj)}
    (hh : A.handled = none) (h0 : 0 ≤ n) (hn7 : n < 7) (F : Fr h₀ env.locals s.heap m₀) (N : News h₀ env.locals s.heap ((lc, W.listOf #[] 0) :: rest))
    (turn : ∀ (vs : List Value) (c : Nat) (k : Int) (t : Tok) (h : Heap) (tk : Nat) (own : List (Addr × Obj)), 0 ≤ k → k < 7 → vs.length < 6 → (∀ v ∈ vs, CodeV v) → OwnOff own (lc :: rest.map (·.1)) → Fr h₀ env.locals h (fun y => if y = x then some (.int k t) else m₀ y) → News h₀ env.locals h ((lc, W.listOf vs.toArray c) :: (rest ++ own)) →
      wpAny (model prog w) A (execs body env) (fun f s₂ => f = .next ∧ Halt (∃ v h' tk' c', CodeV v ∧ s₂ = { s with heap := h', toks := tk' } ∧ Fr h₀ env.locals h' (fun y => if y = x then some (.int k t) else m₀ y) ∧ ∃ news', News h₀ env.locals h' news' ∧ ∀ p ∈ ((lc, W.listOf (vs ++ [v]).toArray c') :: (rest ++ own)), p ∈ news')) E { s with heap := h, toks := tk })
    (done : ∀ (vs : List Value) (c : Nat) (v : Option Value) (h : Heap) (tk : Nat), vs.length ≤ 6 → (∀ v ∈ vs, CodeV v) → Fr h₀ env.locals h (fun y => if y = x then v else m₀ y) → News h₀ env.locals h ((lc, W.listOf vs.toArray c) :: rest) → Q .next { s with heap := h, toks := tk }) :
    wpAny (model prog w) A (call (.type "range") [.int n u]) (fun xv s₁ => wpAny (model prog w) A (pyIter xv) (fun it s₂ => LoopAtV prog w A h₀ env x body Q E it s₂) E s₁) E s := by
  have eqm : ∀ (u : Str → Option Value) (v : Option Value), (fun y => if y = x then v else kstB (fun z => if ([] : List Str).contains z then u z else m₀ z) [] y) = fun y => if y = x then v else m₀ y := fun u v => by funext y; simp [kstB]
  refine call_range_1 ?_
  refine kst_range (σ := List Value × Nat) (n := n.toNat) (m₀ := m₀) (fun c => (lc, W.listOf c.1.toArray c.2) :: rest) (fun _ => []) (fun c => ∀ v ∈ c.1, CodeV v) [] (fun pre c => pre.length = c.1.length) ([], 0) hh (Heap.get?_push_size _ rfl) (small_one (by decide) (by decide) (by omega) (by omega)) (by rw [rangeSize_one]; split <;> omega)
    (F.push _) (fun p hp => ⟨Heap.get?_push_of_some _ (N p hp).1, (N p hp).2⟩) (fun _ h => nomatch h) (fun _ h => nomatch h) rfl ?_ ?_
  · rintro ⟨vs, c⟩ pre k t uu h tk own hk hlt off hf hp F₁ N₁
    dsimp only at hf hp F₁ N₁ off ⊢
    rw [eqm] at F₁
    refine wpAny_mono (turn vs c k t h tk own (by omega) (by omega) (by omega) hf off F₁ N₁) (fun f s₂ q => ?_) fun _ _ z => z
    obtain ⟨rfl, q⟩ := q
    obtain ⟨v, h', tk', c', hv, rfl, F₂, news', N₂, sub⟩ := q.of
    show InvEndN _ _ _ _ _ _ _
    refine kst_end (vs ++ [v], c') F₂ N₂ (fun p hp => sub p ?_) (fun p hp => sub p ?_) rfl (fun z hz => ?_) (fun _ h => nomatch h) (fun z hz _ _ => by simp [hz]) (by simp [hp])
    · rcases List.mem_cons.mp hp with e | hp
      · exact e ▸ List.mem_cons_self
      · exact List.mem_cons_of_mem _ (List.mem_append_left _ hp)
    · exact List.mem_cons_of_mem _ (List.mem_append_right _ hp)
    · rcases List.mem_append.mp hz with hz | hz
      · exact hf z hz
      · exact List.mem_singleton.mp hz ▸ hv
  · rintro ⟨vs, c⟩ uu h tk hf hp F₁ N₁
    dsimp only at hf hp F₁ N₁
    have e : (fun y => if y = x then uu y else kstB (fun z => if ([] : List Str).contains z then uu z else m₀ z) [] y) = fun y => if y = x then uu x else m₀ y := by
      funext y
      by_cases hy : y = x
      · rw [if_pos hy, if_pos hy, hy]
      · simp [kstB, hy]
    rw [e] at F₁
    rw [rangeKs_length] at hp
    exact done vs c _ h tk (by omega) hf F₁ N₁
end Mine
end
section
open PySem PySem.W PySem.Calls PySem.Spec PyProof.Rows
namespace Mine
def TextV (v : Value) : Prop := ∃ s t, v = .str s t ∧ PyData.strOk s = true
structure TextsOk (tvs : List Value) : Prop where
  allS : ∀ v ∈ tvs, TextV v
  len : tvs.length ≤ 4
theorem slice_txt {prog : Program} {w : World} {A : Around} {E : Value → Shared → Prop} {s : Shared} {h₀ : Heap} {L l : Addr} {m : Str → Option Value} {news : List (Addr × Obj)} {value slice : PySem.Expr} {vs : List Value} {c : Nat} {y : Int} {u : Tok} {Q : Value → Shared → Prop}
    (F : Fr h₀ L s.heap m) (N : News h₀ L s.heap news) (hm : (l, W.listOf vs.toArray c) ∈ news) (h0 : 0 ≤ y) (hs4 : TextsOk vs)
    (h : ∀ D tvs h', TextsOk tvs → Fr h₀ L h' m → News h₀ L h' ((D, W.listOf (List.toArray tvs) 0) :: news) → (∀ p ∈ news, p.1 < D) → Q (.ref D) { s with heap := h' })
    (hs : subscripted slice false (.ref l) (.ref s.heap.objs.size) = operate [.ref s.heap.objs.size, .ref l] (getItem (.ref l) (.ref s.heap.objs.size))) (ht : ∀ r, letTemporaryGo value (.ref l) r = pure ()) :
    wpAny (model prog w) A (subscriptTail value slice (.ref l) (.ref s.heap.objs.size)) Q E { s with heap := s.heap.push { cls := .type "slice", data := .fields #[.none, .int y u, .none] } } := by
  have hl : s.heap.IsList l vs.toArray := ⟨_, (N _ hm).1, rfl, c, rfl⟩
  refine kmk_slice F N hl .none (.int _ _) (fun D h' F' N' l1 => h D (slicePick vs.toArray none (some y) none).toList h' ?_ F' (by rw [Array.toArray_toList]; exact N') l1) hs ht (by rw [sizeLine_eq, List.size_toArray]; have := hs4.len; omega)
  have e : sliceBounds none (some y) none vs.toArray.size = (((0 : Nat) : Int), ((min y.toNat vs.toArray.size : Nat) : Int), 1) := by
    simp only [sliceBounds, Option.getD_none, show (1 : Int) > 0 by decide, if_true, if_neg (show ¬ (y < 0) by omega)]
    congr 1
    congr 1
    omega
  rw [kmk_pick_nat _ e]
  refine ⟨fun v hv => hs4.allS v ?_, ?_⟩
  · exact List.mem_of_mem_drop (List.mem_of_mem_take hv)
  · show ((vs.drop 0).take (min y.toNat vs.toArray.size - 0)).length ≤ 4
    have := hs4.len
    rw [List.length_take, List.length_drop]
    omega
theorem four_txt {a b c d : Str} {t1 t2 t3 t4 : Tok} (h1 : PyData.strOk a = true) (h2 : PyData.strOk b = true) (h3 : PyData.strOk c = true) (h4 : PyData.strOk d = true) : TextsOk [.str a t1, .str b t2, .str c t3, .str d t4] := ⟨fun v hv => by
  simp only [List.mem_cons, List.not_mem_nil, or_false] at hv
  rcases hv with rfl | rfl | rfl | rfl
  · exact ⟨_, _, rfl, h1⟩
  · exact ⟨_, _, rfl, h2⟩
  · exact ⟨_, _, rfl, h3⟩
  · exact ⟨_, _, rfl, h4⟩, Nat.le_refl 4⟩
theorem code_item {prog : Program} {w : World} {A : Around} {E : Value → Shared → Prop} {s : Shared} {h₀ : Heap} {L l : Addr} {news : List (Addr × Obj)} {value slice : PySem.Expr} {vs : List Value} {c : Nat} {y : Int} {u : Tok} {Q : Value → Shared → Prop}
    (N : News h₀ L s.heap news) (hm : (l, W.listOf vs.toArray c) ∈ news) (h0 : 0 ≤ y) (h8 : y < vs.length) (hfit : vs.length < 100) (hv : ∀ v ∈ vs, CodeV v) (h : ∀ v, CodeV v → Q v s)
    (hs : subscripted slice false (.ref l) (.int y u) = operate [.ref l, .int y u] (getItem (.ref l) (.int y u)) := by with_unfolding_all rfl) :
    wpAny (model prog w) A (subscriptTail value slice (.ref l) (.int y u)) Q E s := by
  have hl : s.heap.IsList l vs.toArray := ⟨_, (N _ hm).1, rfl, c, rfl⟩
  have hlt : y.toNat < vs.length := by omega
  exact tail_any hl.typeIs slot_list_getitem.lookup (wpAny_getItem_list hl h0 (by omega) (by simp [hlt]) (h _ (hv _ (List.getElem_mem hlt)))) hs
end Mine
end
section
open PySem PySem.W PySem.Calls PySem.Spec PyProof.Rows
namespace Mine
def scD : Value → Dat
  | .int i _ => .int i
  | .str x _ => .str x
  | _ => .none
inductive ScV : Value → Prop
  | none : ScV .none
  | int (i : Int) (t : Tok) : ScV (.int i t)
  | str (x : Str) (t : Tok) (h : PyData.strOk x = true) : ScV (.str x t)
theorem ScV.dat {v : Value} {news : List (Addr × Obj)} (h : ScV v) : DatIn news v (scD v) := by
  cases h
  · exact .none
  · exact .int _ _
  · exact .str _ _
theorem ScV.ok {v : Value} (n : Nat) (h : ScV v) : kqdOk n (scD v) = true := by
  cases h with
  | none => cases n <;> rfl
  | int => cases n <;> rfl
  | str x t h => cases n <;> exact h
theorem CodeV.sc {v : Value} (h : CodeV v) : ScV v := by
  rcases h with rfl | ⟨i, ik, rfl⟩
  · exact .none
  · exact .int _ _
theorem TextV.sc {v : Value} (h : TextV v) : ScV v := by
  obtain ⟨s, t, rfl, h⟩ := h
  exact .str _ _ h
def rowD (k : Str) (d : Dat) : Dat := .tuple [.str k, .list [d], .none]
theorem rowD_ok {k : Str} {d : Dat} (hk : PyData.strOk k = true) (hd : kqdOk 6 d = true) : kqdOk 8 (rowD k d) = true := by
  simp [rowD, kqdOk, hk, hd]
theorem dat_map {news : List (Addr × Obj)} : ∀ {vs : List Value}, (∀ v ∈ vs, ScV v) → DatAll news vs (vs.map scD)
  | [], _ => .nil
  | v :: vs, h => .cons (h v (.head _)).dat (dat_map fun u hu => h u (.tail _ hu))
theorem dat_map_ok {vs : List Value} (h : ∀ v ∈ vs, ScV v) : ∀ d ∈ vs.map scD, kqdOk 8 d = true := fun d hd => by
  obtain ⟨v, hv, rfl⟩ := List.mem_map.mp hd
  exact (h v hv).ok 8
theorem tup_dat {k : Str} {u z : Value} {news : List (Addr × Obj)} (h : ScV u) (q : TupIs k u news z) : DatIn news z (rowD k (scD u)) := by
  obtain ⟨tp, lx, kt, n, rfl, h1, h2⟩ := q
  exact .tuple h1 (.cons (.str _ _) (.cons (.list h2 (.cons h.dat .nil)) (.cons .none .nil)))
theorem rows_dat {k : Str} {news : List (Addr × Obj)} {P : Value → Value → Prop} {f : Value → Dat} : ∀ {vs zs : List Value}, Paired (fun v z => ∃ u, P v u ∧ TupIs k u news z) vs zs → (∀ v ∈ vs, ∀ u, P v u → ScV u ∧ scD u = f v) → DatAll news zs (vs.map fun v => rowD k (f v))
  | _, _, .nil, _ => .nil
  | _, _, .cons q r, h => by
    obtain ⟨u, hP, hT⟩ := q
    obtain ⟨h1, h2⟩ := h _ (.head _) u hP
    have t := tup_dat h1 hT
    rw [h2] at t
    exact .cons t (rows_dat r fun v hv => h v (.tail _ hv))
theorem rows_ok {k : Str} {f : Value → Dat} {vs : List Value} (hk : PyData.strOk k = true) (h : ∀ v ∈ vs, kqdOk 6 (f v) = true) : ∀ d ∈ vs.map (fun v => rowD k (f v)), kqdOk 8 d = true := fun d hd => by
  obtain ⟨v, hv, rfl⟩ := List.mem_map.mp hd
  exact rowD_ok hk (h v hv)
def textD (tvs : List Value) : Value → Dat
  | .int i _ => scD ((tvs[(i - 1).toNat]?).getD .none)
  | _ => .none
theorem code_text {tvs : List Value} (ht : TextsOk tvs) {v u : Value} (h : CodeOk tvs v u) : ScV u ∧ scD u = textD tvs v := by
  rcases h with ⟨rfl, rfl⟩ | ⟨i, tk, rfl, ia⟩
  · exact ⟨.none, rfl⟩
  · refine ⟨(ht.allS u (List.mem_of_getElem? ia.at_)).sc, ?_⟩
    show scD u = scD ((tvs[(i - 1).toNat]?).getD .none)
    rw [ia.at_]; rfl
theorem text_ok {tvs : List Value} (ht : TextsOk tvs) (n : Nat) (v : Value) : kqdOk n (textD tvs v) = true := by
  cases v
  case int i t =>
    show kqdOk n (scD ((tvs[(i - 1).toNat]?).getD .none)) = true
    cases e : tvs[(i - 1).toNat]? with
    | none => cases n <;> rfl
    | some u => exact (ht.allS u (List.mem_of_getElem? e)).sc.ok n
  all_goals (cases n <;> rfl)
def okC (tvs : List Value) : Value → Bool
  | .none => true
  | .int i _ => decide (1 ≤ i ∧ i ≤ tvs.length)
  | _ => false
theorem okC_iff {tvs : List Value} (ht : TextsOk tvs) {v : Value} (hv : CodeV v) : okC tvs v = true ↔ ∃ u, CodeOk tvs v u := by
  have hl := ht.len
  rcases hv with rfl | ⟨i, ik, rfl⟩
  · exact ⟨fun _ => ⟨.none, .inl ⟨rfl, rfl⟩⟩, fun _ => rfl⟩
  · show decide (1 ≤ i ∧ i ≤ tvs.length) = true ↔ _
    rw [decide_eq_true_iff]
    constructor
    · rintro ⟨h1, h2⟩
      have hlt : (i - 1).toNat < tvs.length := by omega
      exact ⟨tvs[(i - 1).toNat], .inr ⟨i, ik, rfl, h1, h2, by simp [hlt], by omega⟩⟩
    · rintro ⟨u, ⟨h, _⟩ | ⟨j, jk, e, ia⟩⟩
      · cases h
      · cases e; exact ⟨ia.lo, ia.hi⟩
/-- a tuple that a turn made: off the elder ledger -/
def TupX (news₀ : List (Addr × Obj)) (k : Str) (u : Value) (l : List (Addr × Obj)) (z : Value) : Prop :=
  ∃ tp lx kt n, z = .ref tp ∧ (tp, { cls := .type "tuple", data := .seq #[.str k kt, .ref lx, .none] }) ∈ l ∧ (lx, W.listOf #[u] n) ∈ l ∧ (∀ p ∈ news₀, p.1 ≠ tp) ∧ (∀ p ∈ news₀, p.1 ≠ lx)
theorem TupX.mono {news₀ : List (Addr × Obj)} {k : Str} {u z : Value} {l l' : List (Addr × Obj)} (q : TupX news₀ k u l z) (h : ∀ p ∈ l, p ∈ l') : TupX news₀ k u l' z := by
  obtain ⟨tp, lx, kt, n, e, a, b, c⟩ := q
  exact ⟨tp, lx, kt, n, e, h _ a, h _ b, c⟩
theorem off1_all {D : Addr} {l : List (Addr × Obj)} (h : LCg.Off1 D l) : ∀ p ∈ l, p.1 ≠ D := by
  induction l with
  | nil => exact fun _ q => nomatch q
  | cons p l ih =>
    intro q hq
    rcases List.mem_cons.mp hq with e | hq
    · exact e ▸ h.1
    · exact ih h.2 q hq
theorem off1_of {D : Addr} {l : List (Addr × Obj)} (h : ∀ p ∈ l, p.1 ≠ D) : LCg.Off1 D l := by
  induction l with
  | nil => exact trivial
  | cons p l ih => exact ⟨h p (.head _), ih fun q hq => h q (.tail _ hq)⟩
theorem split_led {h₀ h : Heap} {L D : Addr} {o : Obj} {news₀ news1 : List (Addr × Obj)} (N : News h₀ L h ((D, o) :: news1)) (hsub : ∀ p ∈ news₀, p ∈ news1) (o1 : LCg.Off1 D news1) :
    ∃ own, News h₀ L h ((D, o) :: (news₀ ++ own)) ∧ OwnOff own (D :: news₀.map (·.1)) ∧ LCg.Off1 D news₀ ∧ ∀ k u z, TupX news₀ k u news1 z → TupIs k u own z := by
  refine ⟨news1.filter fun p => !(news₀.map (·.1)).contains p.1, fun p hp => ?_, fun p hp b hb => ?_, off1_of fun p hp => off1_all o1 p (hsub p hp), fun k u z q => ?_⟩
  · rcases List.mem_cons.mp hp with e | hp
    · exact N p (e ▸ List.mem_cons_self)
    · rcases List.mem_append.mp hp with hp | hp
      · exact N p (List.mem_cons_of_mem _ (hsub p hp))
      · exact N p (List.mem_cons_of_mem _ (List.mem_filter.mp hp).1)
  · obtain ⟨h1, h2⟩ := List.mem_filter.mp hp
    rcases List.mem_cons.mp hb with rfl | hb
    · exact off1_all o1 p h1
    · intro e
      rw [← e] at hb
      rw [List.contains_iff_mem.mpr hb] at h2
      cases h2
  · obtain ⟨tp, lx, kt, n, e, a, b, c1, c2⟩ := q
    refine ⟨tp, lx, kt, n, e, List.mem_filter.mpr ⟨a, ?_⟩, List.mem_filter.mpr ⟨b, ?_⟩⟩
    · simp only [Bool.not_eq_true', List.contains_eq_mem, decide_eq_false_iff_not, List.mem_map, not_exists, not_and]
      exact fun q hq e => c1 q hq e
    · simp only [Bool.not_eq_true', List.contains_eq_mem, decide_eq_false_iff_not, List.mem_map, not_exists, not_and]
      exact fun q hq e => c2 q hq e
theorem tup2_end {h₀ h' : Heap} {L : Addr} {t l I C D : Nat} {m : Str → Option Value} {s₁ : Shared} {oI oC oD : Obj} {S : List (Addr × Obj) → Prop} {rest : Value → List (Addr × Obj) → Prop} {tk : Nat} {news1 news₀ tail : List (Addr × Obj)} {k : Str} {kt n : Nat} {u : Value}
    (F : Fr h₀ L h' m) (N : News h₀ L h' ((t, { cls := .type "tuple", data := .seq #[.str k kt, .ref l, .none] }) :: (l, W.listOf #[u] n) :: (I, oI) :: (C, oC) :: (D, oD) :: tail)) (ht : ∀ p ∈ news1, p ∈ tail) (h1 : I < l) (h2 : C < l) (h3 : D < l) (h4 : l < t) (h5 : AllLt l news1) (hsub : ∀ p ∈ news₀, p ∈ news1) (off : LCg.Off3 I C D news1)
    (hS : S news1) (hm : ∀ l l', (∀ p ∈ l, p ∈ l') → S l → S l') (r : ∀ news', (∀ p ∈ news1, p ∈ news') → TupX news₀ k u news' (.ref t) → rest (.ref t) news') : LCg.CompEnd h₀ L m s₁ I oI C oC D oD S rest (.ref t) { s₁ with heap := h', toks := tk } := by
  refine LCg.CompEnd.intro F N _ (fun p hp => ?_) ?_ (hm news1 ((t, { cls := .type "tuple", data := .seq #[.str k kt, .ref l, .none] }) :: (l, W.listOf #[u] n) :: news1) (fun p hp => .tail _ (.tail _ hp)) hS) (r _ (fun p hp => .tail _ (.tail _ hp)) ⟨t, l, kt, n, rfl, .head _, .tail _ (.head _), fun p hp => ?_, fun p hp => ?_⟩)
  · simp only [List.mem_cons] at hp ⊢
    rcases hp with hp | hp | hp | hp | hp | hp
    · simp [hp]
    · simp [hp]
    · simp [hp]
    · simp [hp]
    · simp [hp]
    · have := ht p hp; simp [this]
  · exact ⟨⟨Nat.ne_of_gt (by omega), Nat.ne_of_gt (by omega), Nat.ne_of_gt (by omega)⟩, ⟨Nat.ne_of_gt h1, Nat.ne_of_gt h2, Nat.ne_of_gt h3⟩, off⟩
  · exact Nat.ne_of_lt (Nat.lt_trans (allLt_all h5 p (hsub p hp)) h4)
  · exact Nat.ne_of_lt (allLt_all h5 p (hsub p hp))
theorem rest_rows {prog : Program} {w : World} {A : Around} {h₀ : Heap} {L : Addr} {m : Str → Option Value} {env : Env} {elt : PySem.Expr} {x : Str} {scope : Scope} {cl : List (Str × Addr)} {s : Shared} {S : List (Addr × Obj) → Prop} {Fin : List Value → List (Addr × Obj) → Prop} {news₀ : List (Addr × Obj)} {vs : List Value} (k : Str)
    (turn : ∀ v news I oI C oC D m₂ ys h tk (E' : Value → Shared → Prop), v ∈ vs → (∀ p ∈ news₀, p ∈ news) → LCg.NsObj oC m₂ → m₂ x = some v → Fr h₀ L h m → News h₀ L h ((I, oI) :: (C, oC) :: (D, LCg.lst ys) :: news) → LCg.Off3 I C D news → ((@Ne Nat I C) ∧ (@Ne Nat I D) ∧ (@Ne Nat C D)) → S news →
      wpAny (model prog w) A (eval elt (compEnvC scope cl C env)) (LCg.CompEnd h₀ L m { s with heap := h, toks := tk } I oI C oC D (LCg.lst ys) S (fun y news' => (∀ p ∈ news, p ∈ news') ∧ TupX news₀ k v news' y)) E' { s with heap := h, toks := tk })
    (hS : ∀ l, (∀ p ∈ news₀, p ∈ l) → S l)
    (fin : ∀ ys news, (∀ p ∈ news₀, p ∈ news) → Paired (fun v z => TupX news₀ k v news z) vs ys → Fin ys news) :
    LCg.CompRest prog w A h₀ L m env elt x scope cl s S (fun i v => vs.toArray[i]? = some v) Fin vs.toArray.size 0 [] news₀ :=
  rest_map (fun l v z => TupX news₀ k v l z) (fun _ _ _ _ h q => q.mono h) turn hS fin
/-- a comprehension with one test over a list -/
theorem rest_filter {prog : Program} {w : World} {A : Around} {h₀ : Heap} {L : Addr} {m : Str → Option Value} {env : Env} {ct elt : PySem.Expr} {x : Str} {scope : Scope} {cl : List (Str × Addr)} {s : Shared} {S : List (Addr × Obj) → Prop} {Fin : List Value → List (Addr × Obj) → Prop} {news₀ : List (Addr × Obj)} {vs : List Value}
    (ok : Value → Bool) (Y : List (Addr × Obj) → Value → Value → Prop) (mono : ∀ l l' v y, (∀ p ∈ l, p ∈ l') → Y l v y → Y l' v y)
    (turn : ∀ v news I oI C oC D m₂ ys h tk (E' : Value → Shared → Prop), v ∈ vs → (∀ p ∈ news₀, p ∈ news) → LCg.NsObj oC m₂ → m₂ x = some v → Fr h₀ L h m → News h₀ L h ((I, oI) :: (C, oC) :: (D, LCg.lst ys) :: news) → LCg.Off3 I C D news → ((@Ne Nat I C) ∧ (@Ne Nat I D) ∧ (@Ne Nat C D)) → S news →
      wpAny (model prog w) A (isTrue ct (compEnvC scope cl C env) (eval ct (compEnvC scope cl C env))) (fun b s' => if b = true then
        wpAny (model prog w) A (eval elt (compEnvC scope cl C env)) (LCg.CompEnd h₀ L m { s with heap := h, toks := tk } I oI C oC D (LCg.lst ys) S (fun y news' => (∀ p ∈ news, p ∈ news') ∧ ok v = true ∧ Y news' v y)) E' s'
        else LCg.CompEnd h₀ L m { s with heap := h, toks := tk } I oI C oC D (LCg.lst ys) S (fun _ news' => (∀ p ∈ news, p ∈ news') ∧ ok v = false) Value.none s') E' { s with heap := h, toks := tk })
    (hS : ∀ l, (∀ p ∈ news₀, p ∈ l) → S l)
    (fin : ∀ ys news, (∀ p ∈ news₀, p ∈ news) → Paired (Y news) (vs.filter ok) ys → Fin ys news) :
    LCt.CompRestT prog w A h₀ L m env ct elt x scope cl s S (fun i v => vs.toArray[i]? = some v) Fin vs.toArray.size 0 [] news₀ := by
  have key : ∀ (post pre : List Value) (ys : List Value) (news : List (Addr × Obj)), vs = pre ++ post → (∀ p ∈ news₀, p ∈ news) → Paired (Y news) (pre.filter ok) ys →
      LCt.CompRestT prog w A h₀ L m env ct elt x scope cl s S (fun i v => vs.toArray[i]? = some v) Fin post.length pre.length ys news := by
    intro post
    induction post with
    | nil =>
      intro pre ys news e hs hp
      rw [List.append_nil] at e
      subst e
      exact LCt.CompRestT.zero (fin ys news hs hp)
    | cons v post ih =>
      intro pre ys news e hs hp
      refine LCt.CompRestT.succ ?_
      intro v' I oI C oC D m₂ h tk E' hv hC hx F N off ne
      have hv' : v' = v := by
        rw [e] at hv
        simpa using hv.symm
      subst hv'
      have mv : v' ∈ vs := by rw [e]; simp
      refine wpAny_mono (turn v' news I oI C oC D m₂ ys h tk E' mv hs hC hx F N off ne (hS _ hs)) (fun b s₂ hq => ?_) fun _ _ z => z
      cases b with
      | true =>
        rw [if_pos rfl] at hq ⊢
        refine wpAny_mono hq (fun y s₃ hq => ?_) fun _ _ z => z
        obtain ⟨h', tk', nw, es, F', N', off', hS', hsub, hok, hY⟩ := hq
        refine ⟨h', tk', nw, es, F', N', off', hS', ?_⟩
        have hp' : Paired (Y nw) ((pre ++ [v']).filter ok) (ys ++ [y]) := by
          rw [List.filter_append, List.filter_cons_of_pos hok, List.filter_nil]
          exact Paired.snoc (Paired.mono (fun a b q => mono _ _ _ _ hsub q) hp) hY
        have := ih (pre ++ [v']) (ys ++ [y]) nw (by rw [e]; simp) (fun p hp => hsub p (hs p hp)) hp'
        simpa using this
      | false =>
        rw [if_neg (by simp)] at hq ⊢
        obtain ⟨h', tk', nw, es, F', N', off', hS', hsub, hok⟩ := hq
        refine ⟨h', tk', nw, es, F', N', off', hS', ?_⟩
        have hp' : Paired (Y nw) ((pre ++ [v']).filter ok) ys := by
          rw [List.filter_append, List.filter_cons_of_neg (by simp [hok]), List.filter_nil, List.append_nil]
          exact Paired.mono (fun a b q => mono _ _ _ _ hsub q) hp
        have := ih (pre ++ [v']) ys nw (by rw [e]; simp) (fun p hp => hsub p (hs p hp)) hp'
        simpa using this
  have := key vs [] [] news₀ rfl (fun _ h => h) .nil
  simpa using this
theorem skip_end {h₀ h' : Heap} {L : Addr} {I C D : Nat} {m : Str → Option Value} {s₁ : Shared} {oI oC oD : Obj} {S : List (Addr × Obj) → Prop} {rest : Value → List (Addr × Obj) → Prop} {y : Value} {tk : Nat} {news1 tail : List (Addr × Obj)}
    (F : Fr h₀ L h' m) (N : News h₀ L h' ((I, oI) :: (C, oC) :: (D, oD) :: tail)) (ht : ∀ p ∈ news1, p ∈ tail) (off : LCg.Off3 I C D news1) (hS : S news1) (r : rest y news1) : LCg.CompEnd h₀ L m s₁ I oI C oC D oD S rest y { s₁ with heap := h', toks := tk } := by
  refine LCg.CompEnd.intro F N news1 (fun p hp => ?_) off hS r
  simp only [List.mem_cons] at hp ⊢
  rcases hp with hp | hp | hp | hp
  · simp [hp]
  · simp [hp]
  · simp [hp]
  · have := ht p hp; simp [this]
theorem rest_rowsT {prog : Program} {w : World} {A : Around} {h₀ : Heap} {L : Addr} {m : Str → Option Value} {env : Env} {ct elt : PySem.Expr} {x : Str} {scope : Scope} {cl : List (Str × Addr)} {s : Shared} {S : List (Addr × Obj) → Prop} {Fin : List Value → List (Addr × Obj) → Prop} {news₀ : List (Addr × Obj)} {vs : List Value} (tvs : List Value) (k : Str)
    (turn : ∀ v news I oI C oC D m₂ ys h tk (E' : Value → Shared → Prop), v ∈ vs → (∀ p ∈ news₀, p ∈ news) → LCg.NsObj oC m₂ → m₂ x = some v → Fr h₀ L h m → News h₀ L h ((I, oI) :: (C, oC) :: (D, LCg.lst ys) :: news) → LCg.Off3 I C D news → ((@Ne Nat I C) ∧ (@Ne Nat I D) ∧ (@Ne Nat C D)) → S news →
      wpAny (model prog w) A (isTrue ct (compEnvC scope cl C env) (eval ct (compEnvC scope cl C env))) (fun b s' => if b = true then
        wpAny (model prog w) A (eval elt (compEnvC scope cl C env)) (LCg.CompEnd h₀ L m { s with heap := h, toks := tk } I oI C oC D (LCg.lst ys) S (fun y news' => (∀ p ∈ news, p ∈ news') ∧ okC tvs v = true ∧ ∃ u, CodeOk tvs v u ∧ TupX news₀ k u news' y)) E' s'
        else LCg.CompEnd h₀ L m { s with heap := h, toks := tk } I oI C oC D (LCg.lst ys) S (fun _ news' => (∀ p ∈ news, p ∈ news') ∧ okC tvs v = false) Value.none s') E' { s with heap := h, toks := tk })
    (hS : ∀ l, (∀ p ∈ news₀, p ∈ l) → S l)
    (fin : ∀ ys news, (∀ p ∈ news₀, p ∈ news) → Paired (fun v z => ∃ u, CodeOk tvs v u ∧ TupX news₀ k u news z) (vs.filter (okC tvs)) ys → Fin ys news) :
    LCt.CompRestT prog w A h₀ L m env ct elt x scope cl s S (fun i v => vs.toArray[i]? = some v) Fin vs.toArray.size 0 [] news₀ :=
  rest_filter (okC tvs) (fun l v z => ∃ u, CodeOk tvs v u ∧ TupX news₀ k u l z) (fun _ _ _ _ h q => q.imp fun _ q => ⟨q.1, q.2.mono h⟩) turn hS fin
theorem code_cases {tvs : List Value} (ht : TextsOk tvs) {v : Value} (hv : CodeV v) : v = .none ∨ (∃ i ik u, v = .int i ik ∧ ItemAt tvs i u) ∨ (∃ i ik, v = .int i ik ∧ i < 1) ∨ ∃ i ik, v = .int i ik ∧ 1 ≤ i ∧ (tvs.length : Int) < i := by
  have hl := ht.len
  rcases hv with rfl | ⟨i, ik, rfl⟩
  · exact .inl rfl
  · by_cases h1 : 1 ≤ i
    · by_cases h2 : i ≤ tvs.length
      · have hlt : (i - 1).toNat < tvs.length := by omega
        exact .inr (.inl ⟨i, ik, tvs[(i - 1).toNat], rfl, h1, h2, by simp, by omega⟩)
      · exact .inr (.inr (.inr ⟨i, ik, rfl, h1, by omega⟩))
    · exact .inr (.inr (.inl ⟨i, ik, rfl, by omega⟩))
theorem ne_nil {prog : Program} {w : World} {A : Around} {E : Value → Shared → Prop} {s : Shared} {h₀ : Heap} {L a b : Addr} {news : List (Addr × Obj)} {vs : List Value} {ka kb : Nat} {Q : Value → Shared → Prop}
    (N : News h₀ L s.heap news) (ma : (a, W.listOf vs.toArray ka) ∈ news) (mb : (b, W.listOf ([] : List Value).toArray kb) ∈ news) (hvs : ∀ v ∈ vs, CodeV v) (hu : A.units + 64 < cLine)
    (h1 : vs ≠ [] → Q (.bool true) s) (h2 : vs = [] → Q (.bool false) s) : wpAny (model prog w) A (compareOp .NotEq (.ref a) (.ref b)) Q E s := by
  have hs : ∀ v ∈ vs, ScV v := fun v hv => (hvs v hv).sc
  refine kqd_ne N ma rfl rfl (dat_map (news := news) hs) (fun _ h => h) mb rfl rfl (DatAll.nil (news := news)) (fun _ h => h) (dat_map_ok hs) (fun _ h => nomatch h) hu ?_
  by_cases e : vs = []
  · subst e
    simpa using h2 rfl
  · have : vs.map scD ≠ [] := fun q => e (List.map_eq_nil_iff.mp q)
    simpa [this] using h1 e
/-- two lists of the same codes -/
theorem ne_same {prog : Program} {w : World} {A : Around} {E : Value → Shared → Prop} {s : Shared} {h₀ : Heap} {L a b : Addr} {news n₁ n₂ : List (Addr × Obj)} {xs ys : List Value} {ka kb : Nat} {ds : List Dat} {Q : Value → Shared → Prop}
    (N : News h₀ L s.heap news) (ma : (a, W.listOf xs.toArray ka) ∈ news) (mb : (b, W.listOf ys.toArray kb) ∈ news) (da : DatAll n₁ xs ds) (sa : ∀ p ∈ n₁, p ∈ news) (db : DatAll n₂ ys ds) (sb : ∀ p ∈ n₂, p ∈ news) (hk : ∀ d ∈ ds, kqdOk 8 d = true) (hu : A.units + 64 < cLine)
    (h : Q (.bool false) s) : wpAny (model prog w) A (compareOp .NotEq (.ref a) (.ref b)) Q E s := by
  refine kqd_ne N ma rfl rfl da sa mb rfl rfl db sb hk hk hu ?_
  simpa using h
theorem eq_same {prog : Program} {w : World} {A : Around} {E : Value → Shared → Prop} {s : Shared} {h₀ : Heap} {L a b : Addr} {news n₁ n₂ : List (Addr × Obj)} {xs ys : List Value} {ka kb : Nat} {ds : List Dat} {Q : Value → Shared → Prop}
    (N : News h₀ L s.heap news) (ma : (a, W.listOf xs.toArray ka) ∈ news) (mb : (b, W.listOf ys.toArray kb) ∈ news) (da : DatAll n₁ xs ds) (sa : ∀ p ∈ n₁, p ∈ news) (db : DatAll n₂ ys ds) (sb : ∀ p ∈ n₂, p ∈ news) (hk : ∀ d ∈ ds, kqdOk 8 d = true) (hu : A.units + 64 < cLine)
    (h : Q (.bool true) s) : wpAny (model prog w) A (compareOp .Eq (.ref a) (.ref b)) Q E s := by
  refine kqd_eq N ma rfl rfl da sa mb rfl rfl db sb hk hk hu ?_
  simpa using h
end Mine
end
section
open PySem PySem.W PySem.Calls PySem.Spec PyProof.Rows
namespace Mine
/-- the comparison of what was told with what is due says False -/
def NeOk (w : World) (rv dv : Value) (news : List (Addr × Obj)) : Prop :=
  ∀ {A : Around} {E : Value → Shared → Prop} {s : Shared} {h₀ : Heap} {L : Addr} {Q : Value → Shared → Prop}, News h₀ L s.heap news → A.units + 64 < cLine → Q (.bool false) s → wpAny (model PySem.Challenge.rw_pq1396_01.row.prog w) A (compareOp .NotEq rv dv) Q E s
structure TailOk (w : World) (led : List (Addr × Obj)) (x : Addr) (dv : Value) : Prop where
  go : ∀ {mean : ExcName → Option Value} {mg mb : Str → Option Value} {gd : Option (List Code)} {cn : Str} {cnm : List (Str × NameKind)} {cg cc : Bool} {cm : List (Str × Const)} {a : Addr} {ccd : Value} {cl : List (Str × Addr)} {A₀ : Around} {base h₀ : Heap} {L : Addr} {m : Str → Option Value} {s : Shared} {Q E : Value → Shared → Prop},
    Below A₀ base [] h₀ → Fr h₀ L s.heap m → (Mine.hd.heap_39 w.params).In h₀ → Top Mine.hd.view_39 (looseW Mine.hd.view_39 []) mean mg mb h₀ → News h₀ L s.heap led →
    (∀ rv news' h' tk', Fr h₀ L h' m → News h₀ L h' (led ++ news') → NeOk w rv dv (led ++ news') → Q rv { s with heap := h', toks := tk' }) →
    wpAny (model PySem.Challenge.rw_pq1396_01.row.prog w) (ktrTop 302 7 gd cn (fnS cnm cg cc cm) L a ccd cl []) (call (.ref 134) [.ref x]) Q E s
theorem sub_cons {p : Addr × Obj} {l l' : List (Addr × Obj)} (h : p ∈ l') (r : ∀ q ∈ l, q ∈ l') : ∀ q ∈ p :: l, q ∈ l' := fun q hq => by
  rcases List.mem_cons.mp hq with e | hq
  · exact e ▸ h
  · exact r q hq
theorem sub_app {l k l' : List (Addr × Obj)} (h : ∀ q ∈ l, q ∈ l') (r : ∀ q ∈ k, q ∈ l') : ∀ q ∈ l ++ k, q ∈ l' := fun q hq => (List.mem_append.mp hq).elim (h q) (r q)
theorem app_right {l k : List (Addr × Obj)} : ∀ q ∈ k, q ∈ l ++ k := fun _ h => List.mem_append_right _ h
theorem tail_list {w : World} {led led' : List (Addr × Obj)} {x D' : Addr} {k : Str} {P : Value → Value → Prop} {vs ys' : List Value} {kD : Nat} {ds : List Dat} {bad : Prop}
    (LV : LvDoes w led' x (fun news' ys => Paired (fun v y => ∃ u, P v u ∧ VecIs w k u news' y) vs ys) bad) (sub : ∀ p ∈ led', p ∈ led) (sup : ∀ p ∈ led, p ∈ led') (hlen : vs.length < 100) (hb : ¬ bad)
    (mD : (D', W.listOf ys'.toArray kD) ∈ led) (hd : DatAll led ys' ds) (hok : ∀ d ∈ ds, kqdOk 8 d = true) (hz : ∀ news zs, Paired (fun v z => ∃ u, P v u ∧ TupIs k u news z) vs zs → DatAll news zs ds) : TailOk w led x (.ref D') where
  go B F X T N hret := by
    refine told_go B F X T (cb_drop N sub) LV hlen (fun D zs news' h' tk' F' N' s' mD' hp => ?_) (fun b => absurd b hb)
    have sl : ∀ p ∈ led, p ∈ news' := fun p hp => s' p (sup p hp)
    refine hret (.ref D) news' h' tk' F' (cb_drop N' (sub_app sl fun _ h => h)) fun {A E s h₀ L Q} N₂ hu hq => ?_
    exact ne_same (xs := zs) (ys := ys') N₂ (List.mem_append_right _ mD') (List.mem_append_left _ mD) (hz news' zs hp) app_right hd ktn_subA hok hu hq
theorem tail_msg {w : World} {led led' : List (Addr × Obj)} {x : Addr} {k : Str} {P : Value → Value → Prop} {vs : List Value} {bad : Prop} {tk : Tok}
    (LV : LvDoes w led' x (fun news' ys => Paired (fun v y => ∃ u, P v u ∧ VecIs w k u news' y) vs ys) bad) (sub : ∀ p ∈ led', p ∈ led) (sup : ∀ p ∈ led, p ∈ led') (hlen : vs.length < 100)
    (hz : ∀ news zs, Paired (fun v z => ∃ u, P v u ∧ TupIs k u news z) vs zs → False) : TailOk w led x (.str (Str.ofString "malformed factor") tk) where
  go B F X T N hret := by
    refine told_go B F X T (cb_drop N sub) LV hlen (fun D zs news' h' tk' F' N' s' mD' hp => (hz _ _ hp).elim) (fun b tok h' tk' F' N' => ?_)
    refine hret _ [] h' tk' F' (by rw [List.append_nil]; exact cb_drop N' sup) fun {A E s h₀ L Q} N₂ hu hq => ?_
    refine PySem.P.ne_str ?_
    simpa using hq
/-- what the ways leave behind -/
def TailJ (w : World) (h₀ : Heap) (L : Addr) (m : Str → Option Value) (s : Shared) (x d I lc DB : Addr) (t1 t2 t3 t4 t5 tk n c : Nat) (vs ys : List Value) (s' : Shared) : Prop :=
  ∃ dv av h' tk' own, s' = { s with heap := h', toks := tk' } ∧ Fr h₀ L h' (fun y => if y = Str.ofString "due" then some dv else m y) ∧
    News h₀ L h' ((x, instObj 92 d) :: (d, vecD w t1 t2 t3 t4 t5 (.str (Str.ofString "integer") tk) (.ref I) av) :: (I, W.listOf vs.toArray n) :: (lc, W.listOf vs.toArray c) :: (DB, LCg.lst ys) :: own) ∧
    DatAll own ys (vs.map fun v => rowD (Str.ofString "integer") (scD v)) ∧
    TailOk w ((x, instObj 92 d) :: (d, vecD w t1 t2 t3 t4 t5 (.str (Str.ofString "integer") tk) (.ref I) av) :: (I, W.listOf vs.toArray n) :: (lc, W.listOf vs.toArray c) :: (DB, LCg.lst ys) :: own) x dv
theorem tailJ_mk {w : World} {h₀ h' : Heap} {L : Addr} {m : Str → Option Value} {s : Shared} {x d I lc DB : Addr} {t1 t2 t3 t4 t5 tk n c tk' : Nat} {vs ys : List Value} {dv av : Value} {led : List (Addr × Obj)}
    (F : Fr h₀ L h' (fun y => if y = Str.ofString "due" then some dv else m y)) (N : News h₀ L h' led)
    (sub : ∀ p ∈ (x, instObj 92 d) :: (d, vecD w t1 t2 t3 t4 t5 (.str (Str.ofString "integer") tk) (.ref I) av) :: (I, W.listOf vs.toArray n) :: (lc, W.listOf vs.toArray c) :: (DB, LCg.lst ys) :: led, p ∈ led)
    (hd : DatAll led ys (vs.map fun v => rowD (Str.ofString "integer") (scD v)))
    (T : TailOk w ((x, instObj 92 d) :: (d, vecD w t1 t2 t3 t4 t5 (.str (Str.ofString "integer") tk) (.ref I) av) :: (I, W.listOf vs.toArray n) :: (lc, W.listOf vs.toArray c) :: (DB, LCg.lst ys) :: led) x dv) :
    Halt (TailJ w h₀ L m s x d I lc DB t1 t2 t3 t4 t5 tk n c vs ys { s with heap := h', toks := tk' }) :=
  Halt.mk ⟨dv, av, h', tk', led, rfl, F, cb_drop N sub, hd, T⟩
theorem seq_tail {M : Model} {w : World} {A : Around} {env : Env} {st : Stmt} {rest : List Stmt} {qk : Flow → Shared → Prop} {ek : Value → Shared → Prop} {h₀ : Heap} {L : Addr} {m : Str → Option Value} {s : Shared} {x d I lc DB : Addr} {t1 t2 t3 t4 t5 tk n c : Nat} {vs ys : List Value} {led : List (Addr × Obj)} {av : Value}
    (F : Fr h₀ L s.heap m) (N : News h₀ L s.heap led) (mx : (x, instObj 92 d) ∈ led) (md : (d, vecD w t1 t2 t3 t4 t5 (.str (Str.ofString "integer") tk) (.ref I) av) ∈ led) (mI : (I, W.listOf vs.toArray n) ∈ led) (mlc : (lc, W.listOf vs.toArray c) ∈ led) (mDB : (DB, LCg.lst ys) ∈ led)
    (h1 : wpAny M A (exec st env) (fun f s' => f = .next ∧ Halt (TailJ w h₀ L m s x d I lc DB t1 t2 t3 t4 t5 tk n c vs ys s')) ek s)
    (h2 : ∀ s', TailJ w h₀ L m s x d I lc DB t1 t2 t3 t4 t5 tk n c vs ys s' → wpAny M A (execs rest env) qk ek s') : wpAny M A (execs (st :: rest) env) qk ek s := by
  rw [execs_cons]
  refine wpAny_bind (wpAny_mono h1 (fun f s' h => ?_) fun _ _ z => z)
  obtain ⟨rfl, h⟩ := h
  exact h2 s' h.of
end Mine
namespace Mine
theorem okI : PyData.strOk (Str.ofString "integer") = true := by with_unfolding_all rfl
theorem okCh : PyData.strOk (Str.ofString "character") = true := by with_unfolding_all rfl
theorem no_rows {k : Str} {vs : List Value} (h : vs ≠ []) : ∀ news zs, Paired (fun (_ : Value) z => ∃ u, False ∧ TupIs k u news z) vs zs → False := fun news zs hp => by
  cases hp with
  | nil => exact h rfl
  | cons r _ => obtain ⟨_, h, _⟩ := r; exact h
theorem nil_rows {R : List (Addr × Obj) → Value → Value → Prop} {vs : List Value} (h : vs = []) : ∀ news zs, Paired (R news) vs zs → DatAll news zs [] := fun news zs hp => by
  subst h
  cases hp
  exact .nil
theorem bare_rows {k : Str} {vs : List Value} (hv : ∀ v ∈ vs, CodeV v) : ∀ news zs, Paired (fun v z => ∃ u, v = u ∧ TupIs k u news z) vs zs → DatAll news zs (vs.map fun v => rowD k (scD v)) := fun _ _ hp =>
  rows_dat hp fun v hm u e => ⟨e ▸ (hv v hm).sc, by rw [e]⟩
theorem bare_ok {k : Str} {vs : List Value} (hk : PyData.strOk k = true) (hv : ∀ v ∈ vs, CodeV v) : ∀ d ∈ vs.map (fun v => rowD k (scD v)), kqdOk 8 d = true := rows_ok hk fun v hm => (hv v hm).sc.ok 6
end Mine
namespace Mine
theorem rest_rowsX {prog : Program} {w : World} {A : Around} {h₀ : Heap} {L : Addr} {m : Str → Option Value} {env : Env} {ct elt : PySem.Expr} {x : Str} {scope : Scope} {cl : List (Str × Addr)} {s : Shared} {S : List (Addr × Obj) → Prop} {Fin : List Value → List (Addr × Obj) → Prop} {news₀ : List (Addr × Obj)} {vs tvs : List Value} (ht : TextsOk tvs) (hvs : ∀ v ∈ vs, CodeV v) (k : Str)
    (turn : ∀ v news I oI C oC D m₂ ys h tk (E' : Value → Shared → Prop), (v = .none ∨ (∃ i ik u, v = .int i ik ∧ ItemAt tvs i u) ∨ (∃ i ik, v = .int i ik ∧ i < 1) ∨ ∃ i ik, v = .int i ik ∧ 1 ≤ i ∧ (tvs.length : Int) < i) → (∀ p ∈ news₀, p ∈ news) → LCg.NsObj oC m₂ → m₂ x = some v → Fr h₀ L h m → News h₀ L h ((I, oI) :: (C, oC) :: (D, LCg.lst ys) :: news) → LCg.Off3 I C D news → ((@Ne Nat I C) ∧ (@Ne Nat I D) ∧ (@Ne Nat C D)) → S news →
      wpAny (model prog w) A (isTrue ct (compEnvC scope cl C env) (eval ct (compEnvC scope cl C env))) (fun b s' => if b = true then
        wpAny (model prog w) A (eval elt (compEnvC scope cl C env)) (LCg.CompEnd h₀ L m { s with heap := h, toks := tk } I oI C oC D (LCg.lst ys) S (fun y news' => (∀ p ∈ news, p ∈ news') ∧ okC tvs v = true ∧ ∃ u, CodeOk tvs v u ∧ TupX news₀ k u news' y)) E' s'
        else LCg.CompEnd h₀ L m { s with heap := h, toks := tk } I oI C oC D (LCg.lst ys) S (fun _ news' => (∀ p ∈ news, p ∈ news') ∧ okC tvs v = false) Value.none s') E' { s with heap := h, toks := tk })
    (hS : ∀ l, (∀ p ∈ news₀, p ∈ l) → S l)
    (fin : ∀ ys news, (∀ p ∈ news₀, p ∈ news) → Paired (fun v z => ∃ u, CodeOk tvs v u ∧ TupX news₀ k u news z) (vs.filter (okC tvs)) ys → Fin ys news) :
    LCt.CompRestT prog w A h₀ L m env ct elt x scope cl s S (fun i v => vs.toArray[i]? = some v) Fin vs.toArray.size 0 [] news₀ :=
  rest_rowsT tvs k (fun v news I oI C oC D m₂ ys h tk E' hv => turn v news I oI C oC D m₂ ys h tk E' (code_cases ht (hvs v hv))) hS fin
theorem paired_left {R : Value → Value → Prop} : ∀ {vs ys : List Value}, Paired R vs ys → ∀ {v}, v ∈ vs → ∃ y, R v y
  | _, _, .nil, _, h => nomatch h
  | _, _, .cons r q, v, h => by
    rcases List.mem_cons.mp h with e | h
    · exact ⟨_, e ▸ r⟩
    · exact paired_left q h
theorem bad_rows {k : Str} {vs tvs : List Value} (ht : TextsOk tvs) (hvs : ∀ v ∈ vs, CodeV v) (h : ¬ ∀ v ∈ vs, okC tvs v = true) : ∀ news zs, Paired (fun v z => ∃ u, CodeOk tvs v u ∧ TupIs k u news z) vs zs → False := fun _ _ hp =>
  h fun v hv => by
    obtain ⟨_, u, hu, _⟩ := paired_left hp hv
    exact (okC_iff ht (hvs v hv)).mpr ⟨u, hu⟩
theorem good_codes {vs tvs : List Value} (ht : TextsOk tvs) (hvs : ∀ v ∈ vs, CodeV v) (h : ∀ v ∈ vs, okC tvs v = true) : ¬ ∃ v ∈ vs, ¬ ∃ u, CodeOk tvs v u := fun ⟨v, hv, q⟩ => q ((okC_iff ht (hvs v hv)).mp (h v hv))
theorem due_rows {k : Str} {tvs vs ys : List Value} {news own : List (Addr × Obj)} {led : List (Addr × Obj)} (ht : TextsOk tvs) (hp : Paired (fun v z => ∃ u, CodeOk tvs v u ∧ TupX led k u news z) vs ys) (h : ∀ k u z, TupX led k u news z → TupIs k u own z) : DatAll own ys (vs.map fun v => rowD k (textD tvs v)) :=
  rows_dat (Paired.mono (fun _ _ q => q.imp fun _ q => ⟨q.1, h _ _ _ q.2⟩) hp) fun _ _ _ q => code_text ht q
theorem text_rows {k : Str} {vs tvs : List Value} (ht : TextsOk tvs) : ∀ news zs, Paired (fun v z => ∃ u, CodeOk tvs v u ∧ TupIs k u news z) vs zs → DatAll news zs (vs.map fun v => rowD k (textD tvs v)) := fun _ _ hp => rows_dat hp fun _ _ _ q => code_text ht q
theorem okC_int {tvs : List Value} {i : Int} {ik : Tok} {u : Value} (h : ItemAt tvs i u) : okC tvs (.int i ik) = true := by
  show decide _ = true
  exact decide_eq_true ⟨h.lo, h.hi⟩
theorem okC_low {tvs : List Value} {i : Int} {ik : Tok} (h : i < 1) : okC tvs (.int i ik) = false := by
  show decide _ = false
  exact decide_eq_false (by omega)
theorem okC_high {tvs : List Value} {i : Int} {ik : Tok} (h : (tvs.length : Int) < i) : okC tvs (.int i ik) = false := by
  show decide _ = false
  exact decide_eq_false (by omega)
theorem all_or {tvs : List Value} (_ : TextsOk tvs) (vs : List Value) : (∀ v ∈ vs, okC tvs v = true) ∨ ¬ ∀ v ∈ vs, okC tvs v = true := Classical.em _
theorem filter_short {vs : List Value} {p : Value → Bool} (h : ¬ ∀ v ∈ vs, p v = true) : (vs.filter p).length < vs.length := by
  rw [List.length_filter_lt_length_iff_exists]
  exact Classical.byContradiction fun q => h fun v hv => Classical.byContradiction fun z => q ⟨v, hv, z⟩
end Mine
namespace Mine
theorem allLt_right {c : Nat} {own l : List (Addr × Obj)} (h : AllLt c (own ++ l)) : AllLt c l := by
  induction own with
  | nil => exact h
  | cons p own ih => exact ih h.2
end Mine
namespace Mine
theorem fr_twice {h₀ h : Heap} {L : Addr} {m : Str → Option Value} {k : Str} {a b : Option Value} (F : Fr h₀ L h (fun y => if y = k then a else if y = k then b else m y)) : Fr h₀ L h (fun y => if y = k then a else m y) := by
  have e : (fun y => if y = k then a else if y = k then b else m y) = fun y => if y = k then a else m y := by
    funext y
    by_cases q : y = k
    · rw [if_pos q, if_pos q]
    · rw [if_neg q, if_neg q, if_neg q]
  exact e ▸ F
end Mine
end
section
open PySem PySem.W PySem.Calls PySem.Spec PyProof.Rows
open Mine
theorem Mine.four_ways {n : Int} (h : n < 4) (g : 0 ≤ n) : n = 0 ∨ n = 1 ∨ n = 2 ∨ n = 3 := by omega
theorem Mine.mkScript {h : Heap} {sc : Addr} {vals : List Value} {zs : List Int} (a : h.IsList sc vals.toArray) (b : IntsAre vals zs) (c : ¬ ((63 : Nat) : Int) < (zs.length : Int)) : Script h sc vals zs := ⟨a, b, by omega⟩
local macro_rules | `(tactic| walk_at "call ref") => `(tactic| (k_here; (with_reducible show wpAny _ _ (call (Value.ref 129) _) _ _ _); (rename Script _ _ _ _ => scX); k_dflt (refine' part_go ?k1 ?k2 ?k3 ?k4 ?k5 ?k6 scX ?k7 ?k8 ?k9 ?k10 ?k11 ?_; (case k1 => k_asm); (case k2 => k_asm); (case k3 => k_asm); (case k4 => k_asm); (case k5 => decide); (case k6 => decide); (case k7 => omega); (case k8 => omega); (case k9 => omega); (case k10 => omega); (case k11 => k_asm)); intro n9 u9 h9 tk9 lo9 hi9 F9 N9))
local macro_rules | `(tactic| walk_at "eval Call") => `(tactic| (k_here; (with_reducible show wpAny _ _ (eval (PySem.Expr.Call (PySem.Expr.Name _ _) _ [] _) _) _ _ _); k_dflt (refine Call_ ?_)))
local macro_rules | `(tactic| walk_at "subscriptTail Name Slice ref ref") => `(tactic| (k_here; (with_reducible show wpAny _ _ (subscriptTail _ (PySem.Expr.Slice _ _ none _) (Value.ref _) (Value.ref _)) _ _ _); k_dflt (refine' slice_txt ?F ?N ?l ?p (four_txt ?q1 ?q2 ?q3 ?q4) ?_ ?s ?t; (case F => k_asm); (case N => k_asm); (case l => k_mem); (case p => omega); (case q1 => with_unfolding_all rfl); (case q2 => with_unfolding_all rfl); (case q3 => with_unfolding_all rfl); (case q4 => with_unfolding_all rfl); (case s => with_unfolding_all rfl); (case t => kmk_pure)); intro D' tv' h' tx' F' N' l1; (try k_lt l1); (try k_sweep)))
local macro_rules | `(tactic| walk_at "exec For Name Call cons nil") => `(tactic| (k_here; (rename Fr _ _ _ _ => lF'); (with_unfolding_all refine' For_invVF lF' ?k1 ?k2 ?_; (case k1 => exact rfl); (case k2 => exact rfl); k_whole)))
local macro_rules | `(tactic| walk_at "call type:range") => `(tactic| (k_here; refine Halt.of ?_))
theorem Mine.eight_codes {a b c d e f g : Int} {t1 t2 t3 t4 t5 t6 t7 : Tok} : ∀ v ∈ [Value.int a t1, .int b t2, .int c t3, .none, .int d t4, .int e t5, .int f t6, .int g t7], CodeV v := fun v hv => by
  simp only [List.mem_cons, List.not_mem_nil, or_false] at hv
  rcases hv with rfl | rfl | rfl | rfl | rfl | rfl | rfl | rfl
  case inr.inr.inr.inl => exact .inl rfl
  all_goals exact .inr ⟨_, _, rfl⟩
local macro_rules | `(tactic| walk_at "callWith") => `(tactic| (k_here; (with_reducible show wpAny _ _ (callWith _ (Value.builtin _) [_] _ _) _ _ _); (with_reducible refine' callWith_method1 ?_ ?he ?hp; (case he => with_unfolding_all rfl); (case hp => with_unfolding_all rfl))))
local macro_rules | `(tactic| walk_at "subscriptTail") => `(tactic| (k_here; (with_reducible show wpAny _ _ (subscriptTail _ _ (Value.ref _) (Value.int _ _)) _ _ _); k_dflt (refine' code_item ?N ?m ?h0 ?h8 ?fit Mine.eight_codes ?_ ?s; (case N => k_asm); (case m => k_mem); (case h0 => omega); (case h8 => (simp only [List.length_cons, List.length_nil]; omega)); (case fit => exact (Nat.le_of_ble_eq_true rfl : 8 + 1 ≤ 100)); (case s => with_unfolding_all rfl)); intro v9 cv9))
local macro_rules | `(tactic| walk_at "exec Assign cons ListComp") => `(tactic| (k_here; lcg_look; k_dflt (refine LCg.Assign_ListComp_U (F₀ := by k_asm) (by rfl) (by with_unfolding_all rfl) (by with_unfolding_all rfl) (by decide) (by rfl) (by decide) (by rfl) (by rfl) (by rfl) ?_)))
local macro_rules | `(tactic| walk_at "exec Assign cons ListComp") => `(tactic| (k_here; lct_look; k_dflt (refine LCt.Assign_ListComp_T (F₀ := by k_asm) (by rfl) (by with_unfolding_all rfl) (by with_unfolding_all rfl) (by decide) (by rfl) (by decide) (by rfl) (by rfl) (by rfl) ?_)))
local macro_rules | `(tactic| walk_at "CompSrc") => `(tactic| (refine Halt.of ?_))
local macro_rules | `(tactic| walk_at "CompSrcT") => `(tactic| (refine Halt.of ?_))
local macro_rules | `(tactic| walk_at "call ref") => `(tactic| (k_here; (with_reducible show wpAny _ _ (call (Value.ref 92) [_, _]) _ _ _); k_dflt (refine' mkVec ?k1 ?k2 ?k3 ?k4 ?k5 ?k6 ?k7 ?_; (case k1 => k_asm); (case k2 => k_asm); (case k3 => k_asm); (case k4 => k_asm); (case k5 => decide); (case k6 => decide); (case k7 => k_asm)); intro x9 d9 t91 t92 t93 t94 t95 h9 tk9 F9 N9 low9 lt9; (try k_lt low9); k_lt2 lt9; (try k_sweep)))
local macro_rules | `(tactic| walk_at "call ref") => `(tactic| (k_here; (with_reducible show wpAny _ _ (call (Value.ref 134) _) _ _ _); refine Halt.of ?_))
local macro_rules | `(tactic| walk_at "compareOp NotEq ref ref") => `(tactic| (k_here; refine Halt.of ?_))
local macro_rules | `(tactic| walk_at "compareOp Eq ref ref") => `(tactic| (k_here; refine Halt.of ?_))
local macro_rules | `(tactic| walk_at "call builtin:len") => `(tactic| (k_here; (with_reducible show wpAny _ _ (call (Value.builtin "len") [Value.ref _]) _ _ _); k_dflt (refine' kst_len ?k1 ?k2 rfl ?k4 ?_; (case k1 => k_asm); (case k2 => k_mem); (case k4 => omega))))
local macro_rules | `(tactic| walk_at "subscriptTail") => `(tactic| (k_here; (rename ItemAt _ _ _ => iaX); (with_reducible show wpAny _ _ (subscriptTail _ _ (Value.ref _) (Value.int _ _)) _ _ _); (with_unfolding_all refine' item_litK ?k1 ?k2 ?k3 ?k4 ?_ ?k6; (case k1 => exact News.isList (by k_asm) (by k_mem)); (case k2 => ((have := ItemAt.lo iaX); omega)); (case k3 => ((have := ItemAt.hi iaX); (have := ItemAt.fit iaX); omega)); (case k4 => exact ItemAt.at_ iaX); (case k6 => with_unfolding_all rfl); k_whole)))
set_option maxHeartbeats 40000000 in
theorem PySem.Challenge.cw_pq1396_01_holds : PySem.Challenge.rw_pq1396_01.Holds := by
  refine Mine.hd ?_
  w_strict (k_go0; (all_goals try k_fold); (have scX := Mine.mkScript (by assumption) (by assumption) (by assumption)); k_steps)
  refine Halt.mk ?_
  k_dflt (refine' range_loop ?hh ?h0 ?h7 ?F ?N ?turn ?done)
  case hh => rfl
  case h0 => assumption
  case h7 => assumption
  case F => k_asm
  case N => k_asm
  case turn =>
    intro vs c k t h tk own hk0 hk7 hvl hvs hoff F N
    replace F : Fr _ (Heap.objs _).size h _ := F
    replace N : News _ (Heap.objs _).size h _ := N
    simp only [List.cons_append, List.nil_append] at N
    first | k_fold | (k_unmd; k_fold) | (dsimp only; k_fold)
    simp only [List.map_cons, List.map_nil] at hoff
    w_strict k_steps
    exact turn_end (by assumption) (by assumption) (by assumption)
  case done =>
    intro vs c v h tk hvl hvs F N
    replace F : Fr _ (Heap.objs _).size h _ := F
    replace N : News _ (Heap.objs _).size h _ := N
    dsimp only
    w_strict k_steps
    refine Halt.mk ?_
    have hsz : vs.toArray.size ≤ sizeLine := by rw [PySem.sizeLine_eq, List.size_toArray]; omega
    k_dflt (refine LCg.CompSrc.ledger (by rfl) (by k_asm) (by k_asm) (by k_mem) hsz ?_)
    intro g'
    refine rest_rows (Str.ofString "integer") ?_ (fun l hl => .inr ⟨_, hl _ (by k_mem), rfl, _, rfl⟩) ?_
    · intro v9 news1 I oI C oC D m₂ ys h9 tk9 E' hv hsub hC hx F N off ne hS
      first | k_fold | (k_unmd; k_fold) | (dsimp only; k_fold)
      w_strict k_steps
      exact tup2_end (by assumption) (by assumption) (fun _ h => h) (by omega) (by omega) (by omega) (by omega) (by tbn_find) hsub off hS (fun _ _ h q => SrcAt.mono' h q) (fun _ a b => ⟨a, b⟩)
    · intro ys news1 hsub hp
      unfold LCg.FinA
      intro D h9 tk9 F N o1
      obtain ⟨own, N9, off9, o19, tup9⟩ := split_led N hsub o1
      have rows9 : DatAll own ys (vs.map fun v => rowD (Str.ofString "integer") (scD v)) := rows_dat (P := fun v u => v = u) (Paired.mono (fun a b q => ⟨a, rfl, tup9 _ _ _ q⟩) hp) (fun v hv u e => ⟨e ▸ (hvs v hv).sc, by rw [e]⟩)
      clear tup9 hp hsub o1 N
      simp only [List.cons_append, List.nil_append] at N9
      simp only [List.map_cons, List.map_nil] at off9
      rename News _ _ _ _ => N9
      simp only [LCg.Off1, and_true] at o19
      (rename TextsOk _ => tx9)
      have txl := tx9.len
      refine seq_tail F N9 (.tail _ (.tail _ (.tail _ (.tail _ (.tail _ (.head _)))))) (.tail _ (.tail _ (.tail _ (.tail _ (.tail _ (.tail _ (.head _))))))) (.tail _ (.tail _ (.tail _ (.tail _ (.tail _ (.tail _ (.tail _ (.head _)))))))) (.tail _ (.tail _ (.tail _ (.tail _ (.tail _ (.tail _ (.tail _ (.tail _ (.head _))))))))) (.head _) ?h1 ?h2
      case h2 =>
        rintro s9 ⟨dv, av, h', tk', own', rfl, F', N', rows', T9⟩
        first | k_fold | (k_unmd; k_fold) | (dsimp only; k_fold) | skip
        w_strict k_steps
        refine Halt.mk ?_
        k_dflt (refine T9.go (by k_asm) (by k_asm) (by k_asm) (by k_asm) (by k_asm) ?_)
        intro rv news2 h2 tk2 F2 N2 ne2
        have N3 := N2
        simp only [List.cons_append] at N3
        (try dsimp only)
        k_steps
        refine ne2 N2 (by ke_room) ?_
        w_strict k_steps
        refine Halt.mk ?_
        refine ne_same (by k_asm) (by k_mem) (by k_mem) (dat_map fun v hv => (hvs v hv).sc) (fun _ h => h) (dat_map fun v hv => (hvs v hv).sc) (fun _ h => h) (dat_map_ok fun v hv => (hvs v hv).sc) (by ke_room) ?_
        w_strict k_steps
        refine Halt.mk ?_
        k_dflt (refine' told_go ?b1 ?b2 ?b3 ?b4 ?N (does_bare (vs := vs) (by omega)) (by omega) ?ret (fun h => h.elim); (case b1 => k_asm); (case b2 => k_asm); (case b3 => k_asm); (case b4 => k_asm); (case N => exact cb_drop (by k_asm) (sub_cons (by k_mem) (sub_cons (by k_mem) (sub_cons (by k_mem) fun _ h => h)))))
        intro D2 zs news5 h5 tk5 F5 N5 sub5 mD5 hp5
        (try dsimp only)
        w_strict k_steps
        refine Halt.mk ?_
        refine eq_same N5 mD5 (sub5 _ (by k_mem)) (bare_rows hvs _ _ hp5) (fun _ h => h) rows' (fun p hp => sub5 p (by repeat' first | exact hp | exact List.mem_append_left _ hp | refine List.Mem.tail _ ?_)) (bare_ok okI hvs) (by ke_room) ?_
        w_strict k_steps
      case h1 =>
        (rename (_ : Int) < 4 => hw4)
        rcases Mine.four_ways hw4 (by assumption) with e | e | e | e
        case inl =>
          subst e
          first | k_fold | (k_unmd; k_fold) | (dsimp only; k_fold)
          w_strict k_steps
          refine Halt.mk ?_
          k_dflt (refine LCt.CompSrcT.ledger (by rfl) (by k_asm) (by k_asm) (by k_mem) hsz ?_)
          intro g'
          refine rest_rowsX tx9 hvs (Str.ofString "character") ?_ (fun l hl => .inr ⟨_, hl _ (by k_mem), rfl, _, rfl⟩) ?_
          · intro v9 news1 I oI C oC D m₂ ys h9 tk9 E' hv hsub hC hx F N off ne hS
            replace N := turn_led N hsub
            (simp only [List.cons_append] at N)
            rcases hv with rfl | ⟨i, ik, u, rfl, iaY⟩ | ⟨i, ik, rfl, hi⟩ | ⟨i, ik, rfl, hi, hi2⟩
            case inl =>
              first | k_fold | (k_unmd; k_fold) | (dsimp only; k_fold)
              w_strict k_steps
              exact tup2_end (by assumption) (by assumption) (fun p hp => by repeat' first | exact hp | exact List.mem_append_right _ hp | refine List.Mem.tail _ ?_) (by omega) (by omega) (by omega) (by omega) (allLt_right (own := own) (by tbn_find)) hsub off hS (fun _ _ h q => SrcAt.mono' h q) (fun _ a b => ⟨a, rfl, _, .inl ⟨rfl, rfl⟩, b⟩)
            case inr.inl =>
              first | k_fold | (k_unmd; k_fold) | (dsimp only; k_fold)
              have iaX := iaY
              have h1 := iaY.lo
              have h2 := iaY.hi
              w_strict k_steps
              exact tup2_end (by assumption) (by assumption) (fun p hp => by repeat' first | exact hp | exact List.mem_append_right _ hp | refine List.Mem.tail _ ?_) (by omega) (by omega) (by omega) (by omega) (allLt_right (own := own) (by tbn_find)) hsub off hS (fun _ _ h q => SrcAt.mono' h q) (fun _ a b => ⟨a, okC_int iaY, _, .inr ⟨_, _, rfl, iaY⟩, b⟩)
            case inr.inr.inl =>
              first | k_fold | (k_unmd; k_fold) | (dsimp only; k_fold)
              w_strict k_steps
              exact skip_end (by assumption) (by assumption) (fun p hp => by repeat' first | exact hp | exact List.mem_append_right _ hp | refine List.Mem.tail _ ?_) off hS ⟨fun _ h => h, okC_low hi⟩
            case inr.inr.inr =>
              first | k_fold | (k_unmd; k_fold) | (dsimp only; k_fold)
              w_strict k_steps
              exact skip_end (by assumption) (by assumption) (fun p hp => by repeat' first | exact hp | exact List.mem_append_right _ hp | refine List.Mem.tail _ ?_) off hS ⟨fun _ h => h, okC_high hi2⟩
          · intro ysD newsD hsubD hpD
            unfold LCg.FinA
            intro DD hD tkD FD ND o1D
            obtain ⟨ownD, ND9, offD9, oD19, tupD9⟩ := split_led ND hsubD o1D
            have rowsD := due_rows tx9 hpD tupD9
            have lenD := paired_len hpD
            clear tupD9 hpD hsubD o1D ND
            simp only [List.cons_append, List.nil_append] at ND9
            simp only [List.map_cons, List.map_nil] at offD9
            simp only [LCg.Off1, and_true] at oD19
            rename News _ _ _ _ => ND9
            rcases all_or tx9 vs with hall | hall
            · rw [List.filter_eq_self.mpr hall] at rowsD lenD
              (try dsimp only)
              w_strict k_steps
              (rename Obj.IsDictOf _ _ [_, _] => hO9)
              refine' tailJ_mk (by k_asm) (by k_asm) ?subp ?rowsp ?Tp
              case subp => exact sub_cons (by k_mem) (sub_cons (by k_mem) (sub_cons (by k_mem) (sub_cons (by k_mem) (sub_cons (by k_mem) fun _ h => h))))
              case rowsp => exact rows9.mono (fun p hp => by repeat' first | exact hp | exact List.mem_append_left _ hp | exact List.mem_append_right _ hp | refine List.Mem.tail _ ?_)
              case Tp =>
                refine' tail_list (ys' := ysD) (does_fac (by omega) hO9 ?hMp (fun v hv => hvs v hv) (by omega)) ?s1p ?s2p (by omega) (good_codes tx9 hvs hall) ?mDp (rowsD.mono (fun p hp => by repeat' first | exact hp | exact List.mem_append_left _ hp | exact List.mem_append_right _ hp | refine List.Mem.tail _ ?_)) (rows_ok okCh fun v _ => text_ok tx9 6 v) (text_rows tx9)
                case s2p => exact fun p hp => .tail _ (.tail _ (.tail _ (.tail _ (.tail _ (.tail _ (.tail _ (.tail _ (.tail _ (.tail _ hp)))))))))
                case s1p => exact sub_cons (by k_mem) (sub_cons (by k_mem) (sub_cons (by k_mem) (sub_cons (by k_mem) (sub_cons (by k_mem) (sub_cons (by k_mem) (sub_cons (by k_mem) (sub_cons (by k_mem) (sub_cons (by k_mem) (sub_cons (by k_mem) fun _ h => h)))))))))
                case hMp => assumption
                case mDp => k_mem
            · have hlt := filter_short hall
              (try dsimp only)
              w_strict k_steps
              (rename Obj.IsDictOf _ _ [_, _] => hO9)
              refine' tailJ_mk (fr_twice (by k_asm)) (by k_asm) ?subq ?rowsq ?Tq
              case subq => exact sub_cons (by k_mem) (sub_cons (by k_mem) (sub_cons (by k_mem) (sub_cons (by k_mem) (sub_cons (by k_mem) fun _ h => h))))
              case rowsq => exact rows9.mono (fun p hp => by repeat' first | exact hp | exact List.mem_append_left _ hp | exact List.mem_append_right _ hp | refine List.Mem.tail _ ?_)
              case Tq =>
                refine' tail_msg (does_fac (by omega) hO9 ?hMq (fun v hv => hvs v hv) (by omega)) ?s1q ?s2q (by omega) (bad_rows tx9 hvs hall)
                case s2q => exact fun p hp => .tail _ (.tail _ (.tail _ (.tail _ (.tail _ (.tail _ (.tail _ (.tail _ (.tail _ (.tail _ hp)))))))))
                case s1q => exact sub_cons (by k_mem) (sub_cons (by k_mem) (sub_cons (by k_mem) (sub_cons (by k_mem) (sub_cons (by k_mem) (sub_cons (by k_mem) (sub_cons (by k_mem) (sub_cons (by k_mem) (sub_cons (by k_mem) (sub_cons (by k_mem) fun _ h => h)))))))))
                case hMq => assumption
        case inr.inl =>
          subst e
          first | k_fold | (k_unmd; k_fold) | (dsimp only; k_fold)
          w_strict k_steps
          refine Halt.mk ?_
          refine ne_nil (by k_asm) (by k_mem) (by k_mem) hvs (by ke_room) ?_ ?_
          · intro hne
            k_steps
            (rename Obj.IsDictOf _ _ [_, _] => hO9)
            refine' tailJ_mk (by k_asm) (by k_asm) ?sub ?rows ?T
            case sub => exact sub_cons (by k_mem) (sub_cons (by k_mem) (sub_cons (by k_mem) (sub_cons (by k_mem) (sub_cons (by k_mem) fun _ h => h))))
            case rows => exact rows9.mono (fun p hp => by repeat' first | exact hp | refine List.Mem.tail _ ?_)
            case T =>
              refine' tail_msg (does_int (by omega) hO9 ?hM) ?s1 ?s2 (by omega) (no_rows hne)
              case s2 => exact fun p hp => .tail _ (.tail _ (.tail _ (.tail _ (.tail _ (.tail _ (.tail _ (.tail _ (.tail _ (.tail _ hp)))))))))
              case s1 => exact sub_cons (by k_mem) (sub_cons (by k_mem) (sub_cons (by k_mem) (sub_cons (by k_mem) (sub_cons (by k_mem) (sub_cons (by k_mem) (sub_cons (by k_mem) (sub_cons (by k_mem) (sub_cons (by k_mem) (sub_cons (by k_mem) fun _ h => h)))))))))
              case hM => assumption
          · intro hne
            k_steps
            (rename Obj.IsDictOf _ _ [_, _] => hO9)
            refine' tailJ_mk (by k_asm) (by k_asm) ?subb ?rowsb ?Tb
            case subb => exact sub_cons (by k_mem) (sub_cons (by k_mem) (sub_cons (by k_mem) (sub_cons (by k_mem) (sub_cons (by k_mem) fun _ h => h))))
            case rowsb => exact rows9.mono (fun p hp => by repeat' first | exact hp | refine List.Mem.tail _ ?_)
            case Tb =>
              refine' tail_list (ys' := []) (does_int (by omega) hO9 ?hMb) ?s1b ?s2b (by omega) (not_not_intro hne) ?mDb .nil (fun _ h => nomatch h) (nil_rows hne)
              case s2b => exact fun p hp => .tail _ (.tail _ (.tail _ (.tail _ (.tail _ (.tail _ (.tail _ (.tail _ (.tail _ (.tail _ hp)))))))))
              case s1b => exact sub_cons (by k_mem) (sub_cons (by k_mem) (sub_cons (by k_mem) (sub_cons (by k_mem) (sub_cons (by k_mem) (sub_cons (by k_mem) (sub_cons (by k_mem) (sub_cons (by k_mem) (sub_cons (by k_mem) (sub_cons (by k_mem) fun _ h => h)))))))))
              case hMb => assumption
              case mDb => k_mem
        case inr.inr.inl =>
          subst e
          first | k_fold | (k_unmd; k_fold) | (dsimp only; k_fold)
          w_strict k_steps
          refine Halt.mk ?_
          refine ne_nil (by k_asm) (by k_mem) (by k_mem) hvs (by ke_room) ?_ ?_
          · intro hne
            k_steps
            (rename Obj.IsDictOf _ _ _ => hO9)
            refine' tailJ_mk (by k_asm) (by k_asm) ?sub ?rows ?T
            case sub => exact sub_cons (by k_mem) (sub_cons (by k_mem) (sub_cons (by k_mem) (sub_cons (by k_mem) (sub_cons (by k_mem) fun _ h => h))))
            case rows => exact rows9.mono (fun p hp => by repeat' first | exact hp | refine List.Mem.tail _ ?_)
            case T =>
              refine' tail_msg (does_none (by omega) hO9 ?hM) ?s1 ?s2 (by omega) (no_rows hne)
              case s2 => exact fun p hp => .tail _ (.tail _ (.tail _ (.tail _ (.tail _ (.tail _ (.tail _ hp))))))
              case s1 => exact sub_cons (by k_mem) (sub_cons (by k_mem) (sub_cons (by k_mem) (sub_cons (by k_mem) (sub_cons (by k_mem) (sub_cons (by k_mem) (sub_cons (by k_mem) fun _ h => h))))))
              case hM => assumption
          · intro hne
            k_steps
            (rename Obj.IsDictOf _ _ _ => hO9)
            refine' tailJ_mk (by k_asm) (by k_asm) ?subb ?rowsb ?Tb
            case subb => exact sub_cons (by k_mem) (sub_cons (by k_mem) (sub_cons (by k_mem) (sub_cons (by k_mem) (sub_cons (by k_mem) fun _ h => h))))
            case rowsb => exact rows9.mono (fun p hp => by repeat' first | exact hp | refine List.Mem.tail _ ?_)
            case Tb =>
              refine' tail_list (ys' := []) (does_none (by omega) hO9 ?hMb) ?s1b ?s2b (by omega) (not_not_intro hne) ?mDb .nil (fun _ h => nomatch h) (nil_rows hne)
              case s2b => exact fun p hp => .tail _ (.tail _ (.tail _ (.tail _ (.tail _ (.tail _ (.tail _ hp))))))
              case s1b => exact sub_cons (by k_mem) (sub_cons (by k_mem) (sub_cons (by k_mem) (sub_cons (by k_mem) (sub_cons (by k_mem) (sub_cons (by k_mem) (sub_cons (by k_mem) fun _ h => h))))))
              case hMb => assumption
              case mDb => k_mem
        case inr.inr.inr =>
          subst e
          first | k_fold | (k_unmd; k_fold) | (dsimp only; k_fold)
          w_strict k_steps
          (rename Obj.IsDictOf _ _ _ => hO9)
          refine' tailJ_mk (by k_asm) (by k_asm) ?sub ?rows ?T
          case sub => exact sub_cons (by k_mem) (sub_cons (by k_mem) (sub_cons (by k_mem) (sub_cons (by k_mem) (sub_cons (by k_mem) fun _ h => h))))
          case rows => exact rows9.mono (fun p hp => by repeat' first | exact hp | refine List.Mem.tail _ ?_)
          case T =>
            refine' tail_list (ys' := ys) (does_other (by omega) hO9 ?hM) ?s1 ?s2 (by omega) not_false ?mD (rows9.mono (fun p hp => by repeat' first | exact hp | refine List.Mem.tail _ ?_)) (bare_ok okI hvs) (bare_rows hvs)
            case s2 => exact fun p hp => .tail _ (.tail _ (.tail _ (.tail _ (.tail _ (.tail _ (.tail _ hp))))))
            case s1 => exact sub_cons (by k_mem) (sub_cons (by k_mem) (sub_cons (by k_mem) (sub_cons (by k_mem) (sub_cons (by k_mem) (sub_cons (by k_mem) (sub_cons (by k_mem) fun _ h => h))))))
            case hM => assumption
            case mD => k_mem
end
