import PyProof.Rows.All
import Wide.All
import OpenK.AllK
import Wide.FinOn
import PySem.Challenge.RW_xm0802_01
open PySem PySem.W PyProof.Rows
set_option Elab.async false
namespace Mine
set_option maxRecDepth 100000 in
set_option maxHeartbeats 8000000 in
open_top hd for PySem.Challenge.rw_xm0802_01

section Patch1
theorem fd_lo {a n : Int} (ha : 0 ≤ a) (h : 0 < n) : 0 ≤ Int.fdiv a n := by
  rw [Int.fdiv_eq_ediv_of_nonneg a (by omega)]; exact Int.ediv_nonneg ha (by omega)

theorem patch_end {h₀ g hh : Heap} {L L' q : Addr} {m m' : Str → Option Value} {s : Shared} {Q E : Value → Shared → Prop} {l : List (Addr × Obj)} {many a' b' v : Int} {ta' tb' tv : Tok} {n' tk : Nat}
    (h : ∀ (v : Int) (tv : Tok) (h' : Heap) (tk' : Nat) (a' b' : Int) (ta' tb' : Tok) (n' : Nat), 0 ≤ v → v < many → 0 ≤ a' → 0 ≤ b' → b' < 65284 →
      (∀ c o, s.heap.get? c = some o → c ≠ q → h'.get? c = some o) → Fr h₀ L h' m → News h₀ L h' [(q, PySem.W.listOf #[.int a' ta', .int b' tb'] n')] → Q (.int v tv) { s with heap := h', toks := tk' })
    (G : GSub s.heap g (l.map (·.1))) (hl : l.map (·.1) = [q]) (F' : Fr g L' hh m') (N' : News g L' hh [(q, PySem.W.listOf #[.int a' ta', .int b' tb'] n')])
    (h1 : 0 ≤ v) (h2 : v < many) (h3 : 0 ≤ a') (h4 : 0 ≤ b') (h5 : b' < 65284) :
    LeaveK h₀ L m g (fun r s' => match r with | .ok (.ret v) => Q v s' | .ok _ => False | .error e => E e s') (.int v tv) { s with heap := hh, toks := tk } := by
  refine leaveK_ F' N' fun F N => ?_
  refine h v tv hh tk a' b' ta' tb' n' h1 h2 h3 h4 h5 (fun c o e hc => F'.keep c o (G c o e ?_)) F N
  rw [hl]; simpa using hc

set_option maxRecDepth 100000 in
set_option maxHeartbeats 8000000 in
theorem patch_spec {w : World} {A₀ A : Around} {base h₀ : Heap} {outer : List Env} {L : Addr} {m : Str → Option Value} {s : Shared} {env : Env} {mg mb : Str → Option Value} {mean : ExcName → Option Value}
    {q : Addr} {a b many : Int} {ta tb tm : Tok} {n : Nat} {Q E : Value → Shared → Prop}
    (B : Below A₀ base outer h₀) (F : Fr h₀ L s.heap m) (X : (Mine.hd.heap_39 w.params).In h₀) (T : Top Mine.hd.view_39 (looseW Mine.hd.view_39 []) mean mg mb h₀)
    (N : News h₀ L s.heap [(q, PySem.W.listOf #[.int a ta, .int b tb] n)])
    (hA : A.frames = some (env :: outer)) (hf : env.frame = some L) (hke : env.scope.kind = .function) (hroom : A.depth < recursionLimit) (hh : A.handled = none)
    (hm0 : 0 < many) (hm1 : many ≤ 256) (ha : 0 ≤ a) (hb0 : 0 ≤ b) (hb1 : b < 65284)
    (h : ∀ (v : Int) (tv : Tok) (h' : Heap) (tk' : Nat) (a' b' : Int) (ta' tb' : Tok) (n' : Nat), 0 ≤ v → v < many → 0 ≤ a' → 0 ≤ b' → b' < 65284 →
      (∀ c o, s.heap.get? c = some o → c ≠ q → h'.get? c = some o) → Fr h₀ L h' m → News h₀ L h' [(q, PySem.W.listOf #[.int a' ta', .int b' tb'] n')] → Q (.int v tv) { s with heap := h', toks := tk' }) :
    wpAny (model PySem.Challenge.rw_xm0802_01.row.prog w) A (call (.ref 91) [.ref q, .int many tm]) Q E s := by
  (revert X; k_fill; intro X)
  refine wpAny_call ?_
  refine' code_defG B F X N T hA hf hke ?k6 ?k7 hroom ?k9 ?kB ?_ ?c2 ?c3 ?c4 ?c5
  case k6 => k_is
  case k7 => k_is
  case k9 => exact BindsTo.of_eq rfl
  case kB => exact locs rfl
  case c2 => exact rfl
  case c3 => exact rfl
  case c4 => exact rfl
  case c5 => decide
  intro g' L' h' FG' F' N' B' X' T' kG'
  clear B F X T
  (try dsimp only)
  k_fold
  k_steps
  · rename_i F₁ N₁
    exact patch_end (s := s) h kG' rfl F₁ N₁ (fmod_lo _ hm0) (fmod_hi _ hm0) (fd_lo ha hm0) hb0 hb1
  · rename_i F₁ N₁ _
    exact patch_end (s := s) h kG' rfl F₁ N₁ (fmod_lo _ hm0) (fmod_hi _ hm0) ha (fmod_lo _ (by omega)) (Int.lt_trans (fmod_hi _ (by omega)) (by omega))
end Patch1

section Quilt1
theorem quilt_end {h₀ g hh : Heap} {L L' q : Addr} {m m' : Str → Option Value} {s : Shared} {Q E : Value → Shared → Prop} {news : List (Addr × Obj)} {a' b' : Int} {ta' tb' : Tok} {tk : Nat}
    (h : ∀ (q : Addr) (h' : Heap) (tk' : Nat) (a' b' : Int) (ta' tb' : Tok), 0 ≤ a' → 0 ≤ b' → b' < 65284 → (∀ p ∈ news, p.1 < q) →
      Fr h₀ L h' m → News h₀ L h' ((q, PySem.W.listOf #[.int a' ta', .int b' tb'] 0) :: news) → Q (.ref q) { s with heap := h', toks := tk' })
    (F' : Fr g L' hh m') (N' : News g L' hh ((q, PySem.W.listOf #[.int a' ta', .int b' tb'] 0) :: news)) (l1 : ∀ p ∈ news, p.1 < q)
    (h3 : 0 ≤ a') (h4 : 0 ≤ b') (h5 : b' < 65284) :
    LeaveK h₀ L m g (fun r s' => match r with | .ok (.ret v) => Q v s' | .ok _ => False | .error e => E e s') (.ref q) { s with heap := hh, toks := tk } :=
  leaveK_ F' N' fun F N => h q hh tk a' b' ta' tb' h3 h4 h5 l1 F N
theorem fm2_lo (x : Int) : 0 ≤ (x.fmod 999377 * 103).fmod 65147 + 137 := by
  have := fmod_lo (x.fmod 999377 * 103) (n := 65147) (by omega); omega
theorem fm2_hi (x : Int) : (x.fmod 999377 * 103).fmod 65147 + 137 < 65284 := by
  have := fmod_hi (x.fmod 999377 * 103) (n := 65147) (by omega); omega

set_option maxRecDepth 100000 in
set_option maxHeartbeats 8000000 in
theorem quilt_spec {w : World} {A₀ : Around} {base h₀ : Heap} {L : Addr} {m : Str → Option Value} {s : Shared} {env : Env} {mg mb : Str → Option Value} {mean : ExcName → Option Value}
    {l : Addr} {vs : List Value} {ns : List Int} {news : List (Addr × Obj)} {Q E : Value → Shared → Prop}
    (B : Below A₀ base [] h₀) (F : Fr h₀ L s.heap m) (X : (Mine.hd.heap_39 w.params).In h₀) (T : Top Mine.hd.view_39 (looseW Mine.hd.view_39 []) mean mg mb h₀)
    (N : News h₀ L s.heap news)
    (hf : env.frame = some L) (hke : env.scope.kind = .function) 
    (hl : base.IsList l vs.toArray) (hI : IntsAre vs ns) (hlen : ns.length ≤ 63)
    (h : ∀ (q : Addr) (h' : Heap) (tk' : Nat) (a' b' : Int) (ta' tb' : Tok), 0 ≤ a' → 0 ≤ b' → b' < 65284 → (∀ p ∈ news, p.1 < q) →
      Fr h₀ L h' m → News h₀ L h' ((q, PySem.W.listOf #[.int a' ta', .int b' tb'] 0) :: news) → Q (.ref q) { s with heap := h', toks := tk' }) :
    wpAny (model PySem.Challenge.rw_xm0802_01.row.prog w) (callerA.deeper env) (call (.ref 84) [.ref l]) Q E s := by
  (revert X; k_fill; intro X)
  refine wpAny_call ?_
  refine' code_defG B F X N T rfl hf hke ?k6 ?k7 (by k_room) ?k9 ?kB ?_ ?c2 ?c3 ?c4 ?c5
  case k6 => k_is
  case k7 => k_is
  case k9 => exact BindsTo.of_eq rfl
  case kB => exact locs rfl
  case c2 => exact rfl
  case c3 => exact rfl
  case c4 => exact rfl
  case c5 => decide
  intro g' L' h' FG' F' N' B' X' T' kG'
  have hlg := stays_list B'.stays hl
  clear B F X T
  (try dsimp only)
  k_unmd
  k_fold
  k_steps
  all_goals
    (rename Fr _ _ _ _ => F₁); (rename News _ _ _ _ => N₁); (rename ∀ p ∈ news, p.1 < _ => l1)
    refine quilt_end (s := s) h F₁ N₁ l1 ?_ (fm2_lo _) (fm2_hi _)
    first | assumption | decide | omega
end Quilt1

section Bias1
def biasF (x a d : Int) : Int := if a = 2 ∧ d = 1 then x.fmod 2 else if a = 2 ∧ d = 2 then 1 + x.fmod 2 else (a * d).fdiv 2
def goesF (l x a d : Int) : Bool :=
  if a = 2 ∧ d = 1 then decide (l = 1 ∧ x.fmod 2 = 1)
  else if a = 2 ∧ d = 2 then decide (l = 3 ∨ (l = 2 ∧ x.fmod 2 = 1))
  else decide (a * d ≤ 2 * l ∧ 0 < l)

theorem int_end {h₀ g hh : Heap} {L L' : Addr} {m m' : Str → Option Value} {s : Shared} {Q E : Value → Shared → Prop} {news news' : List (Addr × Obj)} {V v : Int} {tv : Tok} {tk : Nat}
    (h : ∀ (tv : Tok) (h' : Heap) (tk' : Nat), Fr h₀ L h' m → News h₀ L h' news → Q (.int V tv) { s with heap := h', toks := tk' })
    (F' : Fr g L' hh m') (N' : News g L' hh news') (hs : ∀ p ∈ news, p ∈ news') (e : v = V) :
    LeaveK h₀ L m g (fun r s' => match r with | .ok (.ret v) => Q v s' | .ok _ => False | .error e => E e s') (.int v tv) { s with heap := hh, toks := tk } := by
  subst e
  exact leaveK_ F' N' fun F N => h tv hh tk F fun p hp => N p (hs p hp)
theorem bool_end {h₀ g hh : Heap} {L L' : Addr} {m m' : Str → Option Value} {s : Shared} {Q E : Value → Shared → Prop} {news news' : List (Addr × Obj)} {V v : Bool} {tk : Nat}
    (h : ∀ (h' : Heap) (tk' : Nat), Fr h₀ L h' m → News h₀ L h' news → Q (.bool V) { s with heap := h', toks := tk' })
    (F' : Fr g L' hh m') (N' : News g L' hh news') (hs : ∀ p ∈ news, p ∈ news') (e : v = V) :
    LeaveK h₀ L m g (fun r s' => match r with | .ok (.ret v) => Q v s' | .ok _ => False | .error e => E e s') (.bool v) { s with heap := hh, toks := tk } := by
  subst e
  exact leaveK_ F' N' fun F N => h hh tk F fun p hp => N p (hs p hp)

set_option maxRecDepth 100000 in
set_option maxHeartbeats 8000000 in
theorem bias_spec {w : World} {A₀ A : Around} {base h₀ : Heap} {outer : List Env} {L : Addr} {m : Str → Option Value} {s : Shared} {env : Env} {mg mb : Str → Option Value} {mean : ExcName → Option Value}
    {x a d : Int} {tx ta td : Tok} {news : List (Addr × Obj)} {Q E : Value → Shared → Prop}
    (B : Below A₀ base outer h₀) (F : Fr h₀ L s.heap m) (X : (Mine.hd.heap_39 w.params).In h₀) (T : Top Mine.hd.view_39 (looseW Mine.hd.view_39 []) mean mg mb h₀)
    (N : News h₀ L s.heap news)
    (hA : A.frames = some (env :: outer)) (hf : env.frame = some L) (hke : env.scope.kind = .function) (hroom : A.depth < recursionLimit)
    (hx0 : 0 ≤ x) (hx1 : x ≤ 3) (ha0 : 1 ≤ a) (ha1 : a ≤ 4) (hd0 : 1 ≤ d) (hd1 : d ≤ 4)
    (h : ∀ (tv : Tok) (h' : Heap) (tk' : Nat), Fr h₀ L h' m → News h₀ L h' news → Q (.int (biasF x a d) tv) { s with heap := h', toks := tk' }) :
    wpAny (model PySem.Challenge.rw_xm0802_01.row.prog w) A (call (.ref 35) [.int x tx, .int a ta, .int d td]) Q E s := by
  (revert X; k_fill; intro X)
  refine wpAny_call ?_
  refine' code_defG B F X N T hA hf hke ?k6 ?k7 hroom ?k9 ?kB ?_ ?c2 ?c3 ?c4 ?c5
  case k6 => k_is
  case k7 => k_is
  case k9 => exact BindsTo.of_eq rfl
  case kB => exact locs rfl
  case c2 => exact rfl
  case c3 => exact rfl
  case c4 => exact rfl
  case c5 => decide
  intro g' L' h' FG' F' N' B' X' T' kG'
  clear B F X T
  (try dsimp only)
  k_unmd
  k_fold
  k_steps
  all_goals
    (rename Fr _ _ _ _ => F₁); (rename News _ _ _ _ => N₁)
    refine int_end (s := s) h F₁ N₁ (fun _ hp => hp) ?_
    simp_all [biasF]

set_option maxRecDepth 100000 in
set_option maxHeartbeats 8000000 in
theorem goes_spec {w : World} {A₀ : Around} {base h₀ : Heap} {L : Addr} {m : Str → Option Value} {s : Shared} {env : Env} {mg mb : Str → Option Value} {mean : ExcName → Option Value}
    {l x a d : Int} {tl tx ta td : Tok} {news : List (Addr × Obj)} {Q E : Value → Shared → Prop}
    (B : Below A₀ base [] h₀) (F : Fr h₀ L s.heap m) (X : (Mine.hd.heap_39 w.params).In h₀) (T : Top Mine.hd.view_39 (looseW Mine.hd.view_39 []) mean mg mb h₀)
    (N : News h₀ L s.heap news)
    (hf : env.frame = some L) (hke : env.scope.kind = .function)
    (hl0 : 0 ≤ l) (hl1 : l ≤ 16) (hx0 : 0 ≤ x) (hx1 : x ≤ 3) (ha0 : 1 ≤ a) (ha1 : a ≤ 4) (hd0 : 1 ≤ d) (hd1 : d ≤ 4)
    (h : ∀ (h' : Heap) (tk' : Nat), Fr h₀ L h' m → News h₀ L h' news → Q (.bool (goesF l x a d)) { s with heap := h', toks := tk' }) :
    wpAny (model PySem.Challenge.rw_xm0802_01.row.prog w) (callerA.deeper env) (call (.ref 98) [.int l tl, .int x tx, .int a ta, .int d td]) Q E s := by
  (revert X; k_fill; intro X)
  refine wpAny_call ?_
  refine' code_defG B F X N T rfl hf hke ?k6 ?k7 (by k_room) ?k9 ?kB ?_ ?c2 ?c3 ?c4 ?c5
  case k6 => k_is
  case k7 => k_is
  case k9 => exact BindsTo.of_eq rfl
  case kB => exact locs rfl
  case c2 => exact rfl
  case c3 => exact rfl
  case c4 => exact rfl
  case c5 => decide
  intro g' L' h' FG' F' N' B' X' T' kG'
  clear B F X T
  (try dsimp only)
  k_unmd
  k_fold
  k_steps
  all_goals
    (rename Fr _ _ _ _ => F₁); (rename News _ _ _ _ => N₁)
    refine bool_end (s := s) h F₁ N₁ (fun _ hp => by repeat (first | exact hp | apply List.Mem.tail)) ?_
    unfold goesF
    simp only [Bool.and_eq_true, Bool.and_eq_false_iff, beq_iff_eq, beq_eq_false_iff_ne, ne_eq, decide_eq_true_eq, decide_eq_false_iff_not] at *
    clear h F₁ N₁ FG' B' X' T' kG'
    (repeat' split) <;> first | (exfalso; omega) | (rw [Bool.eq_iff_iff]; simp only [beq_iff_eq, decide_eq_true_eq]; omega)
end Bias1

section Plane1
set_option maxRecDepth 100000 in
set_option maxHeartbeats 8000000 in
theorem plane_spec {w : World} {A₀ : Around} {base h₀ : Heap} {L : Addr} {m : Str → Option Value} {s : Shared} {cn : Str} {cs : Scope} {a : Addr} {ccd : Value} {mg mb : Str → Option Value} {mean : ExcName → Option Value}
    {W H : Int} {tW tH : Tok} {R : Addr} {news : List (Addr × Obj)} {Q E : Value → Shared → Prop}
    (B : Below A₀ base [] h₀) (F : Fr h₀ L s.heap m) (X : (Mine.hd.heap_39 w.params).In h₀) (T : Top Mine.hd.view_39 (looseW Mine.hd.view_39 []) mean mg mb h₀)
    (N : News h₀ L s.heap news) (hk : cs.kind = .function)
    (h : ∀ (pl dx : Addr) (h' : Heap) (tk' : Nat) (t1 t2 t3 : Tok), Fr h₀ L h' m → News h₀ L h' ((pl, instObj 66 dx) :: (dx, dictOf [{ hash := PyData.keyHash w.params (Str.ofString "width"), key := .str (Str.ofString "width") t1, val := .int W tW }, { hash := PyData.keyHash w.params (Str.ofString "height"), key := .str (Str.ofString "height") t2, val := .int H tH }, { hash := PyData.keyHash w.params (Str.ofString "rows"), key := .str (Str.ofString "rows") t3, val := .ref R }] 3) :: news) →
      (∀ p ∈ news, p.1 < dx) → @LT.lt Nat _ dx pl → Q (.ref pl) { s with heap := h', toks := tk' }) :
    wpAny (model PySem.Challenge.rw_xm0802_01.row.prog w) (callerA.deeper (envOfC cn cs L a ccd)) (call (.ref 66) [.int W tW, .int H tH, .ref R]) Q E s := by
  (revert X; k_fill; intro X)
  refine' call_cls F X N ?k4 ?k5 ?k6 ?_
  case k4 => k_is
  case k5 => k_is
  case k6 => k_is
  intro x' d' h' F' N' l1 l2
  (k_lt2 l2)
  refine' code_defG B F' X N' T rfl rfl hk ?k6 ?k7 (by k_room) ?k9 ?kB ?_ ?c2 ?c3 ?c4 ?c5
  case k6 => k_is
  case k7 => k_is
  case k9 => exact BindsTo.of_eq rfl
  case kB => exact locs rfl
  case c2 => exact rfl
  case c3 => exact rfl
  case c4 => exact rfl
  case c5 => decide
  intro g' L' h' FG' F' N' B' X' T' kG'
  (try dsimp only)
  k_unmd
  k_fold
  k_steps
  rename Fr _ _ _ _ => F₁
  rename News _ _ _ _ => N₁
  exact h x' d' _ _ _ _ _ F₁ N₁ l1 l2
end Plane1

section At1
def RowsIn (led : List (Addr × Obj)) (refs : List Value) (G : List (List Int)) (W : Nat) : Prop :=
  refs.length = G.length ∧ ∀ (i : Nat) (ns : List Int), G[i]? = some ns → ns.length = W ∧ ∃ r vs k, refs[i]? = some (.ref r) ∧ (r, PySem.W.listOf (List.toArray vs) k) ∈ led ∧ IntsAre vs ns
def cellF (G : List (List Int)) (W : Nat) (y x : Int) : Int := (G.getD (min y (G.length - 1)).toNat []).getD (min x (W - 1)).toNat 0
theorem cell_eq {G : List (List Int)} {W : Nat} {ns : List Int} {k j x y : Int} (hG : G[k.toNat]? = some ns) (hk : k = min y (G.length - 1)) (hj : j = min x (W - 1)) : ns.getD j.toNat 0 = cellF G W y x := by
  subst hk hj
  unfold cellF
  rw [List.getD_eq_getElem?_getD (l := G), hG]
  rfl

theorem int_end2 {h₀ g hh : Heap} {L L' : Addr} {m m' : Str → Option Value} {s : Shared} {Q E : Value → Shared → Prop} {news news' : List (Addr × Obj)} {V v : Int} {tv : Tok} {tk : Nat}
    (h : ∀ (tv : Tok) (h' : Heap) (tk' : Nat), (∀ c o, s.heap.get? c = some o → h'.get? c = some o) → Fr h₀ L h' m → Q (.int V tv) { s with heap := h', toks := tk' })
    (G : GSub s.heap g (news.map (·.1))) (N : News h₀ L s.heap news)
    (F' : Fr g L' hh m') (N' : News g L' hh news') (hs : ∀ p ∈ news, p ∈ news') (e : v = V) :
    LeaveK h₀ L m g (fun r s' => match r with | .ok (.ret v) => Q v s' | .ok _ => False | .error e => E e s') (.int v tv) { s with heap := hh, toks := tk } := by
  subst e
  refine leaveK_ F' N' fun F _ => h tv hh tk (fun c o e => ?_) F
  by_cases hc : c ∈ news.map (·.1)
  · obtain ⟨p, hp, rfl⟩ := List.mem_map.mp hc
    have e1 := (N p hp).1
    rw [e] at e1; cases e1
    exact (N' p (hs p hp)).1
  · exact F'.keep c o (G c o e hc)
section
variable {prog : Program} {w : World} {A : Around} {E : Value → Shared → Prop} {s : Shared}
theorem row_at {h₀ : Heap} {L R : Addr} {news led : List (Addr × Obj)} {refs : List Value} {G : List (List Int)} {W nR : Nat} {value slice : Expr} {k : Int} {u : Tok} {Q : Value → Shared → Prop}
    (N : News h₀ L s.heap news) (hm : (R, PySem.W.listOf (List.toArray refs) nR) ∈ news) (hr : RowsIn led refs G W) (h0 : 0 ≤ k) (hk : k < G.length) (hG : G.length < 100)
    (h : ∀ r vs ns j, G[k.toNat]? = some ns → ns.length = W → (r, PySem.W.listOf (List.toArray vs) j) ∈ led → IntsAre vs ns → Q (.ref r) s)
    (hs : subscripted slice false (.ref R) (.int k u) = operate [.ref R, .int k u] (getItem (.ref R) (.int k u)) := by with_unfolding_all rfl) (hg : ∀ r, letTemporaryGo value (.ref R) r = pure () := by intro _; with_unfolding_all rfl) :
    wpAny (model prog w) A (subscriptTail value slice (.ref R) (.int k u)) Q E s := by
  have hkn : k.toNat < G.length := by omega
  obtain ⟨hl, hrow⟩ := hr
  have e : G[k.toNat]? = some G[k.toNat] := List.getElem?_eq_getElem hkn
  obtain ⟨e1, r, vs, j, e2, e3, e4⟩ := hrow _ _ e
  have hIs : s.heap.IsList R (List.toArray refs) := ⟨_, (N _ hm).1, rfl, nR, rfl⟩
  exact item_list hIs h0 (by omega) (by simpa using e2) (h r vs _ j e e1 e3 e4) hs hg
theorem cell_at {h₀ : Heap} {L r : Addr} {news led : List (Addr × Obj)} {vs : List Value} {ns : List Int} {j : Nat} {value slice : Expr} {k : Int} {u : Tok} {Q : Value → Shared → Prop}
    (N : News h₀ L s.heap news) (hsub : ∀ p ∈ led, p ∈ news) (hm : (r, PySem.W.listOf (List.toArray vs) j) ∈ led) (hi : IntsAre vs ns) (h0 : 0 ≤ k) (hk : k < ns.length) (hfit : k < 2 ^ 63)
    (h : ∀ t, Q (.int (ns.getD k.toNat 0) t) s)
    (hs : subscripted slice false (.ref r) (.int k u) = operate [.ref r, .int k u] (getItem (.ref r) (.int k u)) := by with_unfolding_all rfl) (hg : ∀ q, letTemporaryGo value (.ref r) q = pure () := by intro _; with_unfolding_all rfl) :
    wpAny (model prog w) A (subscriptTail value slice (.ref r) (.int k u)) Q E s :=
  item_list_ints ⟨_, (N _ (hsub _ hm)).1, rfl, j, rfl⟩ hi h0 hk hfit h hs hg
end

local macro_rules | `(tactic| walk_at "subscriptTail") => `(tactic| (k_here; (with_reducible show wpAny _ _ (subscriptTail _ _ (Value.ref _) (Value.int _ _)) _ _ _); (rename RowsIn _ _ _ _ => hRw9); k_dflt (first | ((refine' row_at ?k1 ?k2 hRw9 ?k3 ?k4 ?k5 ?_ ?k6 ?k7); (case k1 => k_asm); (case k2 => k_mem); (case k3 => omega); (case k4 => omega); (case k5 => omega); (case k6 => with_unfolding_all rfl); (case k7 => intro _; with_unfolding_all rfl); k_whole; intro r9 vs9 ns9 j9 hg9 hw9 hm9 hi9) | ((refine' cell_at ?k1 ?k2 ?k3 ?k4 ?k5 ?k6 ?k7 ?_ ?k8 ?k9); (case k1 => k_asm); (case k3 => assumption); (case k2 => (intro p hp; repeat (first | exact hp | apply List.Mem.tail))); (case k4 => assumption); (case k5 => omega); (case k6 => omega); (case k7 => omega); (case k8 => with_unfolding_all rfl); (case k9 => intro _; with_unfolding_all rfl); k_whole; intro t9))))

set_option maxRecDepth 100000 in
set_option maxHeartbeats 8000000 in
theorem at_spec {w : World} {A₀ : Around} {base h₀ : Heap} {L : Addr} {m : Str → Option Value} {s : Shared} {env env2 : Env} {mg mb : Str → Option Value} {mean : ExcName → Option Value}
    {pl dx R : Addr} {refs : List Value} {led : List (Addr × Obj)} {G : List (List Int)} {W nR : Nat} {tW tH t1 t2 t3 tx ty : Tok} {k1 k2 k3 : Int} {x y : Int} {Q E : Value → Shared → Prop}
    (B : Below A₀ base [env] h₀) (F : Fr h₀ L s.heap m) (X : (Mine.hd.heap_39 w.params).In h₀) (T : Top Mine.hd.view_39 (looseW Mine.hd.view_39 []) mean mg mb h₀)
    (N : News h₀ L s.heap ((pl, instObj 66 dx) :: (dx, dictOf [{ hash := k1, key := .str (Str.ofString "width") t1, val := .int (W : Int) tW }, { hash := k2, key := .str (Str.ofString "height") t2, val := .int (G.length : Int) tH }, { hash := k3, key := .str (Str.ofString "rows") t3, val := .ref R }] 3) :: (R, PySem.W.listOf (List.toArray refs) nR) :: led))
    (hf : env2.frame = some L) (hke : env2.scope.kind = .function)
    (hR : RowsIn led refs G W) (hW0 : 1 ≤ W) (hW1 : W ≤ 6) (hG0 : 1 ≤ G.length) (hG1 : G.length ≤ 5) (hx0 : 0 ≤ x) (hx1 : x ≤ 100) (hy0 : 0 ≤ y) (hy1 : y ≤ 100)
    (h : ∀ (tv : Tok) (h' : Heap) (tk' : Nat), (∀ c o, s.heap.get? c = some o → h'.get? c = some o) → Fr h₀ L h' m → Q (.int (cellF G W y x) tv) { s with heap := h', toks := tk' }) :
    wpAny (model PySem.Challenge.rw_xm0802_01.row.prog w) ((callerA.deeper env).deeper env2) (call (.ref 56) [.ref pl, .int x tx, .int y ty]) Q E s := by
  (revert X; k_fill; intro X)
  refine wpAny_call ?_
  refine' code_defG B F X N T rfl hf hke ?k6 ?k7 (by k_room) ?k9 ?kB ?_ ?c2 ?c3 ?c4 ?c5
  case k6 => k_is
  case k7 => k_is
  case k9 => exact BindsTo.of_eq rfl
  case kB => exact locs rfl
  case c2 => exact rfl
  case c3 => exact rfl
  case c4 => exact rfl
  case c5 => decide
  intro g' L' h' FG' F' N' B' X' T' kG'
  clear B F X T
  (try dsimp only)
  k_unmd
  k_fold
  k_steps
  all_goals
    (rename Fr _ _ _ _ => F₁); (rename News _ _ _ _ => N₁); (rename (_ : Option (List Int)) = some _ => hg9)
    exact int_end2 (s := s) h kG' N F₁ N₁ (fun _ hp => hp) (cell_eq hg9 (by omega) (by omega))
theorem at_call {w : World} {A₀ : Around} {base h₀ : Heap} {L : Addr} {m : Str → Option Value} {s : Shared} {env env2 : Env} {mg mb : Str → Option Value} {mean : ExcName → Option Value} {news : List (Addr × Obj)}
    {pl dx R : Addr} {refs : List Value} {led : List (Addr × Obj)} {G : List (List Int)} {W nR : Nat} {tW tH t1 t2 t3 tx ty : Tok} {k1 k2 k3 : Int} {x y : Int} {Q E : Value → Shared → Prop}
    (B : Below A₀ base [env] h₀) (F : Fr h₀ L s.heap m) (X : (Mine.hd.heap_39 w.params).In h₀) (T : Top Mine.hd.view_39 (looseW Mine.hd.view_39 []) mean mg mb h₀)
    (N : News h₀ L s.heap news)
    (hsub : ∀ p ∈ ((pl, instObj 66 dx) :: (dx, dictOf [{ hash := k1, key := .str (Str.ofString "width") t1, val := .int (W : Int) tW }, { hash := k2, key := .str (Str.ofString "height") t2, val := .int (G.length : Int) tH }, { hash := k3, key := .str (Str.ofString "rows") t3, val := .ref R }] 3) :: (R, PySem.W.listOf (List.toArray refs) nR) :: led), p ∈ news)
    (hf : env2.frame = some L) (hke : env2.scope.kind = .function)
    (hR : RowsIn led refs G W) (hW0 : 1 ≤ W) (hW1 : W ≤ 6) (hG0 : 1 ≤ G.length) (hG1 : G.length ≤ 5) (hx0 : 0 ≤ x) (hx1 : x ≤ 100) (hy0 : 0 ≤ y) (hy1 : y ≤ 100)
    (h : ∀ (tv : Tok) (h' : Heap) (tk' : Nat), Fr h₀ L h' m → News h₀ L h' news → Q (.int (cellF G W y x) tv) { s with heap := h', toks := tk' }) :
    wpAny (model PySem.Challenge.rw_xm0802_01.row.prog w) ((callerA.deeper env).deeper env2) (call (.ref 56) [.ref pl, .int x tx, .int y ty]) Q E s :=
  at_spec B F X T (fun p hp => N p (hsub p hp)) hf hke hR hW0 hW1 hG0 hG1 hx0 hx1 hy0 hy1 fun tv h' tk' k F' => h tv h' tk' F' (N.grown k)
end At1

section Mean1
def meanN (G : List (List Int)) (W : Nat) (x y a d : Int) : Int := List.foldl (fun t k => List.foldl (fun t j => t + cellF G W (y * d + k) (x * a + j)) t (rangeKs 0 a.toNat)) 0 (rangeKs 0 d.toNat)
theorem bias_join (x a d : Int) : (if a = 2 ∧ d = 1 then x.fmod 2 else if a = 2 ∧ ¬d = 1 ∧ d = 2 then 1 + x.fmod 2 else if a = 2 ∧ ¬d = 1 ∧ ¬d = 2 then (a * d).fdiv 2 else (a * d).fdiv 2) = biasF x a d := by
  unfold biasF
  (repeat' split) <;> first | rfl | (exfalso; omega)

-- the walk keeps its list of lines by their number: a second line here, so that the number differs from the part before
local macro_rules | `(tactic| walk_at "mine none") => `(tactic| skip)
local macro_rules | `(tactic| walk_at "call ref") => `(tactic| (k_here; (with_reducible show wpAny _ _ (call (Value.ref 56) _) _ _ _); (rename RowsIn _ _ _ _ => hRw9); k_dflt (refine' at_call ?k1 ?k2 ?k3 ?k4 ?k5 ?k5b ?k6 ?k7 hRw9 ?k8 ?k9 ?k10 ?k11 ?k12 ?k13 ?k14 ?k15 ?_; (case k1 => k_asm); (case k2 => k_asm); (case k3 => k_asm); (case k4 => k_asm); (case k5 => k_asm); (case k5b => first | exact fun _ hp => hp | exact fun _ hp => List.mem_append_left _ hp | kst_inAny); (case k6 => exact rfl); (case k7 => exact rfl); (case k8 => omega); (case k9 => omega); (case k10 => omega); (case k11 => omega); (case k12 => omega); (case k13 => omega); (case k14 => omega); (case k15 => omega); k_whole; intro tv' h' tk' F' N')))

set_option maxRecDepth 100000 in
set_option maxHeartbeats 8000000 in
theorem mean_spec {w : World} {A₀ : Around} {base h₀ : Heap} {L : Addr} {m : Str → Option Value} {s : Shared} {env : Env} {mg mb : Str → Option Value} {mean : ExcName → Option Value}
    {pl dx R : Addr} {refs : List Value} {led : List (Addr × Obj)} {G : List (List Int)} {W nR : Nat} {tW tH t1 t2 t3 tx ty ta td : Tok} {k1 k2 k3 : Int} {x y a d : Int} {Q E : Value → Shared → Prop}
    (B : Below A₀ base [] h₀) (F : Fr h₀ L s.heap m) (X : (Mine.hd.heap_39 w.params).In h₀) (T : Top Mine.hd.view_39 (looseW Mine.hd.view_39 []) mean mg mb h₀)
    (N : News h₀ L s.heap ((pl, instObj 66 dx) :: (dx, dictOf [{ hash := k1, key := .str (Str.ofString "width") t1, val := .int (W : Int) tW }, { hash := k2, key := .str (Str.ofString "height") t2, val := .int (G.length : Int) tH }, { hash := k3, key := .str (Str.ofString "rows") t3, val := .ref R }] 3) :: (R, PySem.W.listOf (List.toArray refs) nR) :: led))
    (hf : env.frame = some L) (hke : env.scope.kind = .function)
    (hR : RowsIn led refs G W) (hW0 : 1 ≤ W) (hW1 : W ≤ 6) (hG0 : 1 ≤ G.length) (hG1 : G.length ≤ 5) (hx0 : 0 ≤ x) (hx1 : x ≤ 3) (hy0 : 0 ≤ y) (hy1 : y ≤ 2)
    (ha0 : 1 ≤ a) (ha1 : a ≤ 4) (hd0 : 1 ≤ d) (hd1 : d ≤ 4)
    (hQ : ∀ (tv : Tok) (h' : Heap) (tk' : Nat), (∀ c o, s.heap.get? c = some o → h'.get? c = some o) → Fr h₀ L h' m → Q (.int ((meanN G W x y a d + biasF x a d).fdiv (a * d)) tv) { s with heap := h', toks := tk' }) :
    wpAny (model PySem.Challenge.rw_xm0802_01.row.prog w) (callerA.deeper env) (call (.ref 28) [.ref pl, .int x tx, .int y ty, .int a ta, .int d td]) Q E s := by
  have hxa0 : 0 ≤ x * a := Int.mul_nonneg (by omega) (by omega)
  have hxa1 : x * a ≤ 12 := Int.le_trans (Int.mul_le_mul hx1 ha1 (by omega) (by omega)) (by decide)
  have hyd0 : 0 ≤ y * d := Int.mul_nonneg (by omega) (by omega)
  have hyd1 : y * d ≤ 8 := Int.le_trans (Int.mul_le_mul hy1 hd1 (by omega) (by omega)) (by decide)
  have had : 0 < a * d := Int.mul_pos (by omega) (by omega)
  (revert X; k_fill; intro X)
  refine wpAny_call ?_
  refine' code_defG B F X N T rfl hf hke ?k6 ?k7 (by k_room) ?k9 ?kB ?_ ?c2 ?c3 ?c4 ?c5
  case k6 => k_is
  case k7 => k_is
  case k9 => exact BindsTo.of_eq rfl
  case kB => exact locs rfl
  case c2 => exact rfl
  case c3 => exact rfl
  case c4 => exact rfl
  case c5 => decide
  intro g' L' h' FG' F' N' B' X' T' kG'
  clear B F X T
  (try dsimp only)
  k_unmd
  k_fold
  k_steps
  all_goals first
    | (exfalso; omega)
    | ((rename Fr _ _ _ _ => F₁); (rename News _ _ _ _ => N₁)
       refine int_end2 (s := s) hQ kG' N F₁ N₁ (fun _ hp => hp) ?_
       rw [bias_join, Int.sub_zero, Int.sub_zero]
       rfl)
end Mean1

section Comp1
structure StopP (P : Prop) : Prop where
  out : P
theorem stopHere {P : Prop} (h : StopP P) : P := h.out
section
variable {prog : Program} {w : World} {A : Around} {R : Result → Shared → Prop} {s : Shared}

theorem eff_loop {elt iter : Expr} {x : Str} {px : Pos} {scope : Scope} {pos : Pos} {I D : Addr} {fp wr : List Addr} {n : Nat} {P : Nat → Value → Prop} {St : Nat → Heap → Prop}
    {cenv : Env} {m : Str → Option Value} (W : Walks prog w A I fp wr n P St) (J : List Value → Heap → Prop)
    (hx : cenv.kindOf x = some .local) (hp : (cenv.scope.kind == .class || (cenv.scope.kind == .module && cenv.locals != cenv.globals)) = false)
    (hDC : D ≠ cenv.locals) (hDf : D ∉ fp) (hCf : cenv.locals ∉ fp)
    (hst : St 0 s.heap) (hacc : s.heap.PlainList D #[]) (hn : s.heap.Ns cenv.locals m) (hJ0 : J [] s.heap)
    (hJf : ∀ ys h h', J ys h → (∀ b o, b ≠ cenv.locals → b ∉ wr → b ≠ D → h.get? b = some o → h'.get? b = some o) → J ys h')
    (helt : ∀ ys v h₂ tk₂ m₂, ys.length < n → P ys.length v → J ys h₂ → h₂.Ns cenv.locals m₂ → m₂ x = some v → St (ys.length + 1) h₂ → (∃ its, h₂.PlainList D its) →
      wpAny (model prog w) A (eval elt cenv) (fun y s₃ => ∃ h₃ tk₃, s₃ = { s with heap := h₃, toks := tk₃ } ∧ J (ys ++ [y]) h₃ ∧ ∀ b o, (b = cenv.locals ∨ b ∈ fp ∨ b = D) → h₂.get? b = some o → h₃.get? b = some o)
        (notedBy (model prog w) A cenv fun e s' => R (.error e) s') { s with heap := h₂, toks := tk₂ })
    (hR : ∀ h' tk m' ys, h'.Ns cenv.locals m' → h'.PlainList D ys → ys.size = n → J ys.toList h' → R (.ok .next) { s with heap := h', toks := tk })
    (hsz : n ≤ sizeLine) :
    codeAny (model prog w) A (.compLoop (.ListComp elt [⟨.Name x px, iter, [], 0⟩] scope pos) 0 (.ref I) (.ref D) cenv) R s := by
  have hCw : cenv.locals ∉ wr := fun h => hCf (W.sub _ h)
  have hDw : D ∉ wr := fun h => hDf (W.sub _ h)
  refine codeAny_compLoop_list
    (fun k s' => ∃ (h' : Heap) (tk : Nat) (m' : Str → Option Value) (ys : Array Value), s' = { s with heap := h', toks := tk } ∧ St ys.size h' ∧ h'.PlainList D ys ∧ h'.Ns cenv.locals m' ∧ J ys.toList h' ∧ ys.size ≤ n ∧ k = n + 1 - ys.size)
    ?_ (n + 1) ⟨s.heap, s.toks, m, #[], rfl, hst, hacc, hn, hJ0, Nat.zero_le _, rfl⟩
  rintro k s' ⟨H, tk, m', ys, rfl, hst', hacc', hn', hJ, hle, rfl⟩
  by_cases hlt : ys.size < n
  · refine W.item ys.size _ _ _ hlt hst' fun v h₁ tk₁ hPv hst₁ hk₁ => ?_
    refine wpAny_assign_Name (wpAny_storeName_local hx (hn'.at' fun o e => hk₁ _ o hCw e) (fun h₂ hn₂ hs₂ => ?_) hp)
    have up₂ : ∀ b o, b ≠ cenv.locals → b ∉ wr → H.get? b = some o → h₂.get? b = some o := fun b o hbC hbf e => hs₂.extBut b o hbC (hk₁ b o hbf e)
    have hst₂ : St (ys.size + 1) h₂ := W.frame _ _ _ hst₁ fun b hb o e => hs₂.extBut b o (fun h => hCf (h ▸ hb)) e
    have hacc₂ : h₂.PlainList D ys := hacc'.at fun o e => up₂ D o hDC hDw e
    have hJ₂ : J ys.toList h₂ := hJf _ _ _ hJ fun b o hbC hbf hbD e => up₂ b o hbC hbf e
    have hlen : ys.toList.length = ys.size := by simp
    refine wpAny_mono (helt ys.toList v h₂ _ _ (by rw [hlen]; exact hlt) (by rw [hlen]; exact hPv) hJ₂ hn₂ (by simp) (by rw [hlen]; exact hst₂) ⟨_, hacc₂⟩) (fun y s₃ h₃ => ?_) fun _ _ e => e
    obtain ⟨h₃, tk₃, rfl, hJ₃, hk₃⟩ := h₃
    refine wpAny_list_append_plain (hsz := Nat.le_trans hle hsz) (hacc₂.at fun o e => hk₃ D o (.inr (.inr rfl)) e) fun h₅ hl₅ hs₅ => ?_
    refine ⟨n + 1 - (ys.size + 1), by omega, h₅, tk₃, _, ys.push y, rfl, ?_, hl₅, (hn₂.at' fun o e => hk₃ _ o (.inl rfl) e).sameBut hs₅ (Ne.symm hDC), ?_, (by rw [Array.size_push]; exact hlt), by rw [Array.size_push]⟩
    · rw [Array.size_push]
      exact W.frame _ _ h₅ hst₂ fun b hb o e => hs₅.extBut b o (fun h => hDf (h ▸ hb)) (hk₃ b o (.inr (.inl hb)) e)
    · rw [Array.toList_push]
      exact hJf _ _ _ hJ₃ fun b o _ _ hbD e => hs₅.extBut b o hbD e
  · have hin : ys.size = n := by omega
    refine W.done _ _ _ (hin ▸ hst') fun h₁ tk₁ hk₁ => ?_
    exact hR h₁ tk₁ m' ys (hn'.at' fun o e => hk₁ _ o hCw e) (hacc'.at fun o e => hk₁ _ o hDw e) hin (hJf _ _ _ hJ fun b o _ hbf _ e => hk₁ b o hbf e)
end

section
variable {prog : Program} {w : World} {A : Around} {E : Value → Shared → Prop} {env : Env}

structure EffOn (prog : Program) (w : World) (A : Around) (env : Env) (scope : Scope) (cl : List (Str × Addr)) (x : Str) (elt : Expr) (fp wr : List Addr) (n : Nat) (P : Nat → Value → Prop) (St : Nat → Heap → Prop)
    (J : Addr → Addr → List Value → Heap → Prop) (s₂ : Shared) : Prop where
  zero : ∀ D C h, s₂.heap.get? D = none → s₂.heap.get? C = none → (∀ b o, s₂.heap.get? b = some o → h.get? b = some o) → J D C [] h
  frame : ∀ D C ys h h', s₂.heap.get? D = none → s₂.heap.get? C = none → J D C ys h → (∀ b o, b ≠ C → b ∉ wr → b ≠ D → h.get? b = some o → h'.get? b = some o) → J D C ys h'
  elt : ∀ D C ys v h₂ tk₂ m₂ E', s₂.heap.get? D = none → s₂.heap.get? C = none → ys.length < n → P ys.length v → J D C ys h₂ → h₂.Ns C m₂ → m₂ x = some v → St (ys.length + 1) h₂ → (∃ its, h₂.PlainList D its) →
    wpAny (model prog w) A (eval elt (compEnvC scope cl C env)) (fun y s₃ => ∃ h₃ tk₃, s₃ = { s₂ with heap := h₃, toks := tk₃ } ∧ J D C (ys ++ [y]) h₃ ∧ ∀ b o, (b = C ∨ b ∈ fp ∨ b = D) → h₂.get? b = some o → h₃.get? b = some o)
      E' { s₂ with heap := h₂, toks := tk₂ }

/-- what stands behind the two objects that a comprehension lays, its list D and its frame C, upon the heap g -/
structure Laid (g h : Heap) (D C : Addr) : Prop where
  low : g.objs.size ≤ C
  noD : g.get? D = none
  noC : g.get? C = none
  apart : D ≠ C
  acc : h.PlainList D #[]
  old : ∀ b o, g.get? b = some o → h.get? b = some o
theorem none_from {g : Heap} {c : Addr} (hc : g.objs.size ≤ c) : g.get? c = none := by
  rcases e : g.get? c with _ | o
  · rfl
  · exact absurd (Heap.lt_size e) (Nat.not_lt.mpr hc)
theorem Laid.of {g h : Heap} {e : Obj} (hs : Heap.SameBut (g.push { cls := .type "list", dict := none, data := .seq ([] : List Value).toArray }).objs.size ((g.push { cls := .type "list", dict := none, data := .seq ([] : List Value).toArray }).push e) h) :
    Laid g h g.objs.size (g.push { cls := .type "list", dict := none, data := .seq ([] : List Value).toArray }).objs.size := by
  have e1 : (g.push { cls := .type "list", dict := none, data := .seq ([] : List Value).toArray }).objs.size = g.objs.size + 1 := Heap.size_push ..
  have ne : g.objs.size ≠ (g.push { cls := .type "list", dict := none, data := .seq ([] : List Value).toArray }).objs.size := by rw [e1]; exact Nat.ne_of_lt (Nat.lt_succ_self _)
  have le : g.objs.size ≤ (g.push { cls := .type "list", dict := none, data := .seq ([] : List Value).toArray }).objs.size := by rw [e1]; exact Nat.le_succ _
  refine ⟨le, none_from (Nat.le_refl _), none_from le, ne, ⟨0, hs.extBut _ _ ne (Heap.get?_push_of_some _ (Heap.get?_push_size _ rfl))⟩, fun b o hb => ?_⟩
  exact hs.extBut b o (Nat.ne_of_lt (Nat.lt_of_lt_of_le (Heap.lt_size hb) le)) (Heap.get?_push_of_some _ (Heap.get?_push_of_some _ hb))

theorem eff_block {elt iter : Expr} {x : Str} {px : Pos} {scope : Scope} {cl : List (Str × Addr)} {pos : Pos} {s₂ : Shared} {I : Addr} {fp wr : List Addr} {n : Nat} {P : Nat → Value → Prop}
    {St : Nat → Heap → Prop} (W : Walks prog w A I fp wr n P St) (hsz : n ≤ sizeLine) {J : Addr → Addr → List Value → Heap → Prop} {RR : Value → Addr → Result → Shared → Prop}
    (hcell : ∀ y ∈ scope.names, y.2 ≠ .cell) (hkind : scope.kind = .function) (hx : scope.names.lookup x = some .local) (hst : St 0 s₂.heap) (hfp : ∀ b ∈ fp, b < s₂.heap.objs.size)
    (hq : EffOn prog w A env scope cl x elt fp wr n P St J s₂)
    (hRR : ∀ D C h' tk m' ys, s₂.heap.get? D = none → s₂.heap.get? C = none → D ≠ C → h'.Ns C m' → h'.PlainList D ys → ys.size = n → J D C ys.toList h' → RR (.ref D) C (.ok .next) { s₂ with heap := h', toks := tk }) :
    wpAny (model prog w) A (newList []) (fun acc s₃ => wpAny (model prog w) A (newFunctionEnv scope env.globals cl [] env.qual none .none (some env)) (fun cenv s₄ =>
      codeAny (model prog w) A (.compStart (.ListComp elt [⟨.Name x px, iter, [], 0⟩] scope pos) 0 (.ref I) acc { cenv with scope := relabel scope env }) (RR acc cenv.locals) s₄) E s₃) E s₂ := by
  refine wpAny_newObj_type (wpAny_newFunctionEnv hcell (fun z hz => by simp at hz) (fun h₁ hns hsb => ?_) hkind)
  have Y := Laid.of hsb
  dsimp only at hns Y ⊢
  have run (s₃ : Shared) (e : s₃ = { s₂ with heap := h₁, toks := s₂.toks + ([] : List (Str × Value)).length }) :
      codeAny (model prog w) A (.compLoop (.ListComp elt [⟨.Name x px, iter, [], 0⟩] scope pos) 0 (.ref I) (.ref s₂.heap.objs.size) (compEnvC scope cl (s₂.heap.push { cls := .type "list", dict := none, data := .seq ([] : List Value).toArray }).objs.size env))
        (RR (.ref s₂.heap.objs.size) (s₂.heap.push { cls := .type "list", dict := none, data := .seq ([] : List Value).toArray }).objs.size) s₃ := by
    subst e
    exact eff_loop (cenv := compEnvC scope cl (s₂.heap.push { cls := .type "list", dict := none, data := .seq ([] : List Value).toArray }).objs.size env) W (J _ _) (lookup_relabel_local hx) (by simp [compEnvC, relabel, hkind]) Y.apart (fun hm => absurd (hfp _ hm) (Nat.lt_irrefl _))
      (fun hm => absurd (hfp _ hm) (Nat.not_lt.mpr Y.low)) (W.frame _ _ _ hst fun b _ o => Y.old b o) Y.acc hns (hq.zero _ _ _ Y.noD Y.noC Y.old)
      (fun _ _ _ => hq.frame _ _ _ _ _ Y.noD Y.noC) (fun _ _ _ _ _ => hq.elt _ _ _ _ _ _ _ _ Y.noD Y.noC) (fun _ _ _ _ => hRR _ _ _ _ _ _ Y.noD Y.noC Y.apart) hsz
  exact codeAny_compStart_list (run _ rfl) (W.self 0 _ _ _ (W.frame _ _ _ hst fun b _ o => Y.old b o) (run _ rfl))

theorem eff_eval {s : Shared} {elt iter : Expr} {x : Str} {px : Pos} {scope : Scope} {cl : List (Str × Addr)} {pos : Pos} {Q : Value → Shared → Prop}
    (hclos : closureFor scope env = pure cl) (hcell : ∀ y ∈ scope.names, y.2 ≠ .cell) (hkind : scope.kind = .function)
    (hnames : ∀ y ∈ scope.names, y.2 = .local → scope.names.lookup y.1 = some .local) (hx : scope.names.lookup x = some .local)
    (h : wpAny (model prog w) A (eval iter env) (fun xv s₁ => StopP (wpAny (model prog w) A (pyIter xv) (fun it s₂ => ∃ I fp wr n P St J, it = .ref I ∧ Walks prog w A I fp wr n P St ∧ n ≤ sizeLine ∧ St 0 s₂.heap ∧ (∀ b ∈ fp, b < s₂.heap.objs.size) ∧
      EffOn prog w A env scope cl x elt fp wr n P St J s₂ ∧
      (∀ D C h' tk ys, s₂.heap.get? D = none → s₂.heap.get? C = none → D ≠ C → h'.PlainList D ys → ys.size = n → J D C ys.toList h' → Q (.ref D) { s₂ with heap := h', toks := tk })) E s₁)) E s)
    (hs : ∀ x, foldedSetIterable iter env x = pure x := by intro _; rfl) :
    wpAny (model prog w) A (eval (.ListComp elt [⟨.Name x px, iter, [], 0⟩] scope pos) env) Q E s := by
  rw [eval_ListComp]
  refine wpAny_comprehension_free (use := none) rfl hs hclos hkind hnames (wpAny_mono h (fun xv s₁ h₁ => wpAny_mono h₁.out (fun it s₂ h₂ => ?_) fun _ _ e => e) fun _ _ e => e)
  obtain ⟨I, fp, wr, n, P, St, J, rfl, W, hsz, hst, hfp, hq, hQ⟩ := h₂
  refine eff_block (RR := fun acc C => compPost (model prog w) A E none Q acc C) W hsz hcell hkind hx hst hfp hq ?_
  intro D C h' tk m' ys hD hC hDC hn hpl hlen hJ
  exact ⟨m', hn, fun h'' hs'' => hQ D C h'' tk ys hD hC hDC (hpl.extBut hs''.extBut hDC) hlen (hq.frame D C _ _ _ hD hC hJ fun b o hb _ _ e => hs''.extBut b o hb e)⟩

theorem eff_assign {s : Shared} {elt iter : Expr} {x y : Str} {px py : Pos} {scope : Scope} {cl : List (Str × Addr)} {pos spos : Pos} {Q : Flow → Shared → Prop}
    (hsw : swapsWith (.ListComp elt [⟨.Name x px, iter, [], 0⟩] scope pos) (some (.Name y py)) spos.line env = pure true)
    (hclos : closureFor scope env = pure cl) (hcell : ∀ z ∈ scope.names, z.2 ≠ .cell) (hkind : scope.kind = .function)
    (hnames : ∀ z ∈ scope.names, z.2 = .local → scope.names.lookup z.1 = some .local) (hx : scope.names.lookup x = some .local)
    (hy : env.kindOf y = some .local) (hp : (env.scope.kind == .class || (env.scope.kind == .module && env.locals != env.globals)) = false)
    (h : wpAny (model prog w) A (eval iter env) (fun xv s₁ => StopP (wpAny (model prog w) A (pyIter xv) (fun it s₂ => ∃ I fp wr n P St J m, it = .ref I ∧ Walks prog w A I fp wr n P St ∧ n ≤ sizeLine ∧ St 0 s₂.heap ∧ (∀ b ∈ fp, b < s₂.heap.objs.size) ∧
      s₂.heap.Ns env.locals m ∧ (∀ D C ys h', s₂.heap.get? D = none → s₂.heap.get? C = none → J D C ys h' → h'.Ns env.locals m) ∧
      EffOn prog w A env scope cl x elt fp wr n P St J s₂ ∧
      (∀ D C h₁ h' tk ys, s₂.heap.get? D = none → s₂.heap.get? C = none → D ≠ C → h₁.PlainList D ys → ys.size = n → J D C ys.toList h₁ →
        h'.Ns env.locals (fun z => if z = y then some (.ref D) else m z) → (∀ b o, b ≠ env.locals → b ≠ C → h₁.get? b = some o → h'.get? b = some o) → Q .next { s₂ with heap := h', toks := tk })) E s₁)) E s)
    (hs : ∀ x, foldedSetIterable iter env x = pure x := by intro _; rfl) :
    wpAny (model prog w) A (exec (.Assign [.Name y py] (.ListComp elt [⟨.Name x px, iter, [], 0⟩] scope pos) spos) env) Q E s := by
  rw [exec_Assign_Name_used _ _ _ _ hsw]
  refine wpAny_bind (wpAny_standAt (wpAny_bind ?_))
  show wpAny _ A (do let _ ← comprehension (.ListComp elt [⟨.Name x px, iter, [], 0⟩] scope pos) scope env _ (newList []) false (eval iter env) (some (assign (.Name y py) env))) _ _ s
  refine wpAny_bind (wpAny_mono (wpAny_comprehension_free (use := some (assign (.Name y py) env)) (Q := fun _ s' => Q .next s') rfl hs hclos hkind hnames
    (wpAny_mono h (fun xv s₁ h₁ => wpAny_mono h₁.out (fun it s₂ h₂ => ?_) fun _ _ e => e) fun _ _ e => e)) (fun _ s' hq => wpAny_pure (wpAny_pure hq)) fun _ _ e => e)
  obtain ⟨I, fp, wr, n, P, St, J, m, rfl, W, hsz, hst, hfp, hn, hJn, hq, hQ⟩ := h₂
  refine eff_block (RR := fun acc C => compPost (model prog w) A E (some (assign (.Name y py) env)) (fun _ s' => Q .next s') acc C) W hsz hcell hkind hx hst hfp hq ?_
  intro D C h' tk m' ys hD hC hDC hnC hplD hlen hJ
  have hLC : env.locals ≠ C := by rintro rfl; obtain ⟨o, _, _, ho, _⟩ := hn; rw [hC] at ho; cases ho
  have hLD : env.locals ≠ D := by rintro rfl; obtain ⟨o, _, _, ho, _⟩ := hn; rw [hD] at ho; cases ho
  show wpAny _ A (assign (.Name y py) env (.ref D)) _ _ _
  refine wpAny_assign_Name (wpAny_storeName_local hy (hJn D C _ _ hD hC hJ) (fun h₂ hn₂ hs₂ => ?_) hp)
  refine ⟨m', hnC.sameBut hs₂ (Ne.symm hLC), fun h₃ hs₃ => ?_⟩
  exact hQ D C h' h₃ _ ys hD hC hDC hplD hlen hJ (hn₂.sameBut hs₃ hLC) fun b o hbL hbC e => hs₃.extBut b o hbC (hs₂.extBut b o hbL e)
end
end Comp1

section Call1
theorem patch_call {w : World} {A₀ A : Around} {base h₀ : Heap} {outer : List Env} {L : Addr} {m : Str → Option Value} {s : Shared} {env : Env} {mg mb : Str → Option Value} {mean : ExcName → Option Value}
    {q : Addr} {a b many : Int} {ta tb tm : Tok} {n : Nat} {news : List (Addr × Obj)} {upd : Obj → List (Addr × Obj)} {Q E : Value → Shared → Prop}
    (B : Below A₀ base outer h₀) (F : Fr h₀ L s.heap m) (X : (Mine.hd.heap_39 w.params).In h₀) (T : Top Mine.hd.view_39 (looseW Mine.hd.view_39 []) mean mg mb h₀)
    (N : News h₀ L s.heap news) (hU : ∀ o', Upd q (PySem.W.listOf #[.int a ta, .int b tb] n) o' news (upd o'))
    (hA : A.frames = some (env :: outer)) (hf : env.frame = some L) (hke : env.scope.kind = .function) (hroom : A.depth < recursionLimit) (hh : A.handled = none)
    (hm0 : 0 < many) (hm1 : many ≤ 256) (ha : 0 ≤ a) (hb0 : 0 ≤ b) (hb1 : b < 65284)
    (h : ∀ (v : Int) (tv : Tok) (h' : Heap) (tk' : Nat) (a' b' : Int) (ta' tb' : Tok) (n' : Nat), 0 ≤ v → v < many → 0 ≤ a' → 0 ≤ b' → b' < 65284 →
      Fr h₀ L h' m → News h₀ L h' (upd (PySem.W.listOf #[.int a' ta', .int b' tb'] n')) → Q (.int v tv) { s with heap := h', toks := tk' }) :
    wpAny (model PySem.Challenge.rw_xm0802_01.row.prog w) A (call (.ref 91) [.ref q, .int many tm]) Q E s := by
  obtain ⟨pre, post, e1, _, h1, h2⟩ := (hU (PySem.W.listOf #[.int a ta, .int b tb] n)).split
  have hq : (q, PySem.W.listOf #[.int a ta, .int b tb] n) ∈ news := by rw [e1]; simp
  refine patch_spec B F X T (fun p hp => by rw [List.mem_singleton.mp hp]; exact N _ hq) hA hf hke hroom hh hm0 hm1 ha hb0 hb1 fun v tv h' tk' a' b' ta' tb' n' x1 x2 x3 x4 x5 k F' N' => ?_
  refine h v tv h' tk' a' b' ta' tb' n' x1 x2 x3 x4 x5 F' ?_
  obtain ⟨pre', post', e1', e2', h1', h2'⟩ := (hU (PySem.W.listOf #[.int a' ta', .int b' tb'] n')).split
  rw [e2']
  intro p hp
  rcases List.mem_append.mp hp with hp | hp
  · have y := N p (by rw [e1']; exact List.mem_append_left _ hp)
    exact ⟨k _ _ y.1 (h1' p hp), y.2⟩
  · rcases List.mem_cons.mp hp with rfl | hp
    · exact N' _ (.head _)
    · have y := N p (by rw [e1']; exact List.mem_append_right _ (.tail _ hp))
      exact ⟨k _ _ y.1 (h2' p hp), y.2⟩

theorem mean_call {w : World} {A₀ : Around} {base h₀ : Heap} {L : Addr} {m : Str → Option Value} {s : Shared} {env : Env} {mg mb : Str → Option Value} {mean : ExcName → Option Value} {news : List (Addr × Obj)}
    {pl dx R : Addr} {refs : List Value} {led : List (Addr × Obj)} {G : List (List Int)} {W nR : Nat} {tW tH t1 t2 t3 tx ty ta td : Tok} {k1 k2 k3 : Int} {x y a d : Int} {Q E : Value → Shared → Prop}
    (B : Below A₀ base [] h₀) (F : Fr h₀ L s.heap m) (X : (Mine.hd.heap_39 w.params).In h₀) (T : Top Mine.hd.view_39 (looseW Mine.hd.view_39 []) mean mg mb h₀)
    (N : News h₀ L s.heap news)
    (hsub : ∀ p ∈ ((pl, instObj 66 dx) :: (dx, dictOf [{ hash := k1, key := .str (Str.ofString "width") t1, val := .int (W : Int) tW }, { hash := k2, key := .str (Str.ofString "height") t2, val := .int (G.length : Int) tH }, { hash := k3, key := .str (Str.ofString "rows") t3, val := .ref R }] 3) :: (R, PySem.W.listOf (List.toArray refs) nR) :: led), p ∈ news)
    (hf : env.frame = some L) (hke : env.scope.kind = .function)
    (hR : RowsIn led refs G W) (hW0 : 1 ≤ W) (hW1 : W ≤ 6) (hG0 : 1 ≤ G.length) (hG1 : G.length ≤ 5) (hx0 : 0 ≤ x) (hx1 : x ≤ 3) (hy0 : 0 ≤ y) (hy1 : y ≤ 2)
    (ha0 : 1 ≤ a) (ha1 : a ≤ 4) (hd0 : 1 ≤ d) (hd1 : d ≤ 4)
    (hQ : ∀ (tv : Tok) (h' : Heap) (tk' : Nat), Fr h₀ L h' m → News h₀ L h' news → Q (.int ((meanN G W x y a d + biasF x a d).fdiv (a * d)) tv) { s with heap := h', toks := tk' }) :
    wpAny (model PySem.Challenge.rw_xm0802_01.row.prog w) (callerA.deeper env) (call (.ref 28) [.ref pl, .int x tx, .int y ty, .int a ta, .int d td]) Q E s :=
  mean_spec B F X T (fun p hp => N p (hsub p hp)) hf hke hR hW0 hW1 hG0 hG1 hx0 hx1 hy0 hy1 ha0 ha1 hd0 hd1 fun tv h' tk' k F' => hQ tv h' tk' F' (N.grown k)
end Call1

section Rows1
abbrev quiltO (a b : Int) (ta tb : Tok) (n : Nat) : Obj := PySem.W.listOf #[.int a ta, .int b tb] n
structure Q5 (a b : Int) : Prop where
  a0 : 0 ≤ a
  b0 : 0 ≤ b
  b1 : b < 65284

theorem fr_but {h₀ h h' : Heap} {L q : Addr} {m : Str → Option Value} (F : Fr h₀ L h m) (hL : q ≠ L) (hq : h₀.get? q = none) (k : ∀ c o, h.get? c = some o → c ≠ q → h'.get? c = some o) : Fr h₀ L h' m :=
  ⟨F.ns.at' fun o e => k _ o e (Ne.symm hL), fun b o e => k b o (F.keep b o e) (by rintro rfl; rw [hq] at e; cases e), F.above⟩
theorem news_but {h₀ h h' : Heap} {L q : Addr} {o o' : Obj} {rest : List (Addr × Obj)} (N : News h₀ L h ((q, o) :: rest)) (hne : ∀ p ∈ rest, p.1 ≠ q) (k : ∀ c o, h.get? c = some o → c ≠ q → h'.get? c = some o) (hq : h'.get? q = some o') :
    News h₀ L h' ((q, o') :: rest) := by
  intro p hp
  rcases List.mem_cons.mp hp with rfl | hp
  · exact ⟨hq, (N _ (.head _)).2⟩
  · have y := N p (.tail _ hp)
    exact ⟨k _ _ y.1 (hne p hp), y.2⟩
theorem ints_snoc {vs : List Value} {ns : List Int} (h : IntsAre vs ns) (v : Int) (t : Tok) : IntsAre (vs ++ [.int v t]) (ns ++ [v]) := IntsAre.append h (.cons v t .nil)
theorem rows_snoc {led : List (Addr × Obj)} {refs vs : List Value} {G : List (List Int)} {W k : Nat} {r : Addr} {ns : List Int} (h : RowsIn led refs G W) (hi : IntsAre vs ns) (hl : ns.length = W) :
    RowsIn ((r, PySem.W.listOf (List.toArray vs) k) :: led) (refs ++ [.ref r]) (G ++ [ns]) W := by
  obtain ⟨h1, h2⟩ := h
  refine ⟨by simp [h1], fun i ms e => ?_⟩
  rcases Nat.lt_trichotomy i G.length with hlt | rfl | hgt
  · rw [List.getElem?_append_left hlt] at e
    obtain ⟨a1, r', vs', k', a2, a3, a4⟩ := h2 i ms e
    exact ⟨a1, r', vs', k', by rw [List.getElem?_append_left (by omega)]; exact a2, .tail _ a3, a4⟩
  · simp at e
    subst e
    exact ⟨hl, r, vs, k, by rw [← h1]; simp, .head _, hi⟩
  · rw [List.getElem?_eq_none (by rw [List.length_append, List.length_singleton]; omega)] at e
    cases e

section
variable {prog : Program} {w : World} {A : Around} {E : Value → Shared → Prop} {env : Env} {s : Shared} {h₀ : Heap} {L q r : Addr} {m : Str → Option Value} {rest : List (Addr × Obj)}

def IntStep (h₀ : Heap) (L q : Addr) (rest : List (Addr × Obj)) (s : Shared) (h₂ : Heap) (y : Value) (s₃ : Shared) : Prop :=
  ∃ h₃ tk₃ v t a' b' ta' tb' n', s₃ = { s with heap := h₃, toks := tk₃ } ∧ y = .int v t ∧ Q5 a' b' ∧ News h₀ L h₃ ((q, quiltO a' b' ta' tb' n') :: rest) ∧ ∀ c o, h₂.get? c = some o → c ≠ q → h₃.get? c = some o

theorem ints_go {scope : Scope} {cl : List (Str × Addr)} {x : Str} {elt : Expr} {a b : Int} {ta tb : Tok} {n : Nat} {W : Int} {t u v : Tok} {Q : Value → Shared → Prop}
    (hh : A.handled = none) (hr : IsRange s.heap r 0 W 1 t u v) (hW0 : 0 ≤ W) (hW1 : W ≤ 100) (F : Fr h₀ L s.heap m) (N : News h₀ L s.heap ((q, quiltO a b ta tb n) :: rest)) (hne : ∀ p ∈ rest, p.1 ≠ q) (h5 : Q5 a b)
    (helt : ∀ C h₂ tk₂ m₂ a b ta tb n E', Q5 a b → Fr h₀ L h₂ m → News h₀ L h₂ ((q, quiltO a b ta tb n) :: rest) → h₂.Ns C m₂ →
      wpAny (model prog w) A (eval elt (compEnvC scope cl C env)) (fun y s₃ => StopP (IntStep h₀ L q rest s h₂ y s₃)) E' { s with heap := h₂, toks := tk₂ })
    (hQ : ∀ D h' tk vs k ns a' b' ta' tb' n', Q5 a' b' → s.heap.get? D = none → h'.get? D = some (PySem.W.listOf (List.toArray vs) k) → IntsAre vs ns → ns.length = W.toNat →
      News h₀ L h' ((q, quiltO a' b' ta' tb' n') :: rest) → (∀ c o, s.heap.get? c = some o → c ≠ q → h'.get? c = some o) → Q (.ref D) { s with heap := h', toks := tk }) :
    wpAny (model prog w) A (pyIter (.ref r)) (fun it s₂ => ∃ I fp wr n P St J, it = .ref I ∧ Walks prog w A I fp wr n P St ∧ n ≤ sizeLine ∧ St 0 s₂.heap ∧ (∀ b ∈ fp, b < s₂.heap.objs.size) ∧
      EffOn prog w A env scope cl x elt fp wr n P St J s₂ ∧
      (∀ D C h' tk ys, s₂.heap.get? D = none → s₂.heap.get? C = none → D ≠ C → h'.PlainList D ys → ys.size = n → J D C ys.toList h' → Q (.ref D) { s₂ with heap := h', toks := tk })) E s := by
  have hq := N _ (.head _)
  have hqs : q < s.heap.objs.size := Heap.lt_size hq.1
  refine wpAny_pyIter_range hr (small_one (by omega) (by omega) (by omega) (by omega)) ?_
  refine ⟨s.heap.objs.size, [s.heap.objs.size], [s.heap.objs.size], W.toNat, _, _,
    fun D C ys h => (∃ a b ta tb n, Q5 a b ∧ h.get? q = some (quiltO a b ta tb n)) ∧ (∀ c o, s.heap.get? c = some o → c ≠ q → h.get? c = some o) ∧ ∃ ns, IntsAre ys ns,
    rfl, Walks.range hh _ 0 1 W.toNat, (by rw [PySem.sizeLine_eq]; omega), ?_, ?_, ⟨?_, ?_, ?_⟩, ?_⟩
  · show IsRangeIter _ _ _ _ _
    rw [rangeSize_nat]
    simpa using Heap.get?_push_size _ rfl
  · intro b hb
    rw [List.mem_singleton.mp hb]
    simp [Heap.size_push]
  · intro D C h _ _ k
    exact ⟨⟨a, b, ta, tb, n, h5, k _ _ (Heap.get?_push_of_some _ hq.1)⟩, fun c o e _ => k _ _ (Heap.get?_push_of_some _ e), [], .nil⟩
  · rintro D C ys h h' hD hC ⟨⟨a, b, ta, tb, n, h5, hq'⟩, hk, hi⟩ k
    have off : ∀ c o, s.heap.get? c = some o → c ≠ C ∧ c ∉ [s.heap.objs.size] ∧ c ≠ D := fun c o e => by
      have e' := Heap.get?_push_of_some { cls := .type "range_iterator", data := .fields #[rawInt 0, rawInt (Builtin.Range.rangeSize 0 W 1), rawInt 1] } e
      refine ⟨?_, ?_, ?_⟩
      · rintro rfl; rw [hC] at e'; cases e'
      · intro hm; rw [List.mem_singleton.mp hm] at e; exact absurd (Heap.lt_size e) (Nat.lt_irrefl _)
      · rintro rfl; rw [hD] at e'; cases e'
    obtain ⟨o1, o2, o3⟩ := off q _ hq.1
    refine ⟨⟨a, b, ta, tb, n, h5, k _ _ o1 o2 o3 hq'⟩, fun c o e hc => ?_, hi⟩
    obtain ⟨o1, o2, o3⟩ := off c _ e
    exact k _ _ o1 o2 o3 (hk c o e hc)
  · rintro D C ys v h₂ tk₂ m₂ E' hD hC hlt _ ⟨⟨a, b, ta, tb, n, h5, hq'⟩, hk, ns, hi⟩ hn _ hst ⟨its, hDl⟩
    have F₂ := fr_but F hq.2.1 hq.2.2 hk
    have N₂ := news_but N hne hk hq'
    refine wpAny_mono (helt C h₂ tk₂ m₂ a b ta tb n E' h5 F₂ N₂ hn) (fun y s₃ p => ?_) fun _ _ e => e
    obtain ⟨h₃, tk₃, v, t, a', b', ta', tb', n', rfl, rfl, h5', N₃, k₃⟩ := p.out
    have hq₃ := (N₃ _ (.head _)).1
    have off : ∀ b, (b = C ∨ b ∈ [s.heap.objs.size] ∨ b = D) → b ≠ q := by
      have hqp := Heap.get?_push_of_some { cls := .type "range_iterator", data := .fields #[rawInt 0, rawInt (Builtin.Range.rangeSize 0 W 1), rawInt 1] } hq.1
      rintro b (rfl | hb | rfl) rfl
      · rw [hC] at hqp; cases hqp
      · rw [List.mem_singleton.mp hb] at hqs; exact Nat.lt_irrefl _ hqs
      · rw [hD] at hqp; cases hqp
    refine ⟨h₃, tk₃, rfl, ⟨⟨a', b', ta', tb', n', h5', hq₃⟩, fun c o e hc => k₃ _ _ (hk c o e hc) hc, ns ++ [v], ints_snoc hi v t⟩, fun b o hb e => k₃ b o e (off b hb)⟩
  · rintro D C h' tk ys hD hC hDC ⟨k, hp⟩ hsz ⟨⟨a', b', ta', tb', n', h5', hq'⟩, hk, ns, hi⟩
    have hDs : s.heap.get? D = none := by
      cases e : s.heap.get? D with
      | none => rfl
      | some o => rw [Heap.get?_push_of_some _ e] at hD; cases hD
    refine hQ D h' tk ys.toList k ns a' b' ta' tb' n' h5' hDs (by simpa using hp) hi ?_ (news_but N hne hk hq') hk
    rw [← hi.length]; simpa using hsz

def RowStep (h₀ : Heap) (L q : Addr) (rest : List (Addr × Obj)) (W : Nat) (s : Shared) (h₂ : Heap) (y : Value) (s₃ : Shared) : Prop :=
  ∃ h₃ tk₃ D vs k ns a' b' ta' tb' n', s₃ = { s with heap := h₃, toks := tk₃ } ∧ y = .ref D ∧ Q5 a' b' ∧ h₂.get? D = none ∧ h₃.get? D = some (PySem.W.listOf (List.toArray vs) k) ∧ IntsAre vs ns ∧ ns.length = W ∧
    News h₀ L h₃ ((q, quiltO a' b' ta' tb' n') :: rest) ∧ ∀ c o, h₂.get? c = some o → c ≠ q → h₃.get? c = some o

theorem rows_go {scope : Scope} {cl : List (Str × Addr)} {x y : Str} {elt : Expr} {a b : Int} {ta tb : Tok} {n W : Nat} {H : Int} {t u v : Tok} {Q : Flow → Shared → Prop}
    (hh : A.handled = none) (hr : IsRange s.heap r 0 H 1 t u v) (hH0 : 0 ≤ H) (hH1 : H ≤ 100) (F : Fr h₀ L s.heap m) (hL : env.locals = L) (N : News h₀ L s.heap ((q, quiltO a b ta tb n) :: rest)) (hne : ∀ p ∈ rest, p.1 ≠ q) (h5 : Q5 a b)
    (helt : ∀ C h₂ tk₂ m₂ a b ta tb n E', Q5 a b → Fr h₀ L h₂ m → News h₀ L h₂ ((q, quiltO a b ta tb n) :: rest) → h₂.Ns C m₂ →
      wpAny (model prog w) A (eval elt (compEnvC scope cl C env)) (fun y s₃ => StopP (RowStep h₀ L q rest W s h₂ y s₃)) E' { s with heap := h₂, toks := tk₂ })
    (hQ : ∀ D h' tk refs k led G a' b' ta' tb' n', Q5 a' b' → RowsIn led refs G W → G.length = H.toNat → (∀ p ∈ led, p.1 ≠ q) → D ≠ q → (∀ p ∈ led, p.1 ≠ D) →
      Fr h₀ L h' (fun z => if z = y then some (.ref D) else m z) → News h₀ L h' ((D, PySem.W.listOf (List.toArray refs) k) :: (q, quiltO a' b' ta' tb' n') :: (rest ++ led)) → Q .next { s with heap := h', toks := tk }) :
    wpAny (model prog w) A (pyIter (.ref r)) (fun it s₂ => ∃ I fp wr n P St J m, it = .ref I ∧ Walks prog w A I fp wr n P St ∧ n ≤ sizeLine ∧ St 0 s₂.heap ∧ (∀ b ∈ fp, b < s₂.heap.objs.size) ∧
      s₂.heap.Ns env.locals m ∧ (∀ D C ys h', s₂.heap.get? D = none → s₂.heap.get? C = none → J D C ys h' → h'.Ns env.locals m) ∧
      EffOn prog w A env scope cl x elt fp wr n P St J s₂ ∧
      (∀ D C h₁ h' tk ys, s₂.heap.get? D = none → s₂.heap.get? C = none → D ≠ C → h₁.PlainList D ys → ys.size = n → J D C ys.toList h₁ →
        h'.Ns env.locals (fun z => if z = y then some (.ref D) else m z) → (∀ b o, b ≠ env.locals → b ≠ C → h₁.get? b = some o → h'.get? b = some o) → Q .next { s₂ with heap := h', toks := tk })) E s := by
  subst hL
  have hq := N _ (.head _)
  have hqs : q < s.heap.objs.size := Heap.lt_size hq.1
  refine wpAny_pyIter_range hr (small_one (by omega) (by omega) (by omega) (by omega)) ?_
  have ups : ∀ {c : Addr} {o : Obj}, s.heap.get? c = some o → (s.heap.push { cls := .type "range_iterator", data := .fields #[rawInt 0, rawInt (Builtin.Range.rangeSize 0 H 1), rawInt 1] }).get? c = some o := fun e => Heap.get?_push_of_some _ e
  refine ⟨s.heap.objs.size, [s.heap.objs.size], [s.heap.objs.size], H.toNat, _, _,
    fun D C ys h => (∃ a b ta tb n, Q5 a b ∧ h.get? q = some (quiltO a b ta tb n)) ∧ (∀ c o, s.heap.get? c = some o → c ≠ q → h.get? c = some o) ∧
      ∃ led G, RowsIn led ys G W ∧ ∀ p ∈ led, h.get? p.1 = some p.2 ∧ s.heap.get? p.1 = none ∧ p.1 ≠ D ∧ p.1 ≠ C ∧ p.1 ≠ s.heap.objs.size, m,
    rfl, Walks.range hh _ 0 1 H.toNat, (by rw [PySem.sizeLine_eq]; omega), ?_, ?_, ?_, ?_, ⟨?_, ?_, ?_⟩, ?_⟩
  · show IsRangeIter _ _ _ _ _
    rw [rangeSize_nat]
    simpa using Heap.get?_push_size _ rfl
  · intro b hb
    rw [List.mem_singleton.mp hb]
    simp [Heap.size_push]
  · exact (F.push _).ns
  · rintro D C ys h' hD hC ⟨_, hk, _⟩
    exact (fr_but F hq.2.1 hq.2.2 hk).ns
  · intro D C h _ _ k
    exact ⟨⟨a, b, ta, tb, n, h5, k _ _ (ups hq.1)⟩, fun c o e _ => k _ _ (ups e), [], [], ⟨rfl, fun i ns e => by simp at e⟩, fun p hp => nomatch hp⟩
  · rintro D C ys h h' hD hC ⟨⟨a, b, ta, tb, n, h5, hq'⟩, hk, led, G, hR, hl⟩ k
    have off : ∀ c o, s.heap.get? c = some o → c ≠ C ∧ c ∉ [s.heap.objs.size] ∧ c ≠ D := fun c o e => by
      refine ⟨?_, ?_, ?_⟩
      · rintro rfl; rw [ups e] at hC; cases hC
      · intro hm; rw [List.mem_singleton.mp hm] at e; exact absurd (Heap.lt_size e) (Nat.lt_irrefl _)
      · rintro rfl; rw [ups e] at hD; cases hD
    obtain ⟨o1, o2, o3⟩ := off q _ hq.1
    refine ⟨⟨a, b, ta, tb, n, h5, k _ _ o1 o2 o3 hq'⟩, fun c o e hc => ?_, led, G, hR, fun p hp => ?_⟩
    · obtain ⟨o1, o2, o3⟩ := off c _ e
      exact k _ _ o1 o2 o3 (hk c o e hc)
    · obtain ⟨p1, p2, p3, p4, p5⟩ := hl p hp
      exact ⟨k _ _ p4 (by simpa using p5) p3 p1, p2, p3, p4, p5⟩
  · rintro D C ys v h₂ tk₂ m₂ E' hD hC hlt _ ⟨⟨a, b, ta, tb, n, h5, hq'⟩, hk, led, G, hR, hl⟩ hn _ hst ⟨its, cnt, hDl⟩
    have F₂ := fr_but F hq.2.1 hq.2.2 hk
    have N₂ := news_but N hne hk hq'
    obtain ⟨oC, _, _, hoC, _⟩ := id hn
    have hoI : h₂.get? s.heap.objs.size = some _ := hst
    refine wpAny_mono (helt C h₂ tk₂ m₂ a b ta tb n E' h5 F₂ N₂ hn) (fun y s₃ p => ?_) fun _ _ e => e
    obtain ⟨h₃, tk₃, D', vs, k, ns, a', b', ta', tb', n', rfl, rfl, h5', hD2, hD3, hi, hlen, N₃, k₃⟩ := p.out
    have hq₃ := (N₃ _ (.head _)).1
    have off : ∀ b, (b = C ∨ b ∈ [s.heap.objs.size] ∨ b = D) → b ≠ q := by
      rintro b (rfl | hb | rfl) rfl
      · rw [ups hq.1] at hC; cases hC
      · rw [List.mem_singleton.mp hb] at hqs; exact Nat.lt_irrefl _ hqs
      · rw [ups hq.1] at hD; cases hD
    refine ⟨h₃, tk₃, rfl, ⟨⟨a', b', ta', tb', n', h5', hq₃⟩, fun c o e hc => k₃ _ _ (hk c o e hc) hc, _, _, rows_snoc (k := k) (r := D') hR hi hlen, fun p hp => ?_⟩, fun b o hb e => k₃ b o e (off b hb)⟩
    rcases List.mem_cons.mp hp with rfl | hp
    · refine ⟨hD3, ?_, ?_, ?_, ?_⟩
      · cases e : s.heap.get? D' with
        | none => rfl
        | some o =>
          have hDq : D' ≠ q := by rintro rfl; rw [hq'] at hD2; cases hD2
          rw [hk _ _ e hDq] at hD2; cases hD2
      · rintro rfl; rw [hDl] at hD2; cases hD2
      · rintro rfl; rw [hoC] at hD2; cases hD2
      · rintro rfl; rw [hoI] at hD2; cases hD2
    · obtain ⟨p1, p2, p3, p4, p5⟩ := hl p hp
      exact ⟨k₃ _ _ p1 (by rintro rfl; rw [hq.1] at p2; cases p2), p2, p3, p4, p5⟩
  · rintro D C h₁ h' tk ys hD hC hDC ⟨k, hp⟩ hsz ⟨⟨a', b', ta', tb', n', h5', hq'⟩, hk, led, G, hR, hl⟩ hns kk
    have hp2 : h₁.get? D = some (PySem.W.listOf (List.toArray ys.toList) k) := by rw [Array.toArray_toList]; exact hp
    have nD : s.heap.get? D = none := by
      cases e : s.heap.get? D with
      | none => rfl
      | some o => rw [ups e] at hD; cases hD
    have nC : s.heap.get? C = none := by
      cases e : s.heap.get? C with
      | none => rfl
      | some o => rw [ups e] at hC; cases hC
    have old : ∀ c o, s.heap.get? c = some o → c ≠ q → c ≠ env.locals → h'.get? c = some o := fun c o e hc hcl => kk c o hcl (by rintro rfl; rw [nC] at e; cases e) (hk c o e hc)
    obtain ⟨oL, _, _, hoL, _⟩ := id F.ns
    have fresh0 : ∀ c, s.heap.get? c = none → h₀.get? c = none := fun c e => by
      cases e' : h₀.get? c with
      | none => rfl
      | some o => rw [F.keep _ _ e'] at e; cases e
    have neL : ∀ c, s.heap.get? c = none → c ≠ env.locals := fun c e => by rintro rfl; rw [hoL] at e; cases e
    refine hQ D h' tk ys.toList k led G a' b' ta' tb' n' h5' hR ?_ ?_ ?_ ?_ ⟨hns, ?_, F.above⟩ ?_
    · have := hR.1; rw [← this]; simpa using hsz
    · intro p hp e; have := (hl p hp).2.1; rw [e, hq.1] at this; cases this
    · rintro rfl; rw [hq.1] at nD; cases nD
    · intro p hp; exact (hl p hp).2.2.1
    · intro b o e
      have hb := F.keep b o e
      exact old b o hb (by rintro rfl; rw [hq.2.2] at e; cases e) (Nat.ne_of_lt (Nat.lt_of_lt_of_le (Heap.lt_size e) F.above))
    · intro p hp
      rcases List.mem_cons.mp hp with rfl | hp
      · exact ⟨kk _ _ (neL _ nD) hDC hp2, neL _ nD, fresh0 _ nD⟩
      rcases List.mem_cons.mp hp with rfl | hp
      · exact ⟨kk _ _ hq.2.1 (by rintro rfl; rw [hq.1] at nC; cases nC) hq', hq.2⟩
      rcases List.mem_append.mp hp with hp | hp
      · have y := N p (.tail _ hp)
        exact ⟨old _ _ y.1 (hne p hp) y.2.1, y.2⟩
      · obtain ⟨p1, p2, p3, p4, p5⟩ := hl p hp
        exact ⟨kk _ _ (neL _ p2) p4 p1, neL _ p2, fresh0 _ p2⟩
end
end Rows1

section Body1
def lawStmt : Stmt := match PySem.Challenge.pw_xm0802_01.main.body.getLast? with | some x => x | none => .Pass default
def lawBody : List Stmt := match lawStmt with | .FunctionDef _ _ body _ _ _ _ _ _ _ => body | _ => []
def lawScope : PySem.Scope := match lawStmt with | .FunctionDef _ _ _ _ _ _ scope _ _ _ => scope | _ => default
def turnBody : List Stmt := match lawBody.drop 3 with | .For _ _ body _ _ :: _ => body | _ => []
def lineBody : List Stmt := match turnBody.drop 2 with | .For _ _ body _ _ :: _ => body | _ => []
abbrev lawEnv (L fa : Addr) (cd : Value) : Env := envOfC (Str.ofString "law") lawScope L fa cd
end Body1

section Slice1
def rowV (G : List (List Int)) (W : Nat) (x a line : Int) : Int := List.foldl (fun t j => t + cellF G W line (x * a + j)) 0 (rangeKs 0 a.toNat)
def rowL (G : List (List Int)) (y : Int) : List Int := G.getD (min y (G.length - 1)).toNat []
theorem foldl_add {α : Type} (f : α → Int) : ∀ (l : List α) (z : Int), l.foldl (fun t j => t + f j) z = z + (l.map f).sum
  | [], z => by simp
  | x :: r, z => by rw [List.foldl_cons, foldl_add f r, List.map_cons, List.sum_cons]; omega
theorem ext_get (row : List Int) (h : 1 ≤ row.length) (i : Nat) (hi : i < row.length + 16) :
    (row ++ List.replicate 16 (row.getD (row.length - 1) 0))[i]? = some (row.getD (min i (row.length - 1)) 0) := by
  by_cases hlt : i < row.length
  · rw [List.getElem?_append_left hlt, show min i (row.length - 1) = i by omega, List.getD_eq_getElem?_getD, List.getElem?_eq_getElem hlt]; rfl
  · rw [List.getElem?_append_right (by omega), List.getElem?_replicate, if_pos (by omega), show min i (row.length - 1) = row.length - 1 by omega]
theorem slice_list (row : List Int) (h : 1 ≤ row.length) (X A : Nat) (hXA : X + A ≤ 16) :
    ((row ++ List.replicate 16 (row.getD (row.length - 1) 0)).drop X).take A = (List.range A).map fun j => row.getD (min (X + j) (row.length - 1)) 0 := by
  refine List.ext_getElem? fun i => ?_
  by_cases hi : i < A
  · rw [List.getElem?_take_of_lt hi, List.getElem?_drop, ext_get row h _ (by omega), List.getElem?_map, List.getElem?_range hi]; rfl
  · rw [List.getElem?_eq_none (by rw [List.length_take]; omega), List.getElem?_eq_none (by simp; omega)]
theorem slice_sum {G : List (List Int)} {W : Nat} {x a k : Int} (hrow : (rowL G k).length = W) (hW : 1 ≤ W) (hxa0 : 0 ≤ x * a) (ha : 0 ≤ a) (hxa : x * a + a ≤ 16) :
    (((rowL G k ++ (List.replicate (Int.toNat 16) [(rowL G k).getD ((-1 : Int) + ((rowL G k).length : Nat)).toNat 0]).flatten).drop (x * a).toNat).take
      (min (x * a + a).toNat (rowL G k ++ (List.replicate (Int.toNat 16) [(rowL G k).getD ((-1 : Int) + ((rowL G k).length : Nat)).toNat 0]).flatten).length - (x * a).toNat)).sum = rowV G W x a k := by
  have e1 : ((-1 : Int) + ((rowL G k).length : Nat)).toNat = (rowL G k).length - 1 := by omega
  have e2 : (List.replicate (Int.toNat 16) [(rowL G k).getD ((rowL G k).length - 1) 0]).flatten = List.replicate 16 ((rowL G k).getD ((rowL G k).length - 1) 0) := List.flatten_replicate_singleton
  rw [e1, e2]
  have e3 : min (x * a + a).toNat (rowL G k ++ List.replicate 16 ((rowL G k).getD ((rowL G k).length - 1) 0)).length - (x * a).toNat = a.toNat := by
    rw [List.length_append, List.length_replicate]; omega
  rw [e3, slice_list _ (by omega) _ _ (by omega)]
  unfold rowV
  rw [foldl_add, Int.zero_add]
  unfold rangeKs
  rw [List.map_map]
  congr 1
  refine List.map_congr_left fun j hj => ?_
  show _ = cellF G W k (x * a + (0 + (j : Int)))
  unfold cellF
  show _ = (rowL G k).getD _ 0
  rw [hrow, show (min (x * a + (0 + (j : Int))) ((W : Int) - 1)).toNat = min ((x * a).toNat + j) (W - 1) by omega]

section
variable {prog : Program} {w : World} {A : Around} {E : Value → Shared → Prop} {s : Shared}
theorem rowN_at {h₀ : Heap} {L R : Addr} {news led : List (Addr × Obj)} {refs : List Value} {G : List (List Int)} {W nR : Nat} {value slice : Expr} {k : Int} {u : Tok} {Q : Value → Shared → Prop}
    (N : News h₀ L s.heap news) (hm : (R, PySem.W.listOf (List.toArray refs) nR) ∈ news) (hsub : ∀ p ∈ led, p ∈ news) (hr : RowsIn led refs G W) (h0 : 0 ≤ k) (hk : k < G.length) (hG : G.length < 100)
    (h : ∀ r vs j, (rowL G k).length = W → IntsAre vs (rowL G k) → News h₀ L s.heap ((r, PySem.W.listOf (List.toArray vs) j) :: news) → Q (.ref r) s)
    (hs : subscripted slice false (.ref R) (.int k u) = operate [.ref R, .int k u] (getItem (.ref R) (.int k u)) := by with_unfolding_all rfl) (hg : ∀ r, letTemporaryGo value (.ref R) r = pure () := by intro _; with_unfolding_all rfl) :
    wpAny (model prog w) A (subscriptTail value slice (.ref R) (.int k u)) Q E s :=
  row_at N hm hr h0 hk hG (fun r vs ns j e1 e2 e3 e4 => by
    have e : rowL G k = ns := by
      unfold rowL
      rw [show min k ((G.length : Int) - 1) = k by omega, List.getD_eq_getElem?_getD, e1]; rfl
    refine h r vs j (by rw [e]; exact e2) (by rw [e]; exact e4) fun p hp => ?_
    rcases List.mem_cons.mp hp with rfl | hp
    · exact N _ (hsub _ e3)
    · exact N p hp) hs hg
theorem lastN_at {h₀ : Heap} {L R : Addr} {news led : List (Addr × Obj)} {refs : List Value} {G : List (List Int)} {W nR : Nat} {value slice : Expr} {y : Int} {u : Tok} {Q : Value → Shared → Prop}
    (N : News h₀ L s.heap news) (hm : (R, PySem.W.listOf (List.toArray refs) nR) ∈ news) (hsub : ∀ p ∈ led, p ∈ news) (hr : RowsIn led refs G W) (hy : ¬ y < (G.length : Int)) (h1 : 1 ≤ G.length) (hG : G.length < 100)
    (h : ∀ r vs j, (rowL G y).length = W → IntsAre vs (rowL G y) → News h₀ L s.heap ((r, PySem.W.listOf (List.toArray vs) j) :: news) → Q (.ref r) s)
    (hs : subscripted slice false (.ref R) (.int (-1) u) = operate [.ref R, .int (-1) u] (getItem (.ref R) (.int (-1) u)) := by with_unfolding_all rfl) (hg : ∀ r, letTemporaryGo value (.ref R) r = pure () := by intro _; with_unfolding_all rfl) :
    wpAny (model prog w) A (subscriptTail value slice (.ref R) (.int (-1) u)) Q E s := by
  obtain ⟨hl, hrow⟩ := hr
  have hlt : G.length - 1 < G.length := by omega
  have e : G[G.length - 1]? = some G[G.length - 1] := List.getElem?_eq_getElem hlt
  obtain ⟨e1, r, vs, j, e2, e3, e4⟩ := hrow _ _ e
  have hIs : s.heap.IsList R (List.toArray refs) := ⟨_, (N _ hm).1, rfl, nR, rfl⟩
  have e5 : rowL G y = G[G.length - 1] := by
    unfold rowL
    rw [show (min y ((G.length : Int) - 1)).toNat = G.length - 1 by omega, List.getD_eq_getElem?_getD, e]; rfl
  have hsz : (List.toArray refs).size = G.length := by simp [hl]
  refine subscriptTail_builtin hIs.typeIs slot_list_getitem.lookup (wpAny_getItem_list_neg hIs (by omega) (by rw [hsz]; omega) (by omega) (x := .ref r) ?_ ?_) hs hg
  · rw [hsz, show ((-1 : Int) + (G.length : Int)).toNat = G.length - 1 by omega]; simpa using e2
  · refine h r vs j (by rw [e5]; exact e1) (by rw [e5]; exact e4) fun p hp => ?_
    rcases List.mem_cons.mp hp with rfl | hp
    · exact N _ (hsub _ e3)
    · exact N p hp
theorem slice_row {h₀ : Heap} {L l : Addr} {m : Str → Option Value} {news : List (Addr × Obj)} {vs : List Value} {G : List (List Int)} {W : Nat} {x a k lo hi : Int} {t t' : Tok} {c : Nat} {value slice : Expr} {Q : Value → Shared → Prop}
    (F : Fr h₀ L s.heap m) (N : News h₀ L s.heap news) (hm : (l, PySem.W.listOf (List.toArray vs) c) ∈ news)
    (hi' : IntsAre vs (rowL G k ++ (List.replicate (Int.toNat 16) [(rowL G k).getD ((-1 : Int) + ((rowL G k).length : Nat)).toNat 0]).flatten))
    (elo : lo = x * a) (ehi : hi = x * a + a) (hrow : (rowL G k).length = W) (hW : 1 ≤ W) (hW6 : W ≤ 6) (hxa0 : 0 ≤ x * a) (ha : 0 ≤ a) (hxa : x * a + a ≤ 16)
    (h : ∀ D zs ms h', ms.length ≤ 16 → ms.sum = rowV G W x a k → IntsAre zs ms → Fr h₀ L h' m → News h₀ L h' ((D, PySem.W.listOf (List.toArray zs) 0) :: news) → (∀ p ∈ news, p.1 < D) → Q (.ref D) { s with heap := h' })
    (hs : subscripted slice false (.ref l) (.ref s.heap.objs.size) = operate [.ref s.heap.objs.size, .ref l] (getItem (.ref l) (.ref s.heap.objs.size))) :
    wpAny (model prog w) A (subscriptTail value slice (.ref l) (.ref s.heap.objs.size)) Q E { s with heap := s.heap.push { cls := .type "slice", data := .fields #[.int lo t, .int hi t', .none] } } := by
  have hl : s.heap.IsList l (List.toArray vs) := ⟨_, (N _ hm).1, rfl, c, rfl⟩
  have hlen : vs.length = W + 16 := by
    rw [hi'.length, List.length_append, hrow]
    simp
  refine tail_any (Heap.IsList.typeIs (s := { s with heap := s.heap.push { cls := .type "slice", data := .fields #[.int lo t, .int hi t', .none] } }) (hl.push _)) list_getitem_lookup
    (wpAny_getItem_list_slice (hl.push _) (Heap.IsSliceOf.new ..) (.int lo t) (.int hi t') .none (by simp) ?_ (by rw [List.size_toArray, hlen, PySem.sizeLine_eq]; omega)) hs
  have N1 := News.push (F.push { cls := .type "slice", data := .fields #[.int lo t, .int hi t', .none] }) (N.grown fun _ _ e => Heap.get?_push_of_some _ e) { cls := .type "list", data := .seq (slicePick (List.toArray vs) (some lo) (some hi) none) }
  rw [Heap.size_push] at N1
  show Q (.ref (s.heap.push _).objs.size) _
  rw [Heap.size_push]
  subst elo ehi
  have hr := kmk_run hi' hxa0 (show (0 : Int) ≤ x * a + a by omega)
  refine h _ _ _ _ ?_ (slice_sum hrow hW hxa0 ha hxa) hr ((F.push _).push _) (by rw [Array.toArray_toList]; exact N1) fun p hp => Nat.lt_succ_of_lt (Heap.lt_size (N p hp).1)
  rw [List.length_take]; omega
end
end Slice1

section Plain1
theorem mean_sum (G : List (List Int)) (W : Nat) (x y a d : Int) : meanN G W x y a d = ((rangeKs (y * d) (y * d + d - y * d).toNat).map (rowV G W x a)).sum := by
  have e1 : ∀ (t k : Int), List.foldl (fun t j => t + cellF G W (y * d + k) (x * a + j)) t (rangeKs 0 a.toNat) = t + rowV G W x a (y * d + k) := fun t k => by
    unfold rowV
    rw [foldl_add, foldl_add, Int.zero_add]
  unfold meanN
  rw [show (fun (t k : Int) => List.foldl (fun t j => t + cellF G W (y * d + k) (x * a + j)) t (rangeKs 0 a.toNat)) = fun t k => t + rowV G W x a (y * d + k) from by funext t k; exact e1 t k]
  rw [foldl_add, Int.zero_add, show y * d + d - y * d = d by omega]
  unfold rangeKs
  rw [List.map_map, List.map_map]
  congr 1
  refine List.map_congr_left fun j _ => ?_
  show rowV G W x a (y * d + (0 + (j : Int))) = rowV G W x a (y * d + (j : Int))
  rw [Int.zero_add]
theorem half_up (T n : Int) (hn : 0 < n) : (T + n / 2) / n = T / n + (if decide (n ≤ 2 * (T % n) ∧ 0 < T % n) = true then 1 else 0) := by
  have h1 := Int.mul_ediv_add_emod T n
  have h2 := Int.emod_nonneg T (show n ≠ 0 by omega)
  have h3 := Int.emod_lt_of_pos T hn
  have e : T + n / 2 = (T % n + n / 2) + n * (T / n) := by omega
  rw [e, Int.add_mul_ediv_left _ _ (show n ≠ 0 by omega), Int.add_comm]
  congr 1
  by_cases hc : n ≤ 2 * (T % n) ∧ 0 < T % n
  · rw [if_pos (by simpa using hc)]
    have e2 : T % n + n / 2 = (T % n + n / 2 - n) + n * 1 := by omega
    rw [e2, Int.add_mul_ediv_left _ _ (show n ≠ 0 by omega), Int.ediv_eq_zero_of_lt (by omega) (by omega)]
    rfl
  · rw [if_neg (by simpa using hc), Int.ediv_eq_zero_of_lt (by omega) (by omega)]
theorem round_eq (T x a d : Int) (ha : 1 ≤ a) (hd : 1 ≤ d) : (T + biasF x a d).fdiv (a * d) = T.fdiv (a * d) + (if goesF (T.fmod (a * d)) x a d = true then 1 else 0) := by
  have hn : 0 < a * d := Int.mul_pos (by omega) (by omega)
  have f1 : ∀ z : Int, z.fdiv (a * d) = z / (a * d) := fun z => Int.fdiv_eq_ediv_of_nonneg z (by omega)
  have f2 : T.fmod (a * d) = T % (a * d) := Int.fmod_eq_emod_of_nonneg T (by omega)
  have f3 : x.fmod 2 = x % 2 := Int.fmod_eq_emod_of_nonneg x (by omega)
  have f4 : (a * d).fdiv 2 = (a * d) / 2 := Int.fdiv_eq_ediv_of_nonneg _ (by omega)
  rw [f1, f1, f2]
  unfold biasF goesF
  rw [f3, f4]
  by_cases h1 : a = 2 ∧ d = 1
  · rw [if_pos h1, if_pos h1]
    obtain ⟨rfl, rfl⟩ := h1
    simp only [show (2 : Int) * 1 = 2 by decide, decide_eq_true_eq]
    split <;> omega
  · rw [if_neg h1, if_neg h1]
    by_cases h2 : a = 2 ∧ d = 2
    · rw [if_pos h2, if_pos h2]
      obtain ⟨rfl, rfl⟩ := h2
      simp only [show (2 : Int) * 2 = 4 by decide, decide_eq_true_eq]
      split <;> omega
    · rw [if_neg h2, if_neg h2]
      exact half_up T (a * d) hn
theorem sub_led {α : Type} {a b c d e f g h i : α} {x y z : List α} : ∀ p ∈ a :: b :: c :: d :: (x ++ y), p ∈ e :: f :: g :: h :: i :: a :: b :: c :: d :: (x ++ y ++ z) := by
  intro p hp
  have k : p ∈ a :: b :: c :: d :: (x ++ y) ++ z := List.mem_append_left _ hp
  exact .tail _ (.tail _ (.tail _ (.tail _ (.tail _ k))))
theorem sub_own {α : Type} {a b c d e f g h i : α} {x y z : List α} : ∀ p ∈ z, p ∈ e :: f :: g :: h :: i :: a :: b :: c :: d :: (x ++ y ++ z) := by
  intro p hp
  have k : p ∈ a :: b :: c :: d :: (x ++ y) ++ z := List.mem_append_right _ hp
  exact .tail _ (.tail _ (.tail _ (.tail _ (.tail _ k))))
theorem sub_mean {α : Type} {a b c q e f : α} {x y : List α} : ∀ p ∈ a :: b :: c :: x, p ∈ a :: b :: q :: c :: e :: f :: (x ++ y) := by
  intro p hp
  rcases List.mem_cons.mp hp with rfl | hp
  · exact .head _
  rcases List.mem_cons.mp hp with rfl | hp
  · exact .tail _ (.head _)
  rcases List.mem_cons.mp hp with rfl | hp
  · exact .tail _ (.tail _ (.tail _ (.head _)))
  · exact .tail _ (.tail _ (.tail _ (.tail _ (.tail _ (.tail _ (List.mem_append_left _ hp))))))
theorem sum_snoc {f : Int → Int} {pre : List Int} {k t v : Int} (h1 : t = (pre.map f).sum) (h2 : v = f k) : t + v = ((pre ++ [k]).map f).sum := by
  rw [List.map_append, List.sum_append, h1, h2]; simp
end Plain1

section Rest1
local macro_rules | `(tactic| passes_own) => `(tactic| assumption)
local macro_rules | `(tactic| walk_at "subscriptTail") => `(tactic| (k_here; (with_reducible show wpAny _ _ (subscriptTail (Expr.Name (Str.ofString "rows") _) _ (Value.ref _) (Value.int _ _)) _ _ _); (rename RowsIn _ _ _ _ => hRw9); (rename News _ _ _ _ => N9); k_dflt (first | ((refine' rowN_at N9 ?k2 ?k2b hRw9 ?k3 ?k4 ?k5 ?_ ?k6 ?k7); (case k2 => k_memK); (case k2b => (intro p9 hp9; simp only [List.mem_cons, List.mem_append, hp9, true_or, or_true])); (case k3 => omega); (case k4 => omega); (case k5 => omega); (case k6 => with_unfolding_all rfl); (case k7 => intro _; with_unfolding_all rfl); k_whole; clear N9; intro r9 vs9 j9 hw9 hi9 N9; (try k_unmd); (try k_fold)) | ((refine' lastN_at N9 ?k2 ?k2b hRw9 ?k3 ?k4 ?k5 ?_ ?k6 ?k7); (case k2 => k_memK); (case k2b => (intro p9 hp9; simp only [List.mem_cons, List.mem_append, hp9, true_or, or_true])); (case k3 => with_reducible assumption); (case k4 => omega); (case k5 => omega); (case k6 => with_unfolding_all rfl); (case k7 => intro _; with_unfolding_all rfl); k_whole; clear N9; intro r9 vs9 j9 hw9 hi9 N9; (try k_unmd); (try k_fold)))))
local macro_rules | `(tactic| walk_at "subscriptTail") => `(tactic| (k_here; (with_reducible show wpAny _ _ (subscriptTail _ (PySem.Expr.Slice _ _ none _) (Value.ref _) (Value.ref _)) _ _ _); k_dflt (refine' slice_row ?k1 ?k2 ?k3 ?k4 ?k4a ?k4b ?k5 ?k6 ?k7 ?k8 ?k9 ?k10 ?_ ?k11; (case k1 => k_asm); (case k2 => k_asm); (case k3 => k_mem); (case k4 => with_reducible assumption); (case k4a => with_reducible exact rfl); (case k4b => with_reducible exact rfl); (case k5 => with_reducible assumption); (case k6 => with_reducible assumption); (case k7 => with_reducible assumption); (case k8 => with_reducible assumption); (case k9 => omega); (case k10 => omega); (case k11 => with_unfolding_all rfl); k_whole; intro D' zs' ms' h' hml' hms' hI' F' N' l1'; k_lt l1'; (try k_sweep))))
local macro_rules | `(tactic| walk_at "call ref") => `(tactic| (k_here; (with_reducible show wpAny _ _ (call (Value.ref 98) _) _ _ _); k_dflt (refine' goes_spec ?k1 ?k2 ?k3 ?k4 ?k5 ?k6 ?k7 ?k8 ?k9 ?k10 ?k11 ?k12 ?k13 ?k14 ?k15 ?_; (case k1 => k_asm); (case k2 => k_asm); (case k3 => k_asm); (case k4 => k_asm); (case k5 => k_asm); (case k6 => exact rfl); (case k7 => exact rfl); (case k8 => exact fmod_lo _ (by omega)); (case k9 => exact Int.le_trans (Int.le_of_lt (fmod_hi _ (by omega))) (by omega)); (case k10 => omega); (case k11 => omega); (case k12 => omega); (case k13 => omega); (case k14 => omega); (case k15 => omega); k_whole; intro h' tk' F' N'; (try k_sweep))))
local macro_rules | `(tactic| walk_at "call ref") => `(tactic| (k_here; (with_reducible show wpAny _ _ (call (Value.ref 66) _) _ _ _); k_dflt (refine' plane_spec ?k1 ?k2 ?k3 ?k4 ?k5 ?k6 ?_; (case k1 => k_asm); (case k2 => k_asm); (case k3 => k_asm); (case k4 => k_asm); (case k5 => k_asm); (case k6 => exact rfl); k_whole; intro pl' dx' h' tk' t1' t2' t3' F' N' l1' l2'; k_lt l1'; k_lt2 l2'; (try k_sweep))))
local macro_rules | `(tactic| walk_at "call ref") => `(tactic| (k_here; (with_reducible show wpAny _ _ (call (Value.ref 28) _) _ _ _); (rename RowsIn _ _ _ _ => hRw9); (rename News _ _ _ _ => N9); k_dflt (refine' mean_call ?k1 ?k2 ?k3 ?k4 N9 ?k5 ?k6 ?k7 hRw9 ?k8 ?k9 ?k10 ?k11 ?k12 ?k13 ?k14 ?k15 ?k16 ?k17 ?k18 ?k19 ?_; (case k1 => k_asm); (case k2 => k_asm); (case k3 => k_asm); (case k4 => k_asm); (case k5 => exact sub_mean); (case k6 => exact rfl); (case k7 => exact rfl); (case k8 => omega); (case k9 => omega); (case k10 => omega); (case k11 => omega); (case k12 => omega); (case k13 => omega); (case k14 => omega); (case k15 => omega); (case k16 => omega); (case k17 => omega); (case k18 => omega); (case k19 => omega); k_whole; clear N9; intro tv' h' tk' F' N')))
local macro_rules | `(tactic| walk_at "InvEndN") => `(tactic| (refine stopHere ?_))

set_option maxRecDepth 100000 in
set_option maxHeartbeats 8000000 in
theorem rest_spec {w : World} {h₀ : Heap} {L fa : Addr} {cd : Value} {m : Str → Option Value} {s : Shared} {mg mb : Str → Option Value} {mean : ExcName → Option Value}
    {q R : Addr} {tW tH tx ty t_a t_d tt tR : Tok} {nR W : Nat} {refs : List Value} {G : List (List Int)} {led own : List (Addr × Obj)} {oQ oq ow : Obj} {x y a d : Int} {Q : Flow → Shared → Prop} {E : Value → Shared → Prop}
    (B : Below callerA h₀ [] h₀)
    (F : Fr h₀ L s.heap (fun z => if z = Str.ofString "x" then some (.int x tx) else if z = Str.ofString "y" then some (.int y ty) else if z = Str.ofString "total" then some (.int 0 tt) else if z = Str.ofString "down" then some (.int d t_d) else if z = Str.ofString "across" then some (.int a t_a)
      else if z = Str.ofString "high" then some (.int (G.length : Int) tH) else if z = Str.ofString "rows" then some (.ref R) else m z))
    (X : (Mine.hd.heap_39 w.params).In h₀) (T : Top Mine.hd.view_39 (looseW Mine.hd.view_39 []) mean mg mb h₀)
    (N : News h₀ L s.heap ((q, oQ) :: (R, PySem.W.listOf (List.toArray refs) nR) :: (L + 1 + 1, ow) :: (L + 1, oq) :: (led ++ own)))
    (hcq : oq.data = .cell (some (.ref q))) (hcw : ow.data = .cell (some (.int (W : Int) tW)))
    (hRw : RowsIn led refs G W) (hW0 : 1 ≤ W) (hW1 : W ≤ 6) (hG0 : 1 ≤ G.length) (hG1 : G.length ≤ 5)
    (hx0 : 0 ≤ x) (hx1 : x ≤ 3) (hy0 : 0 ≤ y) (hy1 : y ≤ 2) (ha0 : 1 ≤ a) (ha1 : a ≤ 4) (hd0 : 1 ≤ d) (hd1 : d ≤ 4)
    (hQ : ∀ (h' : Heap) (tk' : Nat) (m' : Str → Option Value), Fr h₀ L h' m' → (∀ z, (["across", "down", "x", "y", "total", "line", "row", "due"].map Str.ofString).contains z = false → m' z = if z = Str.ofString "high" then some (.int (G.length : Int) tH) else if z = Str.ofString "rows" then some (.ref R) else m z) →
      News h₀ L h' ((q, oQ) :: (R, PySem.W.listOf (List.toArray refs) nR) :: (L + 1 + 1, ow) :: (L + 1, oq) :: (led ++ own)) → Q .next { s with heap := h', toks := tk' })
    (hE : PassesOwn (model PySem.Challenge.rw_xm0802_01.row.prog w) (callerA.deeper (lawEnv L fa cd)) (lawEnv L fa cd) E) :
    wpAny (model PySem.Challenge.rw_xm0802_01.row.prog w) (callerA.deeper (lawEnv L fa cd)) (execs (turnBody.drop 2) (lawEnv L fa cd)) Q E s := by
  have hxa0 : 0 ≤ x * a := Int.mul_nonneg (by omega) (by omega)
  have hxa1 : x * a ≤ 12 := Int.le_trans (Int.mul_le_mul hx1 ha1 (by omega) (by omega)) (by decide)
  have hyd0 : 0 ≤ y * d := Int.mul_nonneg (by omega) (by omega)
  have hyd1 : y * d ≤ 8 := Int.le_trans (Int.mul_le_mul hy1 hd1 (by omega) (by omega)) (by decide)
  have had : 0 < a * d := Int.mul_pos (by omega) (by omega)
  have had16 : a * d ≤ 16 := Int.le_trans (Int.mul_le_mul ha1 hd1 (by omega) (by omega)) (by decide)
  (revert X; k_fill; intro X)
  simp only [lawEnv, lawScope, turnBody, lawBody, lawStmt, PySem.Challenge.pw_xm0802_01, List.getLast?, List.getLast, List.drop] at hE ⊢
  k_unmd
  (try k_fold)
  k_with_none
  k_with "pyIter ref" => k_of "line" => k_state (fun (pre : List Int) (t : Int) => t = (pre.map (rowV G W x a)).sum) "total"
  k_steps
  · refine StopP.mk ?_
    (rename Fr _ _ _ _ => Fe); (rename News _ _ _ _ => Ne); (rename List.sum _ = rowV _ _ _ _ _ => hms); (rename _ = List.sum _ => hin)
    refine' kst_end (_, _) Fe Ne sub_led sub_own rfl trivial (fun p hp => by rw [List.mem_singleton.mp hp]; rfl) ?_ (sum_snoc hin hms)
    kst_same
  · refine StopP.mk ?_
    (rename Fr _ _ _ _ => Fe); (rename News _ _ _ _ => Ne); (rename List.sum _ = rowV _ _ _ _ _ => hms); (rename _ = List.sum _ => hin)
    refine' kst_end (_, _) Fe Ne sub_led sub_own rfl trivial (fun p hp => by rw [List.mem_singleton.mp hp]; rfl) ?_ (sum_snoc hin hms)
    kst_same
  · exfalso
    (rename _ ≠ _ => hne); (rename _ = List.sum _ => hin)
    apply hne
    rw [mean_sum, ← hin]
    exact round_eq _ _ _ _ ha0 hd0
  · (rename Fr _ _ _ _ => Fe); (rename News _ _ _ _ => Ne)
    refine hQ _ _ _ Fe (fun z hz => ?_) (fun p hp => Ne p (.tail _ (.tail _ hp)))
    simp only [List.map_cons, List.map_nil, List.contains_cons, List.contains_nil, Bool.or_false, Bool.or_eq_false_iff, beq_eq_false_iff_ne, ne_eq] at hz ⊢
    simp [hz]
end Rest1

section Turn1
theorem menu3 {prog : Program} {w : World} {A : Around} {E : Value → Shared → Prop} {s : Shared} {h₀ : Heap} {L D x0 x1 x2 q : Addr} {A0 B0 A1 B1 A2 B2 v : Int} {a0 b0 a1 b1 a2 b2 u : Tok} {oq : Obj} {base : List (Addr × Obj)}
    {value slice : Expr} {Q : Value → Shared → Prop}
    (N : News h₀ L s.heap ((D, { cls := .type "tuple", data := .seq #[.ref x0, .ref x1, .ref x2] }) :: (x2, { cls := .type "tuple", data := .seq #[.int A2 a2, .int B2 b2] }) :: (x1, { cls := .type "tuple", data := .seq #[.int A1 a1, .int B1 b1] }) ::
      (x0, { cls := .type "tuple", data := .seq #[.int A0 a0, .int B0 b0] }) :: (q, oq) :: base))
    (hv0 : 0 ≤ v) (hv1 : v < 3) (h0 : 1 ≤ A0 ∧ A0 ≤ 4 ∧ 1 ≤ B0 ∧ B0 ≤ 4) (h1 : 1 ≤ A1 ∧ A1 ≤ 4 ∧ 1 ≤ B1 ∧ B1 ≤ 4) (h2 : 1 ≤ A2 ∧ A2 ≤ 4 ∧ 1 ≤ B2 ∧ B2 ≤ 4)
    (hq : @LT.lt Nat _ q x0 ∧ @LT.lt Nat _ q x1 ∧ @LT.lt Nat _ q x2)
    (h : ∀ r C D tC tD, News h₀ L s.heap ((r, { cls := .type "tuple", data := .seq #[.int C tC, .int D tD] }) :: (q, oq) :: base) → @LT.lt Nat _ q r → 1 ≤ C → C ≤ 4 → 1 ≤ D → D ≤ 4 → Q (.ref r) s)
    (hs : subscripted slice false (.ref D) (.int v u) = operate [.ref D, .int v u] (getItem (.ref D) (.int v u)) := by with_unfolding_all rfl) :
    wpAny (model prog w) A (subscriptTail value slice (.ref D) (.int v u)) Q E s := by
  have hT : IsTup s.heap D [Value.ref x0, .ref x1, .ref x2].toArray := News.isTup N (.head _)
  have hv : v = 0 ∨ v = 1 ∨ v = 2 := by omega
  rcases hv with rfl | rfl | rfl
  · refine item_tupleT hT (by decide) (by decide) (j := 0) (x := .ref x0) rfl rfl (h x0 A0 B0 a0 b0 (fun p hp => ?_) hq.1 h0.1 h0.2.1 h0.2.2.1 h0.2.2.2) hs
    rcases List.mem_cons.mp hp with rfl | hp
    · exact N _ (.tail _ (.tail _ (.tail _ (.head _))))
    · exact N _ (.tail _ (.tail _ (.tail _ (.tail _ hp))))
  · refine item_tupleT hT (by decide) (by decide) (j := 1) (x := .ref x1) rfl rfl (h x1 A1 B1 a1 b1 (fun p hp => ?_) hq.2.1 h1.1 h1.2.1 h1.2.2.1 h1.2.2.2) hs
    rcases List.mem_cons.mp hp with rfl | hp
    · exact N _ (.tail _ (.tail _ (.head _)))
    · exact N _ (.tail _ (.tail _ (.tail _ (.tail _ hp))))
  · refine item_tupleT hT (by decide) (by decide) (j := 2) (x := .ref x2) rfl rfl (h x2 A2 B2 a2 b2 (fun p hp => ?_) hq.2.2 h2.1 h2.2.1 h2.2.2.1 h2.2.2.2) hs
    rcases List.mem_cons.mp hp with rfl | hp
    · exact N _ (.tail _ (.head _))
    · exact N _ (.tail _ (.tail _ (.tail _ (.tail _ hp))))

local macro_rules | `(tactic| k_all) => `(tactic| first | assumption | (refine List.forall_mem_append.mpr ⟨?_, ?_⟩ <;> k_all) | (rename OwnOff _ _ => hOwn9; exact fun p9 h9 => hOwn9 p9 h9 _ (by k_mem)))
local macro_rules | `(tactic| walk_at "call ref") => `(tactic| (k_here; (with_reducible show wpAny _ _ (call (Value.ref 91) _) _ _ _); k_dflt (refine' patch_call ?k1 ?k2 ?k3 ?k4 ?k5 ?kU ?k6 ?k7 ?k8 ?k9 ?k10 ?k11 ?k12 ?k13 ?k14 ?k15 ?_; (case k1 => k_asm); (case k2 => k_asm); (case k3 => k_asm); (case k4 => k_asm); (case k5 => k_asm); (case kU => (intro o'; k_upd)); (case k6 => exact rfl); (case k7 => exact rfl); (case k8 => exact rfl); (case k9 => k_room); (case k10 => exact rfl); (case k11 => omega); (case k12 => omega); (case k13 => with_reducible assumption); (case k14 => with_reducible assumption); (case k15 => with_reducible assumption); k_whole; intro v' tv' h' tk' a' b' ta' tb' n' hv0' hv1' hqa' hqb' hqc' F' N'; (try k_sweep))))
local macro_rules | `(tactic| walk_at "execs cons") => `(tactic| ((with_reducible show wpAny _ _ (execs (Stmt.For _ _ _ _ _ :: _) _) _ _ _); refine stopHere ?_))

local macro_rules | `(tactic| walk_at "subscriptTail") => `(tactic| (k_here; (with_reducible show wpAny _ _ (subscriptTail _ _ (Value.ref _) (Value.int _ _)) _ _ _); (rename News _ _ _ _ => N9); k_dflt (refine' menu3 N9 ?k1 ?k2 ?k3 ?k4 ?k5 ?k6 ?_ ?k7; (case k1 => with_reducible assumption); (case k2 => with_reducible assumption); (case k3 => omega); (case k4 => omega); (case k5 => omega); (case k6 => omega); (case k7 => with_unfolding_all rfl); k_whole; clear N9; intro r' A' B' tA' tB' N' hqr' hA0' hA1' hB0' hB1')))

set_option maxRecDepth 100000 in
set_option maxHeartbeats 8000000 in
theorem turn_spec {w : World} {h₀ : Heap} {L fa : Addr} {cd : Value} {m : Str → Option Value} {s : Shared} {mg mb : Str → Option Value} {mean : ExcName → Option Value}
    {q R : Addr} {a b : Int} {ta tb tW tH : Tok} {n nR W : Nat} {refs : List Value} {G : List (List Int)} {led own : List (Addr × Obj)} {oq ow : Obj} {Q : Flow → Shared → Prop} {E : Value → Shared → Prop}
    (B : Below callerA h₀ [] h₀) (F : Fr h₀ L s.heap (fun z => if z = Str.ofString "high" then some (.int (G.length : Int) tH) else if z = Str.ofString "rows" then some (.ref R) else m z)) (X : (Mine.hd.heap_39 w.params).In h₀) (T : Top Mine.hd.view_39 (looseW Mine.hd.view_39 []) mean mg mb h₀)
    (N : News h₀ L s.heap ((q, quiltO a b ta tb n) :: (R, PySem.W.listOf (List.toArray refs) nR) :: (L + 1 + 1, ow) :: (L + 1, oq) :: (led ++ own)))
    (hcq : oq.data = .cell (some (.ref q))) (hcw : ow.data = .cell (some (.int (W : Int) tW)))
    (hqL : @LT.lt Nat _ (L + 1 + 1) q) (hRq : @Ne Nat R q) (hled : ∀ p ∈ led, p.1 ≠ q) (hown : ∀ p ∈ own, p.1 ≠ q)
    (hqa : 0 ≤ a) (hqb : 0 ≤ b) (hqc : b < 65284)
    (hRw : RowsIn led refs G W) (hW0 : 1 ≤ W) (hW1 : W ≤ 6) (hG0 : 1 ≤ G.length) (hG1 : G.length ≤ 5)
    (hQ : ∀ (h' : Heap) (tk' : Nat) (m' : Str → Option Value) (a' b' : Int) (ta' tb' : Tok) (n' : Nat), 0 ≤ a' → 0 ≤ b' → b' < 65284 → Fr h₀ L h' m' → (∀ z, (["across", "down", "x", "y", "total", "line", "row", "due"].map Str.ofString).contains z = false → m' z = if z = Str.ofString "high" then some (.int (G.length : Int) tH) else if z = Str.ofString "rows" then some (.ref R) else m z) →
      News h₀ L h' ((q, quiltO a' b' ta' tb' n') :: (R, PySem.W.listOf (List.toArray refs) nR) :: (L + 1 + 1, ow) :: (L + 1, oq) :: (led ++ own)) → Q .next { s with heap := h', toks := tk' })
    (hE : PassesOwn (model PySem.Challenge.rw_xm0802_01.row.prog w) (callerA.deeper (lawEnv L fa cd)) (lawEnv L fa cd) E) :
    wpAny (model PySem.Challenge.rw_xm0802_01.row.prog w) (callerA.deeper (lawEnv L fa cd)) (execs turnBody (lawEnv L fa cd)) Q E s := by
  (revert X; k_fill; intro X)
  simp only [lawEnv, lawScope, turnBody, lawBody, lawStmt, PySem.Challenge.pw_xm0802_01, List.getLast?, List.getLast, List.drop]
  k_unmd
  (try k_fold)
  k_steps
  refine StopP.mk ?_
  (rename Fr _ _ _ _ => Fe); (rename News _ _ _ _ => Ne)
  refine' rest_spec B Fe X T (fun p hp => Ne p (.tail _ (.tail _ hp))) hcq hcw hRw hW0 hW1 hG0 hG1 ?_ ?_ ?_ ?_ ?_ ?_ ?_ ?_ (fun h' tk' m' F' e' N' => ?_) hE
  any_goals omega
  exact hQ h' tk' m' _ _ _ _ _ (by assumption) (by assumption) (by assumption) F' e' N'
end Turn1

section Turns1
theorem fr_map {h₀ h : Heap} {L : Addr} {m m' : Str → Option Value} (F : Fr h₀ L h m) (e : ∀ z, m z = m' z) : Fr h₀ L h m' := by
  have : m = m' := funext e
  exact this ▸ F
abbrev storedT : List Str := ["across", "down", "x", "y", "total", "line", "row", "due"].map Str.ofString
abbrev ledT (q R L : Addr) (refs : List Value) (nR : Nat) (oq ow : Obj) (led : List (Addr × Obj)) (c : Int × Int × Tok × Tok × Nat) : List (Addr × Obj) :=
  (q, quiltO c.1 c.2.1 c.2.2.1 c.2.2.2.1 c.2.2.2.2) :: (R, PySem.W.listOf (List.toArray refs) nR) :: (L + 1 + 1, ow) :: (L + 1, oq) :: led

set_option maxRecDepth 100000 in
set_option maxHeartbeats 4000000 in
theorem turns_go {w : World} {h₀ : Heap} {L fa : Addr} {cd : Value} {m : Str → Option Value} {s : Shared} {mg mb : Str → Option Value} {mean : ExcName → Option Value}
    {q R r : Addr} {a b : Int} {ta tb tW tH t u v : Tok} {n nR W : Nat} {refs : List Value} {G : List (List Int)} {led : List (Addr × Obj)} {oq ow : Obj} {Q : Flow → Shared → Prop} {E : Value → Shared → Prop}
    (B : Below callerA h₀ [] h₀) (F : Fr h₀ L s.heap m) (X : (Mine.hd.heap_39 w.params).In h₀) (T : Top Mine.hd.view_39 (looseW Mine.hd.view_39 []) mean mg mb h₀)
    (N : News h₀ L s.heap ((q, quiltO a b ta tb n) :: (R, PySem.W.listOf (List.toArray refs) nR) :: (L + 1 + 1, ow) :: (L + 1, oq) :: led))
    (hcq : oq.data = .cell (some (.ref q))) (hcw : ow.data = .cell (some (.int (W : Int) tW)))
    (hqL : @LT.lt Nat _ (L + 1 + 1) q) (hRq : @Ne Nat R q) (hled : ∀ p ∈ led, p.1 ≠ q)
    (hqa : 0 ≤ a) (hqb : 0 ≤ b) (hqc : b < 65284)
    (hmh : m (Str.ofString "high") = some (.int (G.length : Int) tH)) (hmr : m (Str.ofString "rows") = some (.ref R))
    (hRw : RowsIn led refs G W) (hW0 : 1 ≤ W) (hW1 : W ≤ 6) (hG0 : 1 ≤ G.length) (hG1 : G.length ≤ 5)
    (hr : IsRange s.heap r 0 3 1 t u v)
    (hQ : ∀ (h' : Heap) (tk' : Nat) (m' : Str → Option Value) (news' : List (Addr × Obj)), Fr h₀ L h' m' → News h₀ L h' news' → Q .next { s with heap := h', toks := tk' })
    (hE : PassesOwn (model PySem.Challenge.rw_xm0802_01.row.prog w) (callerA.deeper (lawEnv L fa cd)) (lawEnv L fa cd) E) :
    wpAny (model PySem.Challenge.rw_xm0802_01.row.prog w) (callerA.deeper (lawEnv L fa cd)) (pyIter (.ref r))
      (fun it s₂ => LoopAtV PySem.Challenge.rw_xm0802_01.row.prog w (callerA.deeper (lawEnv L fa cd)) h₀ (lawEnv L fa cd) (Str.ofString "turn") turnBody Q E it s₂) E s := by
  refine kst_range (env := lawEnv L fa cd) (n := 3) (ledT q R L refs nR oq ow led) (fun _ => []) (fun c => 0 ≤ c.1 ∧ 0 ≤ c.2.1 ∧ c.2.1 < 65284) storedT (fun _ _ => True) (a, b, ta, tb, n)
    rfl hr (by decide) (by decide) F N ⟨hqa, hqb, hqc⟩ (fun p hp => nomatch hp) trivial ?_ ?_
  · rintro ⟨a, b, ta, tb, n⟩ pre k t u h tk own _ _ hoff ⟨ha, hb, hc⟩ _ F₁ N₁
    have F₂ : Fr h₀ L h (fun z => if z = Str.ofString "high" then some (.int (G.length : Int) tH) else if z = Str.ofString "rows" then some (.ref R) else if z = Str.ofString "turn" then some (.int k t) else if storedT.contains z then u z else m z) := by
      refine fr_map F₁ fun z => ?_
      show (if z = Str.ofString "turn" then some (Value.int k t) else if storedT.contains z then u z else m z) = _
      by_cases h1 : z = Str.ofString "high"
      · subst h1
        rw [if_neg (by decide), if_neg (by decide), if_pos rfl, hmh]
      · rw [if_neg h1]
        by_cases h2 : z = Str.ofString "rows"
        · subst h2
          rw [if_neg (by decide), if_neg (by decide), if_pos rfl, hmr]
        · rw [if_neg h2]
    refine turn_spec B F₂ X T N₁ hcq hcw hqL hRq hled (fun p hp => hoff p hp q (.head _)) ha hb hc hRw hW0 hW1 hG0 hG1 ?_ hE
    intro h' tk' m' a' b' ta' tb' n' x1 x2 x3 F' e' N'
    refine kst_end (a', b', ta', tb', n') F' N' (fun p hp => ?_) (fun p hp => ?_) rfl ⟨x1, x2, x3⟩ (fun p hp => nomatch hp) (fun z h1 _ h3 => ?_) trivial
    · have : p ∈ ledT q R L refs nR oq ow led (a', b', ta', tb', n') ++ own := List.mem_append_left _ hp
      exact this
    · have : p ∈ ledT q R L refs nR oq ow led (a', b', ta', tb', n') ++ own := List.mem_append_right _ hp
      exact this
    · rw [e' z h3]
      by_cases h4 : z = Str.ofString "high"
      · subst h4; rw [if_pos rfl, hmh]
      · rw [if_neg h4]
        by_cases h5 : z = Str.ofString "rows"
        · subst h5; rw [if_pos rfl, hmr]
        · rw [if_neg h5, if_neg h1, h3]; rfl
  · intro c u h tk _ _ F' N'
    exact hQ h tk _ _ F' N'
end Turns1

section Law1
theorem sub_perm {α : Type} {a b c d : α} {x : List α} : ∀ p ∈ a :: b :: c :: d :: x, p ∈ b :: a :: ([c, d] ++ x) := by
  intro p hp
  rcases List.mem_cons.mp hp with rfl | hp
  · exact .tail _ (.head _)
  rcases List.mem_cons.mp hp with rfl | hp
  · exact .head _
  · exact .tail _ (.tail _ hp)
abbrev wOf {o : Obj} {z : Int} {t : Tok} (h0 : o.data = .cell (some (.int z t))) : Int := z
theorem patch_callK {w : World} {A₀ A : Around} {base h₀ : Heap} {outer : List Env} {L : Addr} {m : Str → Option Value} {s : Shared} {env : Env} {mg mb : Str → Option Value} {mean : ExcName → Option Value}
    {q : Addr} {a b many : Int} {ta tb tm : Tok} {n : Nat} {rest : List (Addr × Obj)} {Q E : Value → Shared → Prop}
    (B : Below A₀ base outer h₀) (F : Fr h₀ L s.heap m) (X : (Mine.hd.heap_39 w.params).In h₀) (T : Top Mine.hd.view_39 (looseW Mine.hd.view_39 []) mean mg mb h₀)
    (N : News h₀ L s.heap ((q, quiltO a b ta tb n) :: rest)) (hne : ∀ p ∈ rest, p.1 ≠ q) (h5 : Q5 a b)
    (hA : A.frames = some (env :: outer)) (hf : env.frame = some L) (hke : env.scope.kind = .function) (hroom : A.depth < recursionLimit) (hh : A.handled = none)
    (hm0 : 0 < many) (hm1 : many ≤ 256)
    (h : ∀ (v : Int) (tv : Tok) (h' : Heap) (tk' : Nat) (a' b' : Int) (ta' tb' : Tok) (n' : Nat), Q5 a' b' → News h₀ L h' ((q, quiltO a' b' ta' tb' n') :: rest) →
      (∀ c o, s.heap.get? c = some o → c ≠ q → h'.get? c = some o) → Q (.int v tv) { s with heap := h', toks := tk' }) :
    wpAny (model PySem.Challenge.rw_xm0802_01.row.prog w) A (call (.ref 91) [.ref q, .int many tm]) Q E s :=
  patch_spec B F X T (fun p hp => N p (by rw [List.mem_singleton.mp hp]; exact .head _)) hA hf hke hroom hh hm0 hm1 h5.a0 h5.b0 h5.b1 fun v tv h' tk' a' b' ta' tb' n' _ _ x3 x4 x5 k _ N' =>
    h v tv h' tk' a' b' ta' tb' n' ⟨x3, x4, x5⟩ (news_but N hne k (N' _ (.head _)).1) k
local macro_rules | `(tactic| walk_at "call ref") => `(tactic| (k_here; (with_reducible show wpAny _ _ (call (Value.ref 84) _) _ _ _); k_dflt (refine' quilt_spec ?k1 ?k2 ?k3 ?k4 ?k5 ?k6 ?k7 ?k8 ?k9 ?k10 ?_; (case k1 => k_asm); (case k2 => k_asm); (case k3 => k_asm); (case k4 => k_asm); (case k5 => k_asm); (case k6 => exact rfl); (case k7 => exact rfl); (case k8 => assumption); (case k9 => assumption); (case k10 => omega); k_whole; intro q' h' tk' a' b' ta' tb' hqa' hqb' hqc' l1 F' N'; k_lt l1; (try k_sweep))))
local macro_rules | `(tactic| walk_at "call ref") => `(tactic| (k_here; (with_reducible show wpAny _ _ (call (Value.ref 91) _) _ _ _); k_dflt (refine' patch_call ?k1 ?k2 ?k3 ?k4 ?k5 ?kU ?k6 ?k7 ?k8 ?k9 ?k10 ?k11 ?k12 ?k13 ?k14 ?k15 ?_; (case k1 => k_asm); (case k2 => k_asm); (case k3 => k_asm); (case k4 => k_asm); (case k5 => k_asm); (case kU => (intro o'; k_upd)); (case k6 => exact rfl); (case k7 => exact rfl); (case k8 => exact rfl); (case k9 => k_room); (case k10 => exact rfl); (case k11 => omega); (case k12 => omega); (case k13 => assumption); (case k14 => assumption); (case k15 => assumption); k_whole; intro v' tv' h' tk' a' b' ta' tb' n' hv0' hv1' hqa' hqb' hqc' F' N'; (try k_sweep))))
local macro_rules | `(tactic| walk_at "call ref") => `(tactic| (k_here; (with_reducible show wpAny _ _ (call (Value.ref 91) _) _ _ _); (rename Q5 _ _ => h59); k_dflt (refine' patch_callK ?k1 ?k2 ?k3 ?k4 ?k5 ?kU ?k5q ?k6 ?k7 ?k8 ?k9 ?k10 ?k11 ?k12 ?_; (case k1 => k_asm); (case k2 => k_asm); (case k3 => k_asm); (case k4 => k_asm); (case k5 => k_asm); (case kU => k_all); (case k5q => exact h59); (case k6 => exact rfl); (case k7 => exact rfl); (case k8 => exact rfl); (case k9 => k_room); (case k10 => exact rfl); (case k11 => omega); (case k12 => omega); k_whole; intro v' tv' h' tk' a' b' ta' tb' n' h5' N' kk')))
local macro_rules | `(tactic| walk_at "exec For Name Call cons nil") => `(tactic| refine stopHere ?_)
local macro_rules | `(tactic| walk_at "pyIter ref") => `(tactic| refine stopHere ?_)
local macro_rules | `(tactic| walk_at "exec Assign cons ListComp") => `(tactic| refine stopHere ?_)
set_option maxRecDepth 100000 in
set_option maxHeartbeats 8000000 in
theorem law_holds : PySem.Challenge.rw_xm0802_01.Holds := by
  refine Mine.hd ?_
  k_go0
  all_goals k_fold
  k_steps
  refine StopP.mk ?_
  (try k_unmd)
  k_fold
  refine' eff_assign ?hsw ?hclos ?hcell ?hkind ?hnames ?hx ?hy ?hp ?_ ?hs
  case hsw => with_unfolding_all rfl
  case hclos => with_unfolding_all rfl
  case hcell => decide
  case hkind => with_unfolding_all rfl
  case hnames => decide
  case hx => with_unfolding_all rfl
  case hy => with_unfolding_all rfl
  case hp => with_unfolding_all rfl
  case hs => intro _; with_unfolding_all rfl
  k_steps
  refine StopP.mk ?_
  (rename News _ _ _ _ => N₁); (rename Fr _ _ _ _ => F₁); (rename IsRange _ _ _ _ _ _ _ _ => hr₁)
  have N₂ : News _ _ _ (_ :: _) := fun p hp => N₁ p (List.Mem.tail _ hp)
  (rename Obj.data _ = Data.cell (some (Value.int _ _)) => hdW); (rename Obj.data _ = Data.cell (some (Value.ref _)) => hdQ)
  refine' rows_go (W := Int.toNat (wOf hdW)) ?hh ?hr ?h0 ?h1 ?hF ?hL ?hN ?hne ?h5 ?helt ?hQ
  case hh => exact rfl
  case hr => exact hr₁
  case hF => exact F₁
  case hN => exact N₂
  case hL => exact rfl
  case h0 => omega
  case h1 => omega
  case hne => k_all
  case h5 => exact ⟨by with_reducible assumption, by with_reducible assumption, by with_reducible assumption⟩
  case helt =>
    clear N₁ N₂ F₁ hr₁
    intro C h₂ tk₂ m₂ a b ta tb n E' h5 F₂ N₂ hn
    k_unmd
    k_fold
    refine' eff_eval ?hclosb ?hcellb ?hkindb ?hnamesb ?hxb ?_ ?hsb
    case hclosb => with_unfolding_all rfl
    case hcellb => decide
    case hkindb => with_unfolding_all rfl
    case hnamesb => decide
    case hxb => with_unfolding_all rfl
    case hsb => intro _; with_unfolding_all rfl
    k_unmd
    k_steps
    refine StopP.mk ?_
    (rename News _ _ _ _ => N₃); (rename Fr _ _ _ _ => F₃); (rename IsRange _ _ _ _ _ _ _ _ => hr₃); (rename ∀ (b : Addr) (o : Obj), _ = some o → _ = some o => hk₃)
    refine' ints_go ?hhb ?hrb ?h0b ?h1b ?hFb ?hNb ?hneb ?h5b ?heltb ?hQb
    case hhb => exact rfl
    case hrb => exact hr₃
    case hFb => exact F₃
    case hNb => exact N₃
    case h0b => omega
    case h1b => omega
    case hneb => k_all
    case h5b => exact h5
    case heltb =>
      clear hn h5
      intro C₂ h₄ tk₄ m₄ a b ta tb n E'' h5 F₄ N₄ hn₄
      k_unmd
      k_fold
      k_steps
      (rename News _ _ _ _ => N₅); (rename Q5 _ _ => h55); (rename ∀ c o, _ → c ≠ _ → _ => kk5)
      exact StopP.mk ⟨_, _, _, _, _, _, _, _, _, rfl, rfl, h55, N₅, kk5⟩
    case hQb =>
      intro D h' tk vs k ns a' b' ta' tb' n' h5' hD hDl hi hl N' kk
      refine StopP.mk ⟨h', tk, D, vs, k, ns, a', b', ta', tb', n', rfl, rfl, h5', ?_, hDl, hi, hl, N', fun c o e hc => kk c o (hk₃ c o e) hc⟩
      cases e : h₂.get? D with
      | none => rfl
      | some o => have := hk₃ D o e; rw [this] at hD; cases hD
  case hQ =>
    intro R h' tk refs nR led G a' b' ta' tb' n' h5 hRw hGl hledq hRq hledR Fr' Ne'
    k_unmd
    k_steps
    refine StopP.mk ?_
    (try k_unmd)
    (try k_fold)
    refine' For_invVF ?F6 ?hx6 ?hp6 ?g6 ?hs6 ?hE6
    case F6 => exact Fr'
    case hx6 => exact rfl
    case hp6 => exact rfl
    case hs6 => intro _; with_unfolding_all rfl
    case hE6 => with_unfolding_all passes_own
    case g6 =>
      k_unmd
      k_steps
      refine StopP.mk ?_
      (rename News _ _ _ _ => N₇); (rename Fr _ _ _ _ => F₇); (rename IsRange _ _ _ _ _ _ _ _ => hr₇); (rename Below _ _ _ _ => B₇)
      have hw1 : 1 ≤ wOf hdW := by show (1 : Int) ≤ 1 + _; omega
      have hw6 : wOf hdW ≤ 6 := by show 1 + _ ≤ (6 : Int); omega
      have hwN : (((wOf hdW).toNat : Nat) : Int) = wOf hdW := Int.toNat_of_nonneg (by omega)
      refine' turns_go ?B8 ?F8 ?X8 ?T8 ?N8 hdQ ?cw8 ?qL8 hRq hledq h5.a0 h5.b0 h5.b1 ?mh8 ?mr8 hRw ?w8 ?w9 ?g8 ?g9 ?r8 ?q8 ?e8
      case F8 => exact F₇
      case N8 => exact fun p hp => N₇ p (sub_perm p hp)
      case B8 => exact B₇
      case X8 => with_reducible assumption
      case T8 => with_reducible assumption
      case cw8 => rw [hwN]; exact hdW
      case qL8 => omega
      case mr8 => exact rfl
      case mh8 => rw [hGl, Int.toNat_of_nonneg (by omega)]; exact rfl
      case w8 => omega
      case w9 => omega
      case g8 => omega
      case g9 => omega
      case r8 => exact hr₇
      case e8 => with_unfolding_all passes_own
      case q8 =>
        intro h₈ tk₈ m₈ news₈ F₈ N₈
        k_unmd
        k_steps
        all_goals w_report
end Law1

end Mine

set_option maxRecDepth 100000 in
set_option maxHeartbeats 8000000 in
theorem PySem.Challenge.cw_xm0802_01_holds : PySem.Challenge.rw_xm0802_01.Holds := by
  exact Mine.law_holds
