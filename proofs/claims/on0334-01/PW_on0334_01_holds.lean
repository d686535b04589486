import PyProof.Rows.All
import Wide.All
import OpenK.AllK
import Wide.FinOn
import PySem.Challenge.RW_on0334_01
open PySem PySem.W PyProof.Rows
set_option Elab.async false
section
open PySem PySem.W PyProof.Rows
set_option maxRecDepth 100000
set_option maxHeartbeats 0
namespace Mine
open_top hd for PySem.Challenge.rw_on0334_01
end Mine
end
section
open PySem PySem.W PySem.Spec PySem.Calls PyProof.Rows
set_option maxRecDepth 100000
set_option maxHeartbeats 0
namespace Mine
noncomputable abbrev PR : Program := PySem.Challenge.rw_on0334_01.row.prog
noncomputable abbrev KK (w : World) : Frag := hd.heap_39 w.params
noncomputable abbrev LO : List Str :=
    (looseW hd.view_39 [] ++ List.map (fun x => x.name) (recsOf hd.view_39) ++
        List.map (fun x => x.fst) (litsOf hd.view_39) ++
      List.map (fun x => x.name) (clssOf hd.view_39 (looseW hd.view_39 [])))
end Mine
end
section
open PySem PySem.W PySem.Spec PySem.Calls PyProof.Rows
set_option maxRecDepth 100000
set_option maxHeartbeats 0
namespace Mine

theorem item_led {prog : Program} {w : World} {A : Around} {E : Value → Shared → Prop} {s : Shared} {h₀ : Heap} {L : Addr} {news : List (Addr × Obj)} {value slice : PySem.Expr} {l : Addr} {its : Array Value} {n : Nat} {k : Int} {u : Tok} {v : Value} {Q : Value → Shared → Prop}
    (N : News h₀ L s.heap news) (hm : (l, listOf its n) ∈ news) (h0 : 0 ≤ k) (hhi : k < 2 ^ 63) (hx : its[k.toNat]? = some v) (h : Q v s)
    (hs : subscripted slice false (.ref l) (.int k u) = operate [.ref l, .int k u] (getItem (.ref l) (.int k u))) :
    wpAny (model prog w) A (subscriptTail value slice (.ref l) (.int k u)) Q E s :=
  have hl : s.heap.IsList l its := ⟨_, (N _ hm).1, rfl, n, rfl⟩
  tail_any hl.typeIs slot_list_getitem.lookup (wpAny_getItem_list hl h0 hhi hx h) hs

theorem item_two0 {prog : Program} {w : World} {A : Around} {E : Value → Shared → Prop} {s : Shared} {h₀ : Heap} {L : Addr} {news : List (Addr × Obj)} {value slice : PySem.Expr} {l : Addr} {v v' : Value} {n : Nat} {u : Tok} {Q : Value → Shared → Prop}
    (N : News h₀ L s.heap news) (hm : (l, listOf #[v, v'] n) ∈ news) (h : Q v s)
    (hs : subscripted slice false (.ref l) (.int 0 u) = operate [.ref l, .int 0 u] (getItem (.ref l) (.int 0 u))) :
    wpAny (model prog w) A (subscriptTail value slice (.ref l) (.int 0 u)) Q E s := item_led N hm (by decide) (by decide) rfl h hs
theorem item_two1 {prog : Program} {w : World} {A : Around} {E : Value → Shared → Prop} {s : Shared} {h₀ : Heap} {L : Addr} {news : List (Addr × Obj)} {value slice : PySem.Expr} {l : Addr} {v v' : Value} {n : Nat} {u : Tok} {Q : Value → Shared → Prop}
    (N : News h₀ L s.heap news) (hm : (l, listOf #[v, v'] n) ∈ news) (h : Q v' s)
    (hs : subscripted slice false (.ref l) (.int 1 u) = operate [.ref l, .int 1 u] (getItem (.ref l) (.int 1 u))) :
    wpAny (model prog w) A (subscriptTail value slice (.ref l) (.int 1 u)) Q E s := item_led N hm (by decide) (by decide) rfl h hs

theorem news_cut {src : Addr} {o : Obj} {news : List (Addr × Obj)} {g : Obj → List (Addr × Obj)} (U : UpdF src o news g) :
    ∃ rest, (∀ p ∈ rest, p.1 ≠ src) ∧ (∀ p ∈ news, p.1 ≠ src → p ∈ rest) ∧ (∀ h₀ L h, News h₀ L h news → News h₀ L h ((src, o) :: rest)) ∧ (∀ h₀ L h o', News h₀ L h ((src, o') :: rest) → News h₀ L h (g o')) := by
  obtain ⟨pre, post, rfl, hg, h1, h2⟩ := U.split
  refine ⟨pre ++ post, ?_, ?_, ?_, ?_⟩
  · intro p hp
    exact (List.mem_append.mp hp).elim (h1 p) (h2 p)
  · intro p hp hne
    rcases List.mem_append.mp hp with hp | hp
    · exact List.mem_append_left _ hp
    · rcases List.mem_cons.mp hp with rfl | hp
      · exact absurd rfl hne
      · exact List.mem_append_right _ hp
  · intro h₀ L h N p hp
    rcases List.mem_cons.mp hp with rfl | hp
    · exact N _ (List.mem_append_right _ (.head _))
    · rcases List.mem_append.mp hp with hp | hp
      · exact N _ (List.mem_append_left _ hp)
      · exact N _ (List.mem_append_right _ (.tail _ hp))
  · intro h₀ L h o' N p hp
    rw [hg] at hp
    rcases List.mem_append.mp hp with hp | hp
    · exact N _ (.tail _ (List.mem_append_left _ hp))
    · rcases List.mem_cons.mp hp with rfl | hp
      · exact N _ (.head _)
      · exact N _ (.tail _ (List.mem_append_right _ hp))

theorem item_ints {prog : Program} {w : World} {A : Around} {E : Value → Shared → Prop} {s : Shared} {h₀ : Heap} {L : Addr} {news : List (Addr × Obj)} {value slice : PySem.Expr} {l : Addr} {its : Array Value} {ns : List Int} {n : Nat} {k : Int} {u : Tok} {Q : Value → Shared → Prop}
    (N : News h₀ L s.heap news) (hm : (l, listOf its n) ∈ news) (hi : IntsAre its.toList ns) (h0 : 0 ≤ k) (hhi : k < ns.length) (hb : ns.length < 1000) (h : ∀ v t, v ∈ ns → Q (.int v t) s)
    (hs : subscripted slice false (.ref l) (.int k u) = operate [.ref l, .int k u] (getItem (.ref l) (.int k u))) :
    wpAny (model prog w) A (subscriptTail value slice (.ref l) (.int k u)) Q E s := by
  have hk : k.toNat < ns.length := by omega
  obtain ⟨t, ht⟩ := hi.get k.toNat ns[k.toNat] (by simp [hk])
  refine item_led N hm h0 (by omega) (v := .int ns[k.toNat] t) (by simpa using ht) (h _ _ (List.getElem_mem _)) hs

theorem len_ints {prog : Program} {w : World} {A : Around} {E : Value → Shared → Prop} {s : Shared} {h₀ : Heap} {L : Addr} {news : List (Addr × Obj)} {l : Addr} {its : Array Value} {ns : List Int} {n : Nat} {Q : Value → Shared → Prop}
    (N : News h₀ L s.heap news) (hm : (l, listOf its n) ∈ news) (hi : IntsAre its.toList ns) (hb : ns.length < 1000) (h : Q (.int ns.length (s.toks + 1)) { s with toks := s.toks + 1 + 1 }) :
    wpAny (model prog w) A (call (.builtin "len") [.ref l]) Q E s := by
  have e : its.size = ns.length := by simpa using hi.length
  refine len_list (items := its) ⟨_, (N _ hm).1, rfl, n, rfl⟩ (by omega) ?_
  rw [e]; exact h

theorem log2_big {y : Int} (h0 : -4294967297 < y) (h1 : y < 4294967297) : y.natAbs.log2 < 9000 := by
  by_cases h : y.natAbs = 0
  · rw [h]; decide
  · refine (Nat.log2_lt h).mpr (Nat.lt_of_lt_of_le (m := 2 ^ 64) (by omega) ?_)
    exact Nat.pow_le_pow_right (by decide) (by decide)

theorem fmod_lo' (a : Int) {n : Int} (h : 0 < n) : 0 ≤ a.fmod n := Int.fmod_nonneg_of_pos a h
theorem fmod_hi' (a : Int) {n : Int} (h : 0 < n) : a.fmod n < n := Int.fmod_lt_of_pos a h
theorem fdiv_nn {a b : Int} (ha : 0 ≤ a) (hb : 0 < b) : 0 ≤ a.fdiv b := Int.fdiv_nonneg ha (Int.le_of_lt hb)
end Mine
end
section
open PySem PySem.W PySem.Spec PySem.Calls PyProof.Rows
set_option maxRecDepth 100000
set_option maxHeartbeats 1000000
namespace Mine
local macro_rules | `(tactic| k_all) => `(tactic| assumption)
local macro_rules | `(tactic| walk_at $s:str) => `(tactic| k_extra $s)

theorem take_ok {w : World} {mg mb : Str → Option Value} {mean : ExcName → Option Value} {A₀ : Around} {base h₀ : Heap} {outer : List Env} {L : Addr} {m : Str → Option Value} {cs : Scope} {dp un : Nat}
    {gd : Option (List Code)} {cn : Str} {a : Addr} {ccd : Value} {cl : List (Str × Addr)} {s : Shared} {Q E : Value → Shared → Prop}
    {src : Addr} {x y : Int} {tx ty : Tok} {n : Nat} {rest : List (Addr × Obj)} {top : Int} {tt : Tok}
    (B : Below A₀ base outer h₀) (F : Fr h₀ L s.heap m) (X : (KK w).In h₀) (N : News h₀ L s.heap ((src, listOf #[.int x tx, .int y ty] n) :: rest)) (T : Top topProg LO mean mg mb h₀)
    (hk : cs.kind = .function) (hd : dp + 1 < recursionLimit) (hu : un + 8 < cLine)
    (hr : ∀ p ∈ rest, p.1 ≠ src) (hx : 0 ≤ x) (hy : 0 ≤ y) (hy' : y < 2147483647) (ht : 0 < top) (ht' : top ≤ 4294967296)
    (hret : ∀ v t x' tx' y' ty' h' tk', Fr h₀ L h' m → News h₀ L h' ((src, listOf #[.int x' tx', .int y' ty'] n) :: rest) → 0 ≤ x' → 0 ≤ y' → y' < 2147483647 → 0 ≤ v → v < top → Q (.int v t) { s with heap := h', toks := tk' }) :
    wpAny (model PR w) (ktrTop dp un gd cn cs L a ccd cl outer) (call (.ref 128) [.ref src, .int top tt]) Q E s := by
  k_with_none
  (k_with "subscriptTail Name Constant ref int" => ((k_here; (k_dflt (first | ((with_reducible show wpAny _ _ (subscriptTail _ _ (Value.ref _) (Value.int 0 _)) _ _ _); refine' item_two0 ?k1x0 ?k2x0 ?_ ?k6x0; (case k1x0 => k_asm); (case k2x0 => k_mem); (case k6x0 => with_unfolding_all rfl); k_whole) | ((with_reducible show wpAny _ _ (subscriptTail _ _ (Value.ref _) (Value.int 1 _)) _ _ _); refine' item_two1 ?k1x0 ?k2x0 ?_ ?k6x0; (case k1x0 => k_asm); (case k2x0 => k_mem); (case k6x0 => with_unfolding_all rfl); k_whole))))))
  (k_with "binaryOp Mult int int" => ((k_here; (try k_fmods); (with_reducible refine mul_int ?_ ?kzx1); (case kzx1 => mul_fits))))
  (k_with "binaryOp FloorDiv int int" => ((k_here; (with_reducible refine floordiv_int ?kbx2 ?_ (Or.inl (PyProof.noPylong_of_log2 (log2_big ?klx2 ?khx2)))); (case kbx2 => omega); (case klx2 => omega); (case khx2 => omega))))
  revert X; dsimp only [KK, PR]; k_fill; intro X
  refine wpAny_call ?_
  k_dflt cell_enter
  k_steps
  · refine' hret _ _ _ _ _ _ _ _ ?a ?b ?c hy hy' (fmod_lo' _ ht) (fmod_hi' _ ht)
    (case a => k_asm)
    (case b => k_asm)
    (case c => exact fdiv_nn hx ht)
  · refine' hret _ _ _ _ _ _ _ _ ?a ?b ?c ?d ?e (fmod_lo' _ ht) (fmod_hi' _ ht)
    (case a => k_asm)
    (case b => k_asm)
    (case c => exact hx)
    (case d => exact fmod_lo' _ (by decide))
    (case e => exact fmod_hi' _ (by decide))
end Mine
end
section
open PySem PySem.W PySem.Spec PySem.Calls PyProof.Rows
set_option maxRecDepth 100000
set_option maxHeartbeats 2000000
namespace Mine
theorem take_use {w : World} {mg mb : Str → Option Value} {mean : ExcName → Option Value} {A₀ : Around} {base h₀ : Heap} {outer : List Env} {L : Addr} {m : Str → Option Value} {cs : Scope} {dp un : Nat}
    {gd : Option (List Code)} {cn : Str} {a : Addr} {ccd : Value} {cl : List (Str × Addr)} {s : Shared} {Q E : Value → Shared → Prop}
    {src : Addr} {x y : Int} {tx ty : Tok} {n : Nat} {news : List (Addr × Obj)} {g : Obj → List (Addr × Obj)} {top : Int} {tt : Tok}
    (B : Below A₀ base outer h₀) (F : Fr h₀ L s.heap m) (X : (KK w).In h₀) (N : News h₀ L s.heap news) (T : Top topProg LO mean mg mb h₀)
    (hk : cs.kind = .function) (hd : dp + 1 < recursionLimit) (hu : un + 8 < cLine)
    (U : UpdF src (listOf #[.int x tx, .int y ty] n) news g) (hx : 0 ≤ x) (hy : 0 ≤ y) (hy' : y < 2147483647) (ht : 0 < top) (ht' : top ≤ 4294967296)
    (hret : ∀ v t x' tx' y' ty' h' tk', Fr h₀ L h' m → News h₀ L h' (g (listOf #[.int x' tx', .int y' ty'] n)) → 0 ≤ x' → 0 ≤ y' → y' < 2147483647 → 0 ≤ v → v < top → Q (.int v t) { s with heap := h', toks := tk' }) :
    wpAny (model PR w) (ktrTop dp un gd cn cs L a ccd cl outer) (call (.ref 128) [.ref src, .int top tt]) Q E s := by
  obtain ⟨rest, h1, _, h3, h4⟩ := news_cut U
  exact take_ok B F X (h3 _ _ _ N) T hk hd hu h1 hx hy hy' ht ht' fun v t x' tx' y' ty' h' tk' F' N' => hret v t x' tx' y' ty' h' tk' F' (h4 _ _ _ _ N')

local macro_rules | `(tactic| k_all) => `(tactic| assumption)
local macro_rules | `(tactic| k_mem) => `(tactic| assumption)
local macro_rules | `(tactic| walk_at $s:str) => `(tactic| k_extra $s)

theorem one_ok {w : World} {mg mb : Str → Option Value} {mean : ExcName → Option Value} {A₀ : Around} {base h₀ : Heap} {outer : List Env} {L : Addr} {m : Str → Option Value} {cs : Scope} {dp un : Nat}
    {gd : Option (List Code)} {cn : Str} {a : Addr} {ccd : Value} {cl : List (Str × Addr)} {s : Shared} {Q E : Value → Shared → Prop}
    {src : Addr} {x y : Int} {tx ty : Tok} {n : Nat} {rest : List (Addr × Obj)} {th : Addr} {its : Array Value} {ns : List Int} {k : Nat}
    (B : Below A₀ base outer h₀) (F : Fr h₀ L s.heap m) (X : (KK w).In h₀) (N : News h₀ L s.heap ((src, listOf #[.int x tx, .int y ty] n) :: rest)) (T : Top topProg LO mean mg mb h₀)
    (hk : cs.kind = .function) (hd : dp + 2 < recursionLimit) (hu : un + 16 < cLine)
    (hr : ∀ p ∈ rest, p.1 ≠ src) (hm : (th, listOf its k) ∈ rest) (hi : IntsAre its.toList ns) (hn0 : 0 < ns.length) (hn1 : ns.length < 1000) (hx : 0 ≤ x) (hy : 0 ≤ y) (hy' : y < 2147483647)
    (hret : ∀ v t x' tx' y' ty' h' tk', Fr h₀ L h' m → News h₀ L h' ((src, listOf #[.int x' tx', .int y' ty'] n) :: rest) → 0 ≤ x' → 0 ≤ y' → y' < 2147483647 → v ∈ ns → Q (.int v t) { s with heap := h', toks := tk' }) :
    wpAny (model PR w) (ktrTop dp un gd cn cs L a ccd cl outer) (call (.ref 135) [.ref src, .ref th]) Q E s := by
  k_with_none
  (k_with "call ref" => ((k_here; (with_reducible show wpAny _ _ (call (Value.ref 128) _) _ _ _); k_dflt (refine' take_use ?k1x0 ?k2x0 ?k3x0 ?k4x0 ?k5x0 ?k6x0 ?k7x0 ?k8x0 ?k9x0 ?k10x0 ?k11x0 ?k12x0 ?k13x0 ?k14x0 ?_; (case k1x0 => k_asm); (case k2x0 => k_asm); (case k3x0 => k_asm); (case k4x0 => k_asm); (case k5x0 => k_asm); (case k6x0 => first | exact rfl | assumption); (case k7x0 => ktr_room); (case k8x0 => ktr_units); (case k9x0 => k_updF); (case k10x0 => first | assumption | omega); (case k11x0 => first | assumption | omega); (case k12x0 => first | assumption | omega); (case k13x0 => first | assumption | omega); (case k14x0 => first | assumption | omega); k_whole; intro v' t' x' tx' y' ty' h' tk' F' N' hx' hy' hz' hv' hw'; (try dsimp only at N'); (try k_sweep); (try dsimp only); (try k_fold)))))
  (k_with "subscriptTail" => ((k_here; (with_reducible show wpAny _ _ (subscriptTail _ _ (Value.ref _) (Value.int _ _)) _ _ _); k_dflt (refine' item_ints ?k1x1 ?k2x1 ?k3x1 ?k4x1 ?k5x1 ?k7x1 ?_ ?k6x1; (case k1x1 => k_asm); (case k2x1 => k_mem); (case k3x1 => k_asm); (case k4x1 => omega); (case k5x1 => omega); (case k7x1 => omega); (case k6x1 => with_unfolding_all rfl); k_whole; intro v' t' hv'))))
  (k_with "call builtin:len" => ((k_here; (with_reducible show wpAny _ _ (call (Value.builtin "len") [Value.ref _]) _ _ _); k_dflt (refine' len_ints ?k1x2 ?k2x2 ?k3x2 ?k4x2 ?_; (case k1x2 => k_asm); (case k2x2 => k_mem); (case k3x2 => k_asm); (case k4x2 => omega); k_whole))))
  revert X; dsimp only [KK, PR]; k_fill; intro X
  refine wpAny_call ?_
  k_dflt cell_enter
  k_steps
  refine' hret _ _ _ _ _ _ _ _ ?a ?b ?c ?d ?e ?f
  (case a => k_asm)
  (case b => k_asm)
  all_goals assumption

theorem one_use {w : World} {mg mb : Str → Option Value} {mean : ExcName → Option Value} {A₀ : Around} {base h₀ : Heap} {outer : List Env} {L : Addr} {m : Str → Option Value} {cs : Scope} {dp un : Nat}
    {gd : Option (List Code)} {cn : Str} {a : Addr} {ccd : Value} {cl : List (Str × Addr)} {s : Shared} {Q E : Value → Shared → Prop}
    {src : Addr} {x y : Int} {tx ty : Tok} {n : Nat} {news : List (Addr × Obj)} {g : Obj → List (Addr × Obj)} {th : Addr} {its : Array Value} {ns : List Int} {k : Nat}
    (B : Below A₀ base outer h₀) (F : Fr h₀ L s.heap m) (X : (KK w).In h₀) (N : News h₀ L s.heap news) (T : Top topProg LO mean mg mb h₀)
    (hk : cs.kind = .function) (hd : dp + 2 < recursionLimit) (hu : un + 16 < cLine)
    (U : UpdF src (listOf #[.int x tx, .int y ty] n) news g) (hm : (th, listOf its k) ∈ news) (hne : th ≠ src) (hi : IntsAre its.toList ns) (hn0 : 0 < ns.length) (hn1 : ns.length < 1000) (hx : 0 ≤ x) (hy : 0 ≤ y) (hy' : y < 2147483647)
    (hret : ∀ v t x' tx' y' ty' h' tk', Fr h₀ L h' m → News h₀ L h' (g (listOf #[.int x' tx', .int y' ty'] n)) → 0 ≤ x' → 0 ≤ y' → y' < 2147483647 → v ∈ ns → Q (.int v t) { s with heap := h', toks := tk' }) :
    wpAny (model PR w) (ktrTop dp un gd cn cs L a ccd cl outer) (call (.ref 135) [.ref src, .ref th]) Q E s := by
  obtain ⟨rest, h1, h2, h3, h4⟩ := news_cut U
  exact one_ok B F X (h3 _ _ _ N) T hk hd hu h1 (h2 _ hm hne) hi hn0 hn1 hx hy hy' fun v t x' tx' y' ty' h' tk' F' N' => hret v t x' tx' y' ty' h' tk' F' (h4 _ _ _ _ N')
end Mine
end
section
open PySem PySem.W PySem.Spec PySem.Calls PyProof.Rows
set_option maxRecDepth 100000
set_option maxHeartbeats 400000
namespace Mine
local macro_rules | `(tactic| walk_at $s:str) => `(tactic| k_extra $s)

theorem pool_ok {w : World} {mg mb : Str → Option Value} {mean : ExcName → Option Value} {A₀ : Around} {base h₀ : Heap} {outer : List Env} {L : Addr} {m : Str → Option Value} {cs : Scope} {dp un : Nat}
    {gd : Option (List Code)} {cn : Str} {a : Addr} {ccd : Value} {cl : List (Str × Addr)} {s : Shared} {Q E : Value → Shared → Prop} {news : List (Addr × Obj)}
    {l : Addr} {vs : List Value} {ns : List Int} {k : Int} {tt : Tok}
    (B : Below A₀ base outer h₀) (F : Fr h₀ L s.heap m) (X : (KK w).In h₀) (N : News h₀ L s.heap news) (T : Top topProg LO mean mg mb h₀)
    (hk : cs.kind = .function) (hd : dp + 1 < recursionLimit) (hu : un + 8 < cLine)
    (hl : base.IsList l vs.toArray) (hi : IntsAre vs ns) (hlen : ns.length ≤ 63) (hk0 : 0 ≤ k) (hk1 : k < 3)
    (hret : ∀ D x' tx' y' ty' h' tk', Fr h₀ L h' m → News h₀ L h' ((D, listOf #[.int x' tx', .int y' ty'] 0) :: news) → (∀ p ∈ news, p.1 < D) → 0 ≤ x' → 0 ≤ y' → y' < 2147483647 → Q (.ref D) { s with heap := h', toks := tk' }) :
    wpAny (model PR w) (ktrTop dp un gd cn cs L a ccd cl outer) (call (.ref 121) [.ref l, .int k tt]) Q E s := by
  k_with_none
  (k_with "binaryOp Mult int int" => ((k_here; (first | ((with_reducible refine mul_int ?_ ?kzx0); (case kzx0 => mul_fits)) | ((try dsimp only); (try k_fmods); (with_reducible refine mul_int ?_ ?kzx0); (case kzx0 => mul_fits))))))
  revert X; dsimp only [KK, PR]; k_fill; intro X
  refine wpAny_call ?_
  k_dflt cell_enter
  k_steps
  all_goals (
    refine' hret _ _ _ _ _ _ _ ?zza ?zzb ?zzc ?zzd ?zze ?zzf
    (case zza => k_asm)
    (case zzb => k_asm)
    (case zzc => assumption)
    (case zzd => first | exact Int.le_refl 0 | (split <;> omega) | omega)
    (case zze => exact fmod_lo' _ (by decide))
    (case zzf => exact fmod_hi' _ (by decide)))
end Mine
end
section
open PySem PySem.W PySem.Spec PySem.Calls PyProof.Rows
set_option maxRecDepth 100000
set_option maxHeartbeats 1000000
namespace Mine

abbrev bmF : List Value := [.ref 31, .type "Exception", .type "BaseException", .type "object"]
abbrev clsF : Obj := excClassObj (Str.ofString "FormError") (Str.ofString "FormError") 44 43 [.ref 31] bmF true [] [] false none none (some (.ref 35)) none (some (.str (Str.ofString "FormError") 218)) (some (.str (Str.ofString "FormError") 226)) (some (.bool true)) "Exception.__new__"
theorem clsF_in {w : World} {h : Heap} (X : (KK w).In h) : h.get? 44 = some clsF := X _ _ (by kernel_rfl)

abbrev excF (t : Addr) : Obj := { cls := .ref 44, data := .fields #[.ref t, .none, .none, .none, .bool false, .none] }
abbrev tupF (pos : List Value) : Obj := { cls := .type "tuple", data := .seq pos.toArray }

section
variable {M : Model} {A : Around} {E : Value → Shared → Prop} {h : Heap} {g : Array GenState} {d : Drawn} {t : Nat} {os : OsState}
theorem check_new_F {rest : List Value} {Q : Unit → Shared → Prop} (hC : h.get? 44 = some clsF)
    (hq : Q () ⟨h, g, d, t, os⟩) : wpAny M A (checkBuiltinCall "Exception.__new__" ⟨.ref 44 :: rest, []⟩) Q E ⟨h, g, d, t, os⟩ := by
  have Fn := PySem.F.excBase_Exception
  have hcont : (Value.ref 44 :: bmF).contains (.type "Exception") = true := by decide +kernel
  have hstar := Fn.noStar
  simp only [checkBuiltinCall, Fn.newKind, Fn.newSplit, Fn.newRow]
  repeat (first | refine wpAny_loadPart_at hC ?_ | (refine wpAny_isSubtype_exc hC ?_; rw [hcont]) | refine wpAny_staticBase_exc hC ?_ | refine wpAny_madeBy_exc hC ?_ | simp only [bne_self_eq_false, Bool.false_eq_true, if_false] | wp_step)
  exact hq
end
section
variable {prog : Program} {w : World} {A : Around} {R : Result → Shared → Prop} {h : Heap} {g : Array GenState} {d : Drawn} {t : Nat} {os : OsState}
theorem exc_new_F {rest : List Value} (hC : h.get? 44 = some clsF)
    (hq : R (.ok (.ret (.ref (h.objs.size + 1)))) ⟨(h.push (tupF rest)).push (excF h.objs.size), g, d, t, os⟩) (hrest : rest.length ≤ sizeLine) :
    codeAny (model prog w) A (.builtin "Exception.__new__" ⟨.ref 44 :: rest, []⟩) R ⟨h, g, d, t, os⟩ := by
  have Fn := PySem.F.excBase_Exception
  have hends := Fn.ends
  have hcB : (Value.ref 44 :: bmF).contains (.type "Exception") = true := by decide +kernel
  have hcA : (Value.ref 44 :: bmF).contains (.type "AttributeError") = false := by decide +kernel
  have hcN : (Value.ref 44 :: bmF).contains (.type "NameError") = false := by decide +kernel
  refine codeAny_builtinAt Fn.entry ?_
  unfold Builtin.«BaseException.__new__»
  refine PySem.wpAt_bind ?_
  show PySem.wpAt _ _ _ (stack >>= _) _ _ _
  refine PySem.wpAt_bind (PySem.wpAt_stack fun p below => PySem.wpAt_of_wpAny ?_)
  wp_walk
  refine PySem.wpAt_of_wpAny ?_
  rw [Fn.owner]
  repeat (first | with_reducible refine wpAny_madeHere_exc Fn.canon hC ?_ | with_reducible refine wpAny_loadPart_at hC ?_ | (with_reducible refine wpAny_isSubtype_exc hC ?_; first | rw [hcB] | rw [hcA] | rw [hcN]) | wp_step)
  show R _ _
  rw [Heap.size_push]
  exact hq
end

section
variable {prog : Program} {w : World} {A : Around} {E : Value → Shared → Prop} {s : Shared} {h₀ : Heap} {L : Addr} {m : Str → Option Value} {news : List (Addr × Obj)} {Q : Value → Shared → Prop}
theorem call_form {pos : List Value} (F : Fr h₀ L s.heap m) (X₀ : (KK w).In h₀) (N : News h₀ L s.heap news) (hrest : pos.length ≤ sizeLine)
    (h : ∀ x t h', Fr h₀ L h' m → News h₀ L h' ((x, excF t) :: (t, tupF pos) :: news) → (∀ p ∈ news, p.1 < t) → t < x →
      codeAny (model prog w) (A.under (.builtin "type.__call__" ⟨.ref 44 :: pos, []⟩)) (.call (.ref 28) ⟨.ref x :: pos, []⟩) (InitBack x fun r s' => match r with | .ok (.ret v) => Q v s' | .ok _ => False | .error e => E e s') { s with heap := h' }) :
    wpAny (model prog w) A (call (.ref 44) pos) Q E s := by
  obtain ⟨hp, g, d, tk, os⟩ := s
  have X := X₀.keeps F.keep
  have hC : hp.get? 44 = some clsF := clsF_in X
  have f1 := tc_lookup
  have f2 := tc_bind (.ref 44)
  have hT : (⟨hp, g, d, tk, os⟩ : Shared).TypeIs (.ref 44) "type" := ⟨_, hC, rfl⟩
  have N' := (N.push F (tupF pos)).push (F.push _) (excF hp.objs.size)
  rw [Heap.size_push] at N'
  have z := h _ hp.objs.size _ ((F.push _).push _) N' (fun p hp => Heap.lt_size (N p hp).1) (Nat.lt_succ_self _)
  clear h
  refine wpAny_call (codeAny_of_tree ?_)
  show wpAny _ _ (callAny (.ref 44) _) _ _ _
  repeat (any_goals (first | assumption | with_reducible refine wpAny_loadPart_at hC ?_ | wp_step))
  refine ⟨rfl, ?_⟩
  refine codeAny_call_builtin_at (Code.quiet_builtin _ (by decide +kernel)) entry_typeCall (wpAny_check_type_call_sub hC ?_)
  repeat (first | with_reducible refine wpAny_loadPart_at hC ?_ | with_reducible refine wpAny_madeBy_exc hC ?_ | wp_step)
  refine codeAny_call_builtin_code (Code.quiet_builtin _ PySem.F.excBase_Exception.quiet) (check_new_F hC ?_)
  refine exc_new_F hC ?_ hrest
  show wpAny _ _ _ _ _ _
  have X₁ : (KK w).In ((hp.push (tupF pos)).push (excF hp.objs.size)) := X.keeps fun b o e => Heap.get?_push_of_some _ (Heap.get?_push_of_some _ e)
  have hC₁ := clsF_in X₁
  have hget : ((hp.push (tupF pos)).push (excF hp.objs.size)).get? (hp.objs.size + 1) = some (excF hp.objs.size) := by heap_get
  have hcC : (Value.ref 44 :: bmF).contains (.ref 44) = true := by simp
  unfold isInstance
  repeat (first | with_reducible refine wpAny_loadPart_at hget ?_ | wp_step)
  refine wpAny_isSubtype_exc hC₁ ?_
  rw [hcC]
  repeat (first | with_reducible refine wpAny_loadPart_at hget ?_ | wp_step)
  show wpAny _ _ (typeLookup (.ref 44) (Str.ofString "__init__")) _ _ _
  have hi : findIn (KK w) (.ref 44) "__init__" = some (some (.ref 28)) := by kernel_rfl
  have hf : typeIn (KK w) (.ref 28) = some (.type "function") := by kernel_rfl
  refine looks_findIn X₁ hi _ _ _ _ (fun _ _ e => e) ?_
  refine wpAny_holding (wpAny_bind (bind_fn X₁ (.ref (hp.objs.size + 1)) hf _ _ _ _ (fun _ _ e => e) ?_))
  refine wpAny_bind (wpAny_call (codeAny_mono z fun r s' y => ?_))
  rcases r with e | (v | _ | _ | _) <;> first | exact y | exact y.elim | skip
  obtain ⟨rfl, y⟩ := y
  exact wpAny_pure (wpAny_pure y)
end
end Mine
end
section
open PySem PySem.W PySem.Spec PySem.Calls PyProof.Rows
set_option maxRecDepth 100000
set_option maxHeartbeats 1000000
namespace Mine
section
variable {prog : Program} {w : World} {A : Around} {E : Value → Shared → Prop} {h : Heap} {g : Array GenState} {d : Drawn} {tk : Nat} {os : OsState}
abbrev cdF : ClassData := { name := Str.ofString "FormError", bases := [.ref 31], mro := .ref 44 :: bmF, ns := 43, qualname := Str.ofString "FormError", hasDict := true, slotNames := [], subclasses := [], abstract := false, collection := none, hasDel := false }
theorem set_form {x t : Addr} {v : Value} {Q : Unit → Shared → Prop} (X : (KK w).In h) (hx : h.get? x = some (excF t))
    (hq : ∀ h' tk' dx, (∀ b o, b ≠ x → h.get? b = some o → h'.get? b = some o) → h'.get? x = some { excF t with dict := some dx } → Q () ⟨h', g, d, tk', os⟩) :
    wpAny (model prog w) A (setAttr (.ref x) (Str.ofString "message") v) Q E ⟨h, g, d, tk, os⟩ := by
  have I : InstAt h x (excF t) 44 none := ⟨hx, rfl, rfl, trivial⟩
  have hs : findIn (KK w) (.ref 44) "__setattr__" = some (some (.builtin "object.__setattr__")) := by kernel_rfl
  have hmsg : findIn (KK w) (.ref 44) "message" = some none := by kernel_rfl
  have hobj : mroIn (KK w) 44 (.type "object") = some true := by kernel_rfl
  have hc : clsIn (KK w) 44 = some cdF := by kernel_rfl
  refine set_plain (s := ⟨h, g, d, tk, os⟩) X I hs ?_
  have SF := PySem.F.store_object
  have sub : Looks (model prog w) h (isInstance (.ref x) (.type "object")) true := I.type.andThen (looks_mroIn X hobj)
  have hm : Looks (model prog w) h (mroOf (.ref 44)) (.ref 44 :: bmF) := (looks_clsIn X hc).andThen .now
  refine codeAny_call_builtin SF.slot.plain SF.entry (@check_slot (model prog w) _ _ _ "object.__setattr__" "object" "__setattr__" (.ref x) [.str (Str.ofString "message") tk, v] [] _ SF.kind SF.split sub (SF.args (.ref x) (.str (Str.ofString "message") tk) v) ?_)
  rw [osa_eq, refuse_eq]
  refine wpAny_bind (wpAny_bind (I.type _ _ _ _ (fun _ _ e => e) (wpAny_bind (hm _ _ _ _ (fun _ _ e => e) ?_))))
  rw [refuseLoop_ref, refuseLoop_ref, PySem.F.store_Exception.passes]
  refine wpAny_pure (wpAny_bind (I.type _ _ _ _ (fun _ _ e => e) (wpAny_bind (looks_findIn X hmsg _ _ _ _ (fun _ _ e => e) (wpAny_bind (wpAny_pure ?_))))))
  refine wpAny_bind (wpAny_pure (wpAny_bind (wpAny_bind (wpAny_loadPart hx (wpAny_bind (looks_clsIn X hc _ _ _ _ (fun _ _ e => e) ?_))))))
  have hx₁ : (h.push { cls := .type "dict", data := .dict #[] }).get? x = some (excF t) := Heap.get?_push_of_some _ hx
  have hxs : x ≠ h.objs.size := Nat.ne_of_lt (Heap.lt_size hx)
  rw [if_neg (by decide)]
  refine wpAny_bind (m := alloc { cls := .type "dict", data := .dict #[] }) (wpAny_alloc ?_)
  refine wpAny_bind (wpAny_update hx₁ ?_)
  refine wpAny_pure ?_
  have hgd : ((h.push { cls := .type "dict", data := .dict #[] }).update x fun o => { cls := o.cls, dict := some h.objs.size, data := o.data, slots := o.slots }).get? h.objs.size
      = some { cls := .type "dict", data := .dict #[] } :=
    (Heap.get?_update_ne _ _ _ _ hxs.symm).trans (Heap.get?_push_at rfl rfl)
  have hnd : ((h.push { cls := .type "dict", data := .dict #[] }).update x fun o => { cls := o.cls, dict := some h.objs.size, data := o.data, slots := o.slots }).Ns h.objs.size (fun _ => none) :=
    ⟨_, #[], _, hgd, rfl, fun e he => absurd he (by simp), fun _ => rfl⟩
  show wpAny _ _ (Builtin.ObjectAttr.storeInDict h.objs.size (.str (Str.ofString "message") tk) (Str.ofString "message") v) _ _ _
  unfold Builtin.ObjectAttr.storeInDict Builtin.ObjectAttr.newKeyGuard
  refine wpAny_bind (wpAny_pure (wpAny_bind (wpAny_nsSet1 (Heap.Ns1.of_empty hnd) fun h' hn' hs' => ?_)))
  obtain ⟨oD, esD, epD, hoD, hdD, hcD⟩ := hn'.count (Within.cons (Str.ofString "message") v Within.nil)
  refine wpAny_bind (wpAny_lookBehind hoD (by rw [hdD]; exact pastItsLine_dict (Nat.le_trans hcD (by rw [List.length_cons, List.length_nil, sizeLine_eq]; omega))) ?_)
  have hx' : h'.get? x = some { excF t with dict := some h.objs.size } :=
    (hs'.2 x hxs).trans (Heap.get?_update_self _ hx₁ rfl)
  refine wpAny_pure ?_
  refine hq _ _ _ (fun b o hbx hb => ?_) hx'
  exact (hs'.2 b (Nat.ne_of_lt (Heap.lt_size hb))).trans ((Heap.get?_update_ne _ _ _ _ hbx).trans (Heap.get?_push_of_some _ hb))
end
end Mine
end
section
open PySem PySem.W PySem.Spec PySem.Calls PyProof.Rows
set_option maxRecDepth 100000
set_option maxHeartbeats 1000000
namespace Mine

def RaisableF (w : World) (E : Value → Shared → Prop) (v : Value) (s₁ : Shared) : Prop :=
  ∃ x t dx, v = .ref x ∧ (KK w).In s₁.heap ∧ s₁.heap.get? x = some { excF t with dict := some dx } ∧ E (.ref x) s₁

section
variable {prog : Program} {w : World} {A : Around} {E : Value → Shared → Prop} {s : Shared} {env : Env}
theorem raise_form {e : PySem.Expr} {pos : Pos} {Q : Flow → Shared → Prop} (hh : A.handled = none)
    (h : wpAny (model prog w) A (eval e env) (RaisableF w E) E s) : wpAny (model prog w) A (exec (.Raise (some e) none pos) env) Q E s := by
  show wpAny _ A (do standAt pos; raiseStmt env (some (do let v ← eval e env; standAt pos; pure v)) none) Q E s
  refine wpAny_bind (wpAny_standAt ?_)
  have hcB : (Value.ref 44 :: bmF).contains (.type "BaseException") = true := by decide +kernel
  unfold raiseStmt
  refine wpAny_bind (wpAny_bind (wpAny_mono h (fun v s₁ h₁ => wpAny_bind (wpAny_standAt (wpAny_pure ?_))) fun _ _ x => x))
  obtain ⟨x, t, dx, rfl, X, he, hE⟩ := h₁
  have hC := clsF_in X
  obtain ⟨hp, g, d, tk, os⟩ := s₁
  repeat (first | with_reducible refine wpAny_loadPart_at he ?_ | with_reducible refine wpAny_loadPart_at hC ?_ | (with_reducible refine wpAny_isSubtype_exc hC ?_; rw [hcB]) | wp_step)
  exact wpAny_raiseNew_none hh hE
end

theorem mem_frames {env : Env} {L b : Addr} {outer : List Env} (hf : env.frame = some L) (hm : b ∈ (env :: outer).filterMap (·.frame)) : b = L ∨ b ∈ outer.filterMap (·.frame) := by
  obtain ⟨e, he, h⟩ := List.mem_filterMap.mp hm
  rcases List.mem_cons.mp he with rfl | he
  · exact .inl (Option.some.inj (h.symm.trans hf))
  · exact .inr (List.mem_filterMap.mpr ⟨e, he, h⟩)

section
variable {M : Model} {A : Around} {E : Value → Shared → Prop} {s' : Shared} {base g g₂ : Heap} {outer : List Env} {L e : Addr} {m : Str → Option Value} {env : Env} {Q : Unit → Shared → Prop} {news : List (Addr × Obj)}
theorem leave_formS {o : Obj} {vs : Array Value} {a0 : Value} (K : Below A base outer g) (F : Fr g L s'.heap m) (N : News g L s'.heap ((e, o) :: news)) (hne : ∀ p ∈ news, p.1 ≠ e)
    (hd : o.data = .fields vs) (h1 : vs[1]? = some .none) (h0 : vs[0]? = some a0) (hf : env.frame = some L) (hk : env.scope.kind = .function)
    (hQ : ∀ h', RaisedSN base g outer e o.cls news h' → g.UpToSlots h' → Q () { s' with heap := h' }) :
    wpAny M (A.deeper env) (leaving env (.ref e)) Q E s' := by
  have K' := pushX K F hf hk
  have he := (N _ (.head _)).1
  have hge : g.get? e = none := (N _ (.head _)).2.2
  have hbe : base.get? e = none := fresh_of_stays K.stays hge
  have hin : ∀ env' ∈ (env :: outer), ∀ b, env'.frame = some b → b ∈ e :: (env :: outer).filterMap (·.frame) := fun env' h b hb => .tail _ (List.mem_filterMap.mpr ⟨env', h, hb⟩)
  have st : base.StaysIn (hideAll s'.heap (e :: (env :: outer).filterMap (·.frame))) := fun b o q => hideAll_get _ (K'.stays b o q) fun hm => by
    rcases List.mem_cons.mp hm with rfl | hm
    · rw [hbe] at q; cases q
    · rw [(K'.frames.mem hm).1] at q; cases q
  have sg : ∀ b o, g.get? b = some o → b ∉ outer.filterMap (·.frame) → (hideAll s'.heap (e :: (env :: outer).filterMap (·.frame))).get? b = some o := fun b o q nm => hideAll_get _ (F.keep b o q) fun hm => by
    rcases List.mem_cons.mp hm with rfl | hm
    · rw [hge] at q; cases q
    · rcases mem_frames hf hm with z | z
      · rw [z, kts_self F] at q
        cases q
      · exact nm z
  have hl : ∀ q ∈ news, (hideAll s'.heap (e :: (env :: outer).filterMap (·.frame))).get? q.1 = some q.2 ∧ g.get? q.1 = none ∧ base.get? q.1 = none := fun q hq => by
    have hq' := N q (.tail _ hq)
    refine ⟨hideAll_get _ hq'.1 fun hm => ?_, hq'.2.2, fresh_of_stays K.stays hq'.2.2⟩
    rcases List.mem_cons.mp hm with z | hm
    · exact hne q hq z
    · rcases mem_frames hf hm with z | z
      · exact hq'.2.1 z
      · obtain ⟨o, ho, _⟩ := (K.frames.mem z).2
        rw [hq'.2.2] at ho; cases ho
  have hen : (hideAll s'.heap (e :: (env :: outer).filterMap (·.frame))).get? e = none := hideAll_none _ (.head _)
  refine wpAny_leaving_firstW (a0 := a0) K'.stack (funFrames_hide K'.frames hin) hf he (fun b o hb => of_hideAll _ hb) hen hd h1 h0 fun h' hL => ?_
  obtain ⟨k1, ⟨_, _, k2⟩, k3, k4⟩ := hL
  exact hQ h' ⟨_, a0, st, sg, hl, k1, hen, k2, k3⟩ ((Heap.UpToSlots.of_keeps F.keep).trans k4)

theorem leave_onSX {cls : Value} (K : Below A base outer g) (F : Fr g L g₂ m) (hf : env.frame = some L) (R : RaisedSN base g₂ (env :: outer) e cls news s'.heap) (hsm : g₂.UpToSlots s'.heap)
    (hQ : ∀ h', RaisedSN base g outer e cls news h' → g.UpToSlots h' → Q () { s' with heap := h' }) :
    wpAny M (A.deeper env) (leaving env (.ref e)) Q E s' := by
  obtain ⟨B, a0, hB, hBG, hl, hfl⟩ := R
  exact wpAny_leaves_onW (Around.frames_deeper K.stack) hf hfl fun h' x1 x2 =>
    have R : RaisedSN base g outer e cls news h' := ⟨B, a0, hB, fun b o q nm => hBG b o (F.keep b o q) (fun hm => by
      rcases mem_frames hf hm with z | z
      · rw [z, kts_self F] at q
        cases q
      · exact nm z), fun q hq => ⟨(hl q hq).1, kts_none F.keep (hl q hq).2.1, (hl q hq).2.2⟩, x1⟩
    hQ h' R ((Heap.UpToSlots.of_keeps F.keep).trans (hsm.trans x2))
end

section
variable {prog : Program} {w : World} {A₀ : Around} {E : Value → Shared → Prop} {s' : Shared} {base g G : Heap} {outer : List Env} {L a e : Addr} {m : Str → Option Value} {name : Str} {scope : Scope} {cd : Value}
  {b₀ : Stmt} {suite : List Stmt} {pos np : Pos} {rest : List ExceptHandler} {Q : Flow → Shared → Prop} {news : List (Addr × Obj)}
  {p : Program} {loose : List Str} {mean : ExcName → Option Value} {mg mb : Str → Option Value}
theorem caught_formS (R : RaisedSN base G (envOf name scope L a cd :: outer) e (.ref 44) news s'.heap) (F : Fr g L G m) (K : Below A₀ base outer g) (hsm : G.UpToSlots s'.heap) (XB : (KK w).In base) (TB : Top p loose mean mg mb base)
    (k : ∀ h' g', KtsTurn (outer.filterMap (·.frame)) g g' → Fr g' L h' m → News g' L h' news → Below A₀ base outer g' → (KK w).In g' → Top p loose mean mg mb g' →
      wpAny (model prog w) ((A₀.deeper (envOf name scope L a cd)).mark (some (.ref e))) (execs (b₀ :: suite) (envOf name scope L a cd)) Q E { s' with heap := h' })
    (hk : scope.kind = .function) (hx : (envOf name scope L a cd).kindOf (Str.ofString "FormError") = some .globalImplicit)
    (hE : PassesOwnAt (model prog w) ((A₀.deeper (envOf name scope L a cd)).mark (some (.ref e))) (A₀.deeper (envOf name scope L a cd)) (envOf name scope L a cd) E) :
    wpAny (model prog w) (A₀.deeper (envOf name scope L a cd)) (noteFrame (.ref e) (envOf name scope L a cd))
      (fun _ s₂ => wpAny (model prog w) (A₀.deeper (envOf name scope L a cd)) (setFlight (.ref e) none) (fun _ s₃ =>
        wpAny (model prog w) (A₀.deeper (envOf name scope L a cd)) (handleBy (.ref e) (envOf name scope L a cd) (.ExceptHandler (some (.Name (Str.ofString "FormError") np)) none (b₀ :: suite) pos :: rest)) Q E s₃) E s₂) E s' := by
  obtain ⟨B, a0, hB, hBG, hl, hfl⟩ := R
  have hL : B.get? L = none := by
    obtain ⟨_, ⟨L', _, hf, hn', _⟩, _⟩ := hfl.2.2.1
    obtain rfl : L = L' := Option.some.inj hf
    exact hn'
  have ex : nsIn (KK w) mainGlobals (Str.ofString "FormError") = some (some (.ref 44)) := by kernel_rfl
  have hbase : bmF.contains (.type "BaseException") = true := by decide +kernel
  refine wpAny_looks_onW (Around.frames_deeper K.stack) rfl hfl fun h₄ hheld₄ hsm₄ => ?_
  refine wpAny_landsW hheld₄ fun h₅ hheld hsm₅' => ?_
  have hsm₅ := hsm₄.trans hsm₅'
  obtain ⟨g₅, T₅, F₅, K₅⟩ := kts_ground K F hBG hheld.1 (hsm.trans hsm₅)
  have X₅ : (KK w).In g₅ := XB.keeps K₅.stays
  have P₅ : TopRead p loose mg mb g₅ := topRead_of (TB.keeps K₅.stays)
  obtain ⟨ob, hob, hobc⟩ := hheld.there
  have hC₅ := F₅.keep _ _ (clsF_in X₅)
  refine wpAny_handleBy_cons (codeAny_handlers_test (name_K F₅ X₅ P₅ ex ?_ hk hx (by decide))) (by intro q; cases q)
  refine wpAny_excMatches_sub_self hC₅ hob hobc hbase (codeAny_handlers_suite ?_)
  refine lands_againW hheld fun h₆ hfl₆ hsm₆ => ?_
  obtain ⟨g₆, T₆, F₆, K₆⟩ := kts_ground K F hBG hfl₆.1 ((hsm.trans hsm₅).trans hsm₆)
  have Nl : News g₆ L h₆ news := fun q hq => ⟨hfl₆.1 _ _ (hl q hq).1, (fun z => by have := (hl q hq).1; rw [z, hL] at this; cases this), T₆.none_ _ (kts_none F.keep (hl q hq).2.1)⟩
  exact wpAny_passesOwnAt hE (k h₆ g₆ T₆ F₆ Nl K₆ (XB.keeps K₆.stays) (TB.keeps K₆.stays))
end
end Mine
end
section
open PySem PySem.W PySem.Spec PySem.Calls PyProof.Rows
set_option maxRecDepth 100000
set_option maxHeartbeats 1000000
namespace Mine

def LeaveSX (fs : List Addr) (A₀ : Around) (base : Heap) (outer : List Env) (h₀ : Heap) (L : Addr) (m : Str → Option Value) (g : Heap) (R : Result → Shared → Prop) (v : Value) (s' : Shared) : Prop :=
  ∃ g' L' m' news', KtsTurn fs g g' ∧ Fr g' L' s'.heap m' ∧ News g' L' s'.heap news' ∧
    ∀ h₀', KtsTurn (outer.filterMap (·.frame)) h₀ h₀' → Below A₀ base outer h₀' → Fr h₀' L s'.heap m → News h₀' L s'.heap news' → R (.ok (.ret v)) s'
theorem leaveSX_ {fs : List Addr} {A₀ : Around} {base : Heap} {outer : List Env} {h₀ g g' : Heap} {L L' : Addr} {m m' : Str → Option Value} {news' : List (Addr × Obj)} {R : Result → Shared → Prop} {v : Value} {s' : Shared}
    (F' : Fr g' L' s'.heap m') (N' : News g' L' s'.heap news') (T : KtsTurn fs g g')
    (k : ∀ h₀', KtsTurn (outer.filterMap (·.frame)) h₀ h₀' → Below A₀ base outer h₀' → Fr h₀' L s'.heap m → News h₀' L s'.heap news' → R (.ok (.ret v)) s') :
    LeaveSX fs A₀ base outer h₀ L m g R v s' := ⟨g', L', m', news', T, F', N', k⟩

section
variable {prog : Program} {w : World} {A₀ A : Around} {s : Shared} {base h₀ : Heap} {outer : List Env} {L : Addr} {m : Str → Option Value} {env : Env} {news : List (Addr × Obj)}
  {R : Result → Shared → Prop} {name qual : Str} {params : Arguments} {body : List Stmt} {scope : Scope} {dV kV doc pm cdv ct : Value} {an : Option Addr} {fo : Obj} {f : Addr} {args : Args} {binds : List (Str × Value)}

theorem groundSX (B : Below A₀ base outer h₀) (F : Fr h₀ L s.heap m) (N : News h₀ L s.heap news) (hA : A.frames = some (env :: outer)) (hf : env.frame = some L) (hke : env.scope.kind = .function) :
    Fr h₀ L (hideAll s.heap (news.map (·.1))) m ∧ Below A base (env :: outer) (hideAll s.heap (news.map (·.1))) ∧ h₀.StaysIn (hideAll s.heap (news.map (·.1))) ∧
      ∀ v s', LeaveSX ((env :: outer).filterMap (·.frame)) A₀ base outer h₀ L m (hideAll s.heap (news.map (·.1))) R v s' → R (.ok (.ret v)) s' := by
  obtain ⟨FG, BG, st, _⟩ := groundX (R := R) B F N hA hf hke
  refine ⟨FG, BG, st, ?_⟩
  rintro v s' ⟨g', L', m', news', T', F', N', k⟩
  obtain ⟨oL, es, ep, hLg, hLd, hLk, hLf⟩ := FG.ns
  have nL₀ : h₀.get? L = none := kts_self F
  obtain ⟨sl, hs⟩ := T'.up hLg
  obtain ⟨T₁, S₁⟩ := kts_turn_at (h := s'.heap) (fs := outer.filterMap (·.frame)) (g := h₀)
    (fun b hb => by
      obtain ⟨_, o, ho', _⟩ := B.frames.mem hb
      exact ⟨o, ho'⟩)
    (fun b o e nmem => F'.keep b o (T'.other b o (st b o e) (fun q => by
      rcases mem_frames hf q with z | z
      · rw [z, nL₀] at e
        cases e
      · exact nmem z)))
    (fun b o e hm => by
      obtain ⟨sl', hs'⟩ := T'.up (st b o e)
      exact ⟨sl', F'.keep _ _ hs'⟩)
  have B₃ : Below A₀ base outer (ktsHeap s'.heap (outer.filterMap (·.frame)) h₀) := ⟨B.stack, fun b o e => T₁.other b o (B.stays b o e) (fun hm => by
    rw [(B.frames.mem hm).1] at e
    cases e), B.frames.of_keeps fun b o e _ => by
    obtain ⟨sl', hs'⟩ := T₁.up e
    exact ⟨_, hs', rfl⟩⟩
  refine k _ T₁ B₃ ⟨⟨_, es, ep, F'.keep _ _ hs, hLd, hLk, hLf⟩, S₁, by rw [T₁.size]; exact F.above⟩ (fun p hp => ⟨(N' p hp).1, fun q => ?_, ?_⟩)
  · have := (N' p hp).2.2; rw [q, hs] at this; cases this
  · refine T₁.none_ _ ?_
    cases q : h₀.get? p.1 with
    | none => rfl
    | some o =>
      obtain ⟨sl', hs'⟩ := T'.up (st _ _ q)
      have := (N' p hp).2.2
      rw [hs'] at this
      cases this

theorem codeSX_plain (B : Below A₀ base outer h₀) (F : Fr h₀ L s.heap m) (N : News h₀ L s.heap news) (hlim : h₀.NoLimit) (hA : A.frames = some (env :: outer)) (hf : env.frame = some L) (hke : env.scope.kind = .function)
    (ho : s.heap.get? f = some fo) (hd : fo.data = .func (fnX name qual params body scope [] dV kV doc pm an cdv ct)) (hcd : s.heap.CodeRec cdv qual) (hroom : A.depth < recursionLimit)
    (hbind : BindsTo s (fnX name qual params body scope [] dV kV doc pm an cdv ct) args binds) (hloc : ∀ y ∈ binds, scope.names.lookup y.1 = some .local)
    (h : ∀ g L' h₁, Fr h₀ L g m → Fr g L' h₁ (fun y => binds.reverse.lookup y) → News g L' h₁ news → Below A base (env :: outer) g → h₀.StaysIn g → (∀ p ∈ news, p.1 < L') →
      wpAny (model prog w) (A.deeper (envX qual scope L' f cdv [])) (execs body (envX qual scope L' f cdv []))
        (fun fl s' => LeaveSX ((env :: outer).filterMap (·.frame)) A₀ base outer h₀ L m g R (match fl with | .ret v => v | _ => .none) s')
        (fun e s' => wpAny (model prog w) (A.deeper (envX qual scope L' f cdv [])) (leaving (envX qual scope L' f cdv []) e) (fun _ s'' => R (.error e) s'') (fun e' s'' => R (.error e') s'') s')
        { s with heap := h₁, toks := s.toks + binds.length })
    (hcell : ∀ x ∈ scope.names, x.2 ≠ .cell) (hco : scope.isCoroutine = false) (hgen : scope.isGenerator = false) (hk : scope.kind = .function) : codeAny (model prog w) A (.call (.ref f) args) R s := by
  obtain ⟨FG, BG, st, lv⟩ := groundSX (R := R) B F N hA hf hke
  refine codeAny_call_def (fd := fnX name qual params body scope [] dV kV doc pm an cdv ct) (body := body) (binds := binds) hroom ho hd (hlim.keeps F.keep) hcd rfl hbind hcell hloc (fun h₁ hns hk₁ => ?_) hco hgen hk
  exact wpAny_mono (h _ s.heap.objs.size h₁ FG ⟨hns, fun b o e => hk₁ b o (of_hideAll _ e), Nat.le_of_eq (hideAll_size _ _)⟩
    (fun p hp => ⟨hk₁ _ _ (N p hp).1, Nat.ne_of_lt (Heap.lt_size (N p hp).1), hideAll_none _ (List.mem_map_of_mem hp)⟩) BG st (fun p hp => Heap.lt_size (N p hp).1)) (fun fl s' hl => lv _ _ hl) fun _ _ y => y

theorem codeSX_cells (B : Below A₀ base outer h₀) (F : Fr h₀ L s.heap m) (N : News h₀ L s.heap news) (hlim : h₀.NoLimit) (hA : A.frames = some (env :: outer)) (hf : env.frame = some L) (hke : env.scope.kind = .function)
    (ho : s.heap.get? f = some fo) (hd : fo.data = .func (fnX name qual params body scope [] dV kV doc pm an cdv ct)) (hcd : s.heap.CodeRec cdv qual) (hroom : A.depth < recursionLimit)
    (hbind : BindsTo s (fnX name qual params body scope [] dV kV doc pm an cdv ct) args binds)
    (hkind : ∀ n, ∀ x ∈ binds, scope.names.lookup x.1 = some .local ∨ (scope.names.lookup x.1 = some .cell ∧ ((cellsFrom n scope.names []).lookup x.1).isSome = true))
    (hnd : ((cellsFrom 0 scope.names []).map (·.1)).Nodup)
    (h : ∀ g L' h₁ tk cells, Fr h₀ L g m → Fr g L' h₁ (bindL (envOfC qual scope L' f cdv).kindOf binds fun _ => none) → News g L' h₁ (cells ++ news) →
      CellsAre (bindC (envOfC qual scope L' f cdv).kindOf binds fun _ => none) (cellsFrom (L' + 1) scope.names []) cells → Below A base (env :: outer) g → h₀.StaysIn g → (∀ p ∈ news, p.1 < L') →
      wpAny (model prog w) (A.deeper (envOfC qual scope L' f cdv)) (execs body (envOfC qual scope L' f cdv))
        (fun fl s' => LeaveSX ((env :: outer).filterMap (·.frame)) A₀ base outer h₀ L m g R (match fl with | .ret v => v | _ => .none) s')
        (fun e s' => wpAny (model prog w) (A.deeper (envOfC qual scope L' f cdv)) (leaving (envOfC qual scope L' f cdv) e) (fun _ s'' => R (.error e) s'') (fun e' s'' => R (.error e') s'') s')
        { s with heap := h₁, toks := tk })
    (hco : scope.isCoroutine = false) (hgen : scope.isGenerator = false) (hk : scope.kind = .function) : codeAny (model prog w) A (.call (.ref f) args) R s := by
  obtain ⟨FG, BG, st, lv⟩ := groundSX (R := R) B F N hA hf hke
  refine codeAny_call_function hroom ho hd hco hgen rfl hcd (hbind _ _ _ _ ?_)
  refine wpAny_newFunctionEnv_cells hk (hkind _) fun env' he s' x => ?_
  subst he
  refine ⟨(hlim.keeps F.keep).keeps x.toInCall.keep, codeAny_func ?_⟩
  obtain ⟨h₁, tk, rfl, _⟩ := x.done
  have hk₁ := x.toInCall.keep
  obtain ⟨cells, NC, Y⟩ := Cl.news (h₀ := s.heap) (Nat.le_refl _) fun n c hm => ⟨x.cell n c (lookup_of_mem_nodup (cellsFrom_names scope.names 0 (s.heap.objs.size + 1) [] [] rfl ▸ hnd) hm), x.above n c hm⟩
  refine wpAny_mono (h _ s.heap.objs.size h₁ tk cells FG ⟨x.toInCall.ns, fun b o e => hk₁ b o (of_hideAll _ e), Nat.le_of_eq (hideAll_size _ _)⟩ (fun p hp => ?_) Y BG st (fun p hp => Heap.lt_size (N p hp).1)) (fun fl s' hl => lv _ _ hl) fun _ _ y => y
  rcases List.mem_append.mp hp with hp | hp
  · refine ⟨(NC p hp).1, (NC p hp).2.1, ?_⟩
    cases q : (hideAll s.heap (news.map (·.1))).get? p.1 with
    | none => rfl
    | some o => have := of_hideAll _ q; rw [(NC p hp).2.2] at this; cases this
  · exact ⟨hk₁ _ _ (N p hp).1, Nat.ne_of_lt (Heap.lt_size (N p hp).1), hideAll_none _ (List.mem_map_of_mem hp)⟩
end

section
variable {prog : Program} {w : World} {A₀ A : Around} {s : Shared} {base h₀ : Heap} {outer : List Env} {L : Addr} {m mg mb : Str → Option Value} {env : Env} {news : List (Addr × Obj)} {K : Frag} {p : Program} {loose : List Str} {mean : ExcName → Option Value}
  {R : Result → Shared → Prop} {name qual : Str} {params : Arguments} {body : List Stmt} {scope : Scope} {dV kV doc pm cdv ct oc : Value} {an od : Option Addr} {osl : Array (Option Value)} {f : Addr} {args : Args} {binds : List (Str × Value)}
theorem code_defSX (B : Below A₀ base outer h₀) (F : Fr h₀ L s.heap m) (X₀ : K.In h₀) (N : News h₀ L s.heap news) (T : Top p loose mean mg mb h₀) (hA : A.frames = some (env :: outer)) (hf : env.frame = some L) (hke : env.scope.kind = .function)
    (ho : K.lookup f = some ⟨oc, od, .func (fnOf name qual params body scope dV kV doc pm an cdv ct), osl⟩) (hcd : codeIn K cdv qual = true) (hroom : A.depth < recursionLimit)
    (hbind : BindsTo s (fnOf name qual params body scope dV kV doc pm an cdv ct) args binds) (hloc : ∀ y ∈ binds, scope.names.lookup y.1 = some .local)
    (h : ∀ g L' h₁, Fr h₀ L g m → Fr g L' h₁ (fun y => binds.reverse.lookup y) → News g L' h₁ news → Below A base (env :: outer) g → K.In g → Top p loose mean mg mb g →
      wpAny (model prog w) (A.deeper (envOf qual scope L' f cdv)) (execs body (envOf qual scope L' f cdv))
        (fun fl s' => LeaveSX ((env :: outer).filterMap (·.frame)) A₀ base outer h₀ L m g R (match fl with | .ret v => v | _ => .none) s')
        (fun e s' => wpAny (model prog w) (A.deeper (envOf qual scope L' f cdv)) (leaving (envOf qual scope L' f cdv) e) (fun _ s'' => R (.error e) s'') (fun e' s'' => R (.error e') s'') s')
        { s with heap := h₁, toks := s.toks + binds.length })
    (hco : scope.isCoroutine = false) (hgen : scope.isGenerator = false) (hk : scope.kind = .function)
    (hcell : ∀ x ∈ scope.names, x.2 ≠ .cell) : codeAny (model prog w) A (.call (.ref f) args) R s :=
  codeSX_plain B F N T.nolimit hA hf hke ((X₀.keeps F.keep) _ _ ho) rfl (codeRec_of (X₀.keeps F.keep) hcd) hroom hbind hloc (fun g L' h₁ FG F' N' B' st _ => h g L' h₁ FG F' N' B' (X₀.keeps st) (T.keeps st)) hcell hco hgen hk
theorem code_defSXC (B : Below A₀ base outer h₀) (F : Fr h₀ L s.heap m) (X₀ : K.In h₀) (N : News h₀ L s.heap news) (T : Top p loose mean mg mb h₀) (hA : A.frames = some (env :: outer)) (hf : env.frame = some L) (hke : env.scope.kind = .function)
    (ho : K.lookup f = some ⟨oc, od, .func (fnOf name qual params body scope dV kV doc pm an cdv ct), osl⟩) (hcd : codeIn K cdv qual = true) (hroom : A.depth < recursionLimit)
    (hbind : BindsTo s (fnOf name qual params body scope dV kV doc pm an cdv ct) args binds) (hkind : (binds.all fun y => scope.names.lookup y.1 == some .local || scope.names.lookup y.1 == some .cell) = true)
    (hnd : ((cellsFrom 0 scope.names []).map (·.1)).Nodup)
    (h : ∀ g L' h₁ tk cells, Fr h₀ L g m → Fr g L' h₁ (bindL (envOfC qual scope L' f cdv).kindOf binds fun _ => none) → News g L' h₁ (cells ++ news) →
      CellsAre (bindC (envOfC qual scope L' f cdv).kindOf binds fun _ => none) (cellsFrom (L' + 1) scope.names []) cells → Below A base (env :: outer) g → K.In g → Top p loose mean mg mb g → (∀ p ∈ news, p.1 < L') →
      wpAny (model prog w) (A.deeper (envOfC qual scope L' f cdv)) (execs body (envOfC qual scope L' f cdv))
        (fun fl s' => LeaveSX ((env :: outer).filterMap (·.frame)) A₀ base outer h₀ L m g R (match fl with | .ret v => v | _ => .none) s')
        (fun e s' => wpAny (model prog w) (A.deeper (envOfC qual scope L' f cdv)) (leaving (envOfC qual scope L' f cdv) e) (fun _ s'' => R (.error e) s'') (fun e' s'' => R (.error e') s'') s')
        { s with heap := h₁, toks := tk })
    (hco : scope.isCoroutine = false) (hgen : scope.isGenerator = false) (hk : scope.kind = .function) : codeAny (model prog w) A (.call (.ref f) args) R s :=
  codeSX_cells B F N T.nolimit hA hf hke ((X₀.keeps F.keep) _ _ ho) rfl (codeRec_of (X₀.keeps F.keep) hcd) hroom hbind (kindsX hkind) hnd (fun g L' h₁ tk cells FG F' N' Y B' st l => h g L' h₁ tk cells FG F' N' Y B' (X₀.keeps st) (T.keeps st) l) hco hgen hk
end
end Mine
end
section
open PySem PySem.W PySem.Spec PySem.Calls PyProof.Rows
set_option maxRecDepth 100000
set_option maxHeartbeats 2000000
namespace Mine
theorem set_formK {prog : Program} {w : World} {A : Around} {E : Value → Shared → Prop} {s : Shared} {h₀ : Heap} {L : Addr} {m : Str → Option Value} {news : List (Addr × Obj)} {g : Obj → List (Addr × Obj)} {Q : Unit → Shared → Prop} {x t : Addr} {v : Value}
    (F : Fr h₀ L s.heap m) (X₀ : (KK w).In h₀) (N : News h₀ L s.heap news) (U : UpdF x (excF t) news g)
    (h : ∀ dx h' tk', Fr h₀ L h' m → News h₀ L h' (g { excF t with dict := some dx }) → Q () { s with heap := h', toks := tk' }) :
    wpAny (model prog w) A (setAttr (.ref x) (Str.ofString "message") v) Q E s := by
  obtain ⟨rest, h1, h2, h3, h4⟩ := news_cut U
  have N₁ := h3 _ _ _ N
  obtain ⟨hp, gg, d, tk, os⟩ := s
  refine set_form (X₀.keeps F.keep) (N₁ _ (.head _)).1 fun h' tk' dx hk hx => ?_
  have hxL := (N₁ _ (.head _)).2.1
  have hx0 := (N₁ _ (.head _)).2.2
  refine h dx h' tk' ⟨?_, ?_, F.above⟩ (h4 _ _ _ _ ?_)
  · exact F.ns.extBut (fun b o hb e => hk b o hb e) (Ne.symm hxL)
  · intro b o e
    exact hk b o (fun q => by rw [q, hx0] at e; cases e) (F.keep b o e)
  · intro p hp'
    rcases List.mem_cons.mp hp' with rfl | hp'
    · exact ⟨hx, hxL, hx0⟩
    · have z := N₁ p (.tail _ hp')
      exact ⟨hk _ _ (h1 p hp') z.1, z.2⟩

theorem raised_drop {base G : Heap} {l : List Env} {e : Addr} {cls : Value} {news news' : List (Addr × Obj)} {h : Heap} (R : RaisedSN base G l e cls news h) (hs : ∀ p ∈ news', p ∈ news) : RaisedSN base G l e cls news' h := by
  obtain ⟨B, a0, h1, h2, h3, h4⟩ := R
  exact ⟨B, a0, h1, h2, fun q hq => h3 q (hs q hq), h4⟩

theorem form_out {prog : Program} {w : World} {A : Around} {s' : Shared} {base g : Heap} {outer : List Env} {L x t dx : Addr} {m : Str → Option Value} {env : Env} {Q : Value → Unit → Shared → Prop} {E : Value → Value → Shared → Prop} {rest : List (Addr × Obj)}
    (K : Below A base outer g) (F : Fr g L s'.heap m) (X : (KK w).In g) (N : News g L s'.heap ((x, { excF t with dict := some dx }) :: rest)) (hne : ∀ p ∈ rest, p.1 ≠ x)
    (hf : env.frame = some L) (hk : env.scope.kind = .function)
    (hQ : ∀ h', RaisedSN base g outer x (.ref 44) rest h' → g.UpToSlots h' → Q (.ref x) () { s' with heap := h' }) :
    RaisableF w (fun e s₁ => wpAny (model prog w) (A.deeper env) (leaving env e) (Q e) (E e) s₁) (.ref x) s' :=
  ⟨_, t, dx, rfl, X.keeps F.keep, (N _ (.head _)).1, leave_formS K F N hne rfl rfl rfl hf hk hQ⟩

theorem ne_two {news : List (Addr × Obj)} {t x : Addr} {o : Obj} (l1 : ∀ p ∈ news, p.1 < t) (l2 : t < x) : ∀ p ∈ (t, o) :: news, p.1 ≠ x := by
  intro p hp
  rcases List.mem_cons.mp hp with rfl | hp
  · exact Nat.ne_of_lt l2
  · exact Nat.ne_of_lt (Nat.lt_trans (l1 p hp) l2)
local macro_rules | `(tactic| k_all) => `(tactic| exact ne_two (by assumption) (by assumption))
local macro_rules | `(tactic| walk_at $s:str) => `(tactic| k_extra $s)

theorem need_ok {w : World} {mg mb : Str → Option Value} {mean : ExcName → Option Value} {A₀ : Around} {base h₀ : Heap} {outer : List Env} {L : Addr} {m : Str → Option Value} {cs : Scope} {dp un : Nat}
    {gd : Option (List Code)} {cn : Str} {a : Addr} {ccd : Value} {cl : List (Str × Addr)} {s : Shared} {Q E : Value → Shared → Prop} {news : List (Addr × Obj)}
    {bs : Array UInt8} {ks : List Int} {at' size : Int} {tb ta ts : Tok}
    (B : Below A₀ base outer h₀) (F : Fr h₀ L s.heap m) (X : (KK w).In h₀) (N : News h₀ L s.heap news) (T : Top topProg LO mean mg mb h₀)
    (hk : cs.kind = .function) (hd : dp + 3 < recursionLimit) (hu : un + 40 < cLine)
    (hks : KBw.bInts bs = ks) (hlen : ks.length < 1000)
    (hret : 0 ≤ at' → at' + size ≤ ks.length → ∀ h' tk', Fr h₀ L h' m → News h₀ L h' news → Q .none { s with heap := h', toks := tk' })
    (herr : (at' < 0 ∨ ks.length < at' + size) → ∀ e g h' tk', Fr h₀ L g m → RaisedSN base g (envX cn cs L a ccd cl :: outer) e (.ref 44) news h' → g.UpToSlots h' → E (.ref e) { s with heap := h', toks := tk' }) :
    wpAny (model PR w) (ktrTop dp un gd cn cs L a ccd cl outer) (call (.ref 74) [.bytes bs tb, .int at' ta, .int size ts]) Q E s := by
  k_with_none
  (k_with "exec Raise some none" => ((k_here; k_dflt (refine' raise_form ?k1x0 ?_; (case k1x0 => first | rfl | assumption)))))
  (k_with "call ref" => ((k_here; (with_reducible show wpAny _ _ (call (Value.ref 44) _) _ _ _); k_dflt (refine' call_form ?k1x1 ?k2x1 ?k3x1 ?k4x1 ?_; (case k1x1 => k_asm); (case k2x1 => k_asm); (case k3x1 => k_asm); (case k4x1 => exact Nat.le_of_ble_eq_true rfl); k_whole; intro x' t' h' F' N' l1 l2; (try k_sweep); (refine' code_def ?j1x1 ?j2x1 ?j3x1 ?j4x1 ?j5x1 ?jAx1 ?jFx1 ?jKx1 ?j6x1 ?j7x1 ?j8x1 ?j9x1 ?jBx1 ?_ ?c2x1 ?c3x1 ?c4x1 ?c5x1; (case jAx1 => exact rfl); (case jFx1 => exact rfl); (case jKx1 => first | exact rfl | assumption); (case j1x1 => k_asm); (case j2x1 => k_asm); (case j3x1 => k_asm); (case j4x1 => k_asm); (case j5x1 => k_asm); (case j6x1 => k_is); (case j7x1 => k_is); (case j8x1 => ktr_room); (case j9x1 => exact BindsTo.of_eq rfl); (case c5x1 => decide); (case jBx1 => exact locs rfl); (case c2x1 => exact rfl); (case c3x1 => exact rfl); (case c4x1 => exact rfl); k_whole; intro g' L' h' FG' F' N' B' X' T'; (try dsimp only); (try k_fold))))))
  (k_with "setAttr ref" => ((k_here; k_dflt (refine' set_formK ?k1x2 ?k2x2 ?k3x2 ?k4x2 ?_; (case k1x2 => k_asm); (case k2x2 => k_asm); (case k3x2 => k_asm); (case k4x2 => k_updF); k_whole; intro dx' h' tk' F' N'; (try dsimp only at N'); (try k_sweep)))))
  revert X; dsimp only [KK, PR]; k_fill; intro X
  refine wpAny_call ?_
  k_dflt cell_enter
  k_steps
  · refine' form_out ?zzK ?zzF ?zzX ?zzN ?zzn ?zzf ?zzk ?zzQ
    (case zzK => k_asm)
    (case zzF => k_asm)
    (case zzX => k_asm)
    (case zzN => k_asm)
    (case zzn => exact ne_two (by assumption) (by assumption))
    (case zzf => rfl)
    (case zzk => rfl)
    (case zzQ => intro h' R' U'; exact herr (by omega) _ _ _ _ (by assumption) (raised_drop R' fun p hp => .tail _ hp) U')
  · refine' form_out ?yyK ?yyF ?yyX ?yyN ?yyn ?yyf ?yyk ?yyQ
    (case yyK => k_asm)
    (case yyF => k_asm)
    (case yyX => k_asm)
    (case yyN => k_asm)
    (case yyn => exact ne_two (by assumption) (by assumption))
    (case yyf => rfl)
    (case yyk => rfl)
    (case yyQ => intro h' R' U'; exact herr (by omega) _ _ _ _ (by assumption) (raised_drop R' fun p hp => .tail _ hp) U')
  · exact hret (by omega) (by omega) _ _ (by k_asm) (by k_asm)
end Mine
end
section
open PySem
set_option maxRecDepth 100000
namespace Mine
theorem and_neg (x y : Nat) : Builtin.bitAnd (Builtin.bitNot (x : Int)) (Builtin.bitNot (y : Int)) = Builtin.bitNot ((x ||| y : Nat) : Int) := by
  have e : ∀ z : Nat, Builtin.bitNot (Builtin.bitNot (z : Int)) = (z : Int) := fun z => by unfold Builtin.bitNot; omega
  have d : ∀ z : Nat, decide (0 ≤ Builtin.bitNot (z : Int)) = false := fun z => by unfold Builtin.bitNot; exact decide_eq_false (by omega)
  unfold Builtin.bitAnd
  rw [d x, d y]
  simp only [e, Int.toNat_natCast]
theorem or_nat (x y : Nat) : Builtin.bitOr (x : Int) (y : Int) = ((x ||| y : Nat) : Int) := by
  unfold Builtin.bitOr
  rw [and_neg]
  unfold Builtin.bitNot
  omega
theorem and_nat (x y : Nat) : Builtin.bitAnd (x : Int) (y : Int) = ((x &&& y : Nat) : Int) := by
  unfold Builtin.bitAnd
  rw [decide_eq_true (Int.natCast_nonneg x), decide_eq_true (Int.natCast_nonneg y)]
  simp only [Int.toNat_natCast]
theorem or_shift {a b : Int} (k : Nat) (ha : 0 ≤ a) (hb : 0 ≤ b) (hb' : b < 2 ^ k) : Builtin.bitOr (a * 2 ^ k) b = a * 2 ^ k + b := by
  obtain ⟨x, rfl⟩ := Int.eq_ofNat_of_zero_le ha
  obtain ⟨y, rfl⟩ := Int.eq_ofNat_of_zero_le hb
  have e : ((x : Int) * 2 ^ k) = ((2 ^ k * x : Nat) : Int) := by
    rw [Int.natCast_mul, Int.natCast_pow, Int.mul_comm]; rfl
  rw [e, or_nat]
  have h : y < 2 ^ k := by
    have h2 : ((2 : Int) ^ k) = ((2 ^ k : Nat) : Int) := by rw [Int.natCast_pow]; rfl
    rw [h2] at hb'
    omega
  rw [← Nat.two_pow_add_eq_or_of_lt h x]
  push_cast
  rfl
theorem getD_byte {ks : List Int} (hk : ∀ k ∈ ks, 0 ≤ k ∧ k < 256) (j : Nat) : 0 ≤ ks.getD j 0 ∧ ks.getD j 0 < 256 := by
  rw [List.getD_eq_getElem?_getD]
  cases h : ks[j]? with
  | none => decide
  | some k => exact hk k (List.mem_of_getElem? h)
def N16 (ks : List Int) (i : Int) : Int := ks.getD i.toNat 0 * 256 + ks.getD (i + 1).toNat 0
def N32 (ks : List Int) (i : Int) : Int := N16 ks i * 65536 + N16 ks (i + 2)
def N48 (ks : List Int) (i : Int) : Int := N16 ks i * 4294967296 + N32 ks (i + 2)
theorem or16 {a b : Int} (ha : 0 ≤ a) (hb : 0 ≤ b) (hb' : b < 256) : Builtin.bitOr (a * 2 ^ Int.toNat 8) b = a * 256 + b := or_shift 8 ha hb hb'
theorem or32 {a b : Int} (ha : 0 ≤ a) (hb : 0 ≤ b) (hb' : b < 65536) : Builtin.bitOr (a * 2 ^ Int.toNat 16) b = a * 65536 + b := or_shift 16 ha hb hb'
theorem or48 {a b : Int} (ha : 0 ≤ a) (hb : 0 ≤ b) (hb' : b < 4294967296) : Builtin.bitOr (a * 2 ^ Int.toNat 32) b = a * 4294967296 + b := or_shift 32 ha hb hb'
theorem N16_in {ks : List Int} (hk : ∀ k ∈ ks, 0 ≤ k ∧ k < 256) (i : Int) : 0 ≤ N16 ks i ∧ N16 ks i < 65536 := by
  have h1 := getD_byte hk i.toNat
  have h2 := getD_byte hk (i + 1).toNat
  unfold N16; omega
theorem N32_in {ks : List Int} (hk : ∀ k ∈ ks, 0 ≤ k ∧ k < 256) (i : Int) : 0 ≤ N32 ks i ∧ N32 ks i < 4294967296 := by
  have h1 := N16_in hk i
  have h2 := N16_in hk (i + 2)
  unfold N32; omega
theorem N48_in {ks : List Int} (hk : ∀ k ∈ ks, 0 ≤ k ∧ k < 256) (i : Int) : 0 ≤ N48 ks i ∧ N48 ks i < 281474976710656 := by
  have h1 := N16_in hk i
  have h2 := N32_in hk (i + 2)
  unfold N48; omega
end Mine
end
section
open PySem PySem.W PySem.Spec PySem.Calls PyProof.Rows
set_option maxRecDepth 100000
set_option maxHeartbeats 2000000
namespace Mine
local macro_rules | `(tactic| walk_at $s:str) => `(tactic| k_extra $s)

theorem get16_ok {w : World} {mg mb : Str → Option Value} {mean : ExcName → Option Value} {A₀ : Around} {base h₀ : Heap} {outer : List Env} {L : Addr} {m : Str → Option Value} {cs : Scope} {dp un : Nat}
    {gd : Option (List Code)} {cn : Str} {a : Addr} {ccd : Value} {cl : List (Str × Addr)} {s : Shared} {Q E : Value → Shared → Prop} {news : List (Addr × Obj)}
    {bs : Array UInt8} {ks : List Int} {at' : Int} {tb ta : Tok}
    (B : Below A₀ base outer h₀) (F : Fr h₀ L s.heap m) (X : (KK w).In h₀) (N : News h₀ L s.heap news) (T : Top topProg LO mean mg mb h₀)
    (hk : cs.kind = .function) (hd : dp + 4 < recursionLimit) (hu : un + 50 < cLine)
    (hks : KBw.bInts bs = ks) (hlen : ks.length < 1000)
    (hret : 0 ≤ at' → at' + 2 ≤ ks.length → ∀ v t h' tk', v = N16 ks at' → 0 ≤ v → v < 65536 → Fr h₀ L h' m → News h₀ L h' news → Q (.int v t) { s with heap := h', toks := tk' })
    (herr : (at' < 0 ∨ ks.length < at' + 2) → ∀ e g h' tk', Fr h₀ L g m → RaisedSN base g (envX cn cs L a ccd cl :: outer) e (.ref 44) news h' → g.UpToSlots h' → E (.ref e) { s with heap := h', toks := tk' }) :
    wpAny (model PR w) (ktrTop dp un gd cn cs L a ccd cl outer) (call (.ref 81) [.bytes bs tb, .int at' ta]) Q E s := by
  k_with_none
  (k_with "leaving ref" => ((k_here; k_dflt (refine' leave_onSX ?k1x0 ?k2x0 ?k5x0 ?k3x0 ?k4x0 ?_; (case k3x0 => assumption); (case k1x0 => k_asm); (case k2x0 => assumption); (case k5x0 => rfl); (case k4x0 => assumption); k_whole; intro h' R' U'; (try dsimp only at R' U' ⊢)))))
  (k_with "call ref" => ((k_here; (with_reducible show wpAny _ _ (call (Value.ref 74) _) _ _ _); k_dflt (refine' need_ok ?k1x1 ?k2x1 ?k3x1 ?k4x1 ?k5x1 ?k6x1 ?k7x1 ?k8x1 ?k9x1 ?k10x1 (fun c1 c2 h' tk' F' N' => ?_) (fun c1 e' g' h' tk' FG' R' U' => ?_); (case k1x1 => k_asm); (case k2x1 => k_asm); (case k3x1 => k_asm); (case k4x1 => k_asm); (case k5x1 => k_asm); (case k6x1 => first | exact rfl | assumption); (case k7x1 => ktr_room); (case k8x1 => ktr_units); (case k9x1 => k_asm); (case k10x1 => first | assumption | omega); (all_goals (try k_sweep)); (all_goals (try dsimp only)); (all_goals (try k_fold))))))
  have hby : ∀ k ∈ ks, 0 ≤ k ∧ k < 256 := fun k hk => KBw.ints_in (hks ▸ hk)
  revert X; dsimp only [KK, PR]; k_fill; intro X
  refine wpAny_call ?_
  k_dflt cell_enter
  k_steps
  · rw [or16 (by assumption) (by assumption) (by assumption)]
    exact hret (by assumption) (by assumption) _ _ _ _ rfl (N16_in hby _).1 (N16_in hby _).2 (by k_asm) (by k_asm)
  · exact herr (by assumption) _ _ _ _ (by assumption) (by assumption) (by assumption)


theorem get32_ok {w : World} {mg mb : Str → Option Value} {mean : ExcName → Option Value} {A₀ : Around} {base h₀ : Heap} {outer : List Env} {L : Addr} {m : Str → Option Value} {cs : Scope} {dp un : Nat}
    {gd : Option (List Code)} {cn : Str} {a : Addr} {ccd : Value} {cl : List (Str × Addr)} {s : Shared} {Q E : Value → Shared → Prop} {news : List (Addr × Obj)}
    {bs : Array UInt8} {ks : List Int} {at' : Int} {tb ta : Tok}
    (B : Below A₀ base outer h₀) (F : Fr h₀ L s.heap m) (X : (KK w).In h₀) (N : News h₀ L s.heap news) (T : Top topProg LO mean mg mb h₀)
    (hk : cs.kind = .function) (hd : dp + 6 < recursionLimit) (hu : un + 80 < cLine)
    (hks : KBw.bInts bs = ks) (hlen : ks.length < 1000)
    (hret : 0 ≤ at' → at' + 4 ≤ ks.length → ∀ v t h' tk', v = N32 ks at' → 0 ≤ v → v < 4294967296 → Fr h₀ L h' m → News h₀ L h' news → Q (.int v t) { s with heap := h', toks := tk' })
    (herr : (at' < 0 ∨ ks.length < at' + 4) → ∀ e g h' tk', Fr h₀ L g m → RaisedSN base g (envX cn cs L a ccd cl :: outer) e (.ref 44) news h' → g.UpToSlots h' → E (.ref e) { s with heap := h', toks := tk' }) :
    wpAny (model PR w) (ktrTop dp un gd cn cs L a ccd cl outer) (call (.ref 88) [.bytes bs tb, .int at' ta]) Q E s := by
  k_with_none
  (k_with "leaving ref" => ((k_here; k_dflt (refine' leave_onSX ?k1x0 ?k2x0 ?k5x0 ?k3x0 ?k4x0 ?_; (case k3x0 => assumption); (case k1x0 => k_asm); (case k2x0 => assumption); (case k5x0 => rfl); (case k4x0 => assumption); k_whole; intro h' R' U'; (try dsimp only at R' U' ⊢)))))
  (k_with "call ref" => ((k_here; (with_reducible show wpAny _ _ (call (Value.ref 74) _) _ _ _); k_dflt (refine' need_ok ?k1x1 ?k2x1 ?k3x1 ?k4x1 ?k5x1 ?k6x1 ?k7x1 ?k8x1 ?k9x1 ?k10x1 (fun c1 c2 h' tk' F' N' => ?_) (fun c1 e' g' h' tk' FG' R' U' => ?_); (case k1x1 => k_asm); (case k2x1 => k_asm); (case k3x1 => k_asm); (case k4x1 => k_asm); (case k5x1 => k_asm); (case k6x1 => first | exact rfl | assumption); (case k7x1 => ktr_room); (case k8x1 => ktr_units); (case k9x1 => k_asm); (case k10x1 => first | assumption | omega); (all_goals (try k_sweep)); (all_goals (try dsimp only)); (all_goals (try k_fold))))))
  (k_with "call ref" => ((k_here; (with_reducible show wpAny _ _ (call (Value.ref 81) _) _ _ _); k_dflt (refine' get16_ok ?k1x2 ?k2x2 ?k3x2 ?k4x2 ?k5x2 ?k6x2 ?k7x2 ?k8x2 ?k9x2 ?k10x2 (fun c1 c2 v' t' h' tk' ev' lo' hi' F' N' => ?_) (fun c1 e' g' h' tk' FG' R' U' => ?_); (case k1x2 => k_asm); (case k2x2 => k_asm); (case k3x2 => k_asm); (case k4x2 => k_asm); (case k5x2 => k_asm); (case k6x2 => first | exact rfl | assumption); (case k7x2 => ktr_room); (case k8x2 => ktr_units); (case k9x2 => k_asm); (case k10x2 => first | assumption | omega); (all_goals (try k_sweep)); (all_goals (try dsimp only)); (all_goals (try k_fold))))))
  have hby : ∀ k ∈ ks, 0 ≤ k ∧ k < 256 := fun k hk => KBw.ints_in (hks ▸ hk)
  revert X; dsimp only [KK, PR]; k_fill; intro X
  refine wpAny_call ?_
  k_dflt cell_enter
  k_steps
  all_goals first
    | (refine' herr ?ez1 _ _ _ _ ?ez2 ?ez3 ?ez4; (case ez3 => assumption); (case ez2 => assumption); (case ez4 => assumption); (case ez1 => omega))
    | (rw [or32 (by assumption) (by assumption) (by assumption)]; refine' hret ?rz1 ?rz2 _ _ _ _ ?rz3 ?rz4 ?rz5 ?rz6 ?rz7; (case rz6 => k_asm); (case rz7 => k_asm); (case rz1 => assumption); (case rz2 => assumption); (case rz3 => unfold N32; omega); (case rz4 => omega); (case rz5 => omega))
    | (exfalso; omega)

theorem get48_ok {w : World} {mg mb : Str → Option Value} {mean : ExcName → Option Value} {A₀ : Around} {base h₀ : Heap} {outer : List Env} {L : Addr} {m : Str → Option Value} {cs : Scope} {dp un : Nat}
    {gd : Option (List Code)} {cn : Str} {a : Addr} {ccd : Value} {cl : List (Str × Addr)} {s : Shared} {Q E : Value → Shared → Prop} {news : List (Addr × Obj)}
    {bs : Array UInt8} {ks : List Int} {at' : Int} {tb ta : Tok}
    (B : Below A₀ base outer h₀) (F : Fr h₀ L s.heap m) (X : (KK w).In h₀) (N : News h₀ L s.heap news) (T : Top topProg LO mean mg mb h₀)
    (hk : cs.kind = .function) (hd : dp + 8 < recursionLimit) (hu : un + 120 < cLine)
    (hks : KBw.bInts bs = ks) (hlen : ks.length < 1000)
    (hret : 0 ≤ at' → at' + 6 ≤ ks.length → ∀ v t h' tk', v = N48 ks at' → 0 ≤ v → v < 281474976710656 → Fr h₀ L h' m → News h₀ L h' news → Q (.int v t) { s with heap := h', toks := tk' })
    (herr : (at' < 0 ∨ ks.length < at' + 6) → ∀ e g h' tk', Fr h₀ L g m → RaisedSN base g (envX cn cs L a ccd cl :: outer) e (.ref 44) news h' → g.UpToSlots h' → E (.ref e) { s with heap := h', toks := tk' }) :
    wpAny (model PR w) (ktrTop dp un gd cn cs L a ccd cl outer) (call (.ref 95) [.bytes bs tb, .int at' ta]) Q E s := by
  k_with_none
  (k_with "leaving ref" => ((k_here; k_dflt (refine' leave_onSX ?k1x0 ?k2x0 ?k5x0 ?k3x0 ?k4x0 ?_; (case k3x0 => assumption); (case k1x0 => k_asm); (case k2x0 => assumption); (case k5x0 => rfl); (case k4x0 => assumption); k_whole; intro h' R' U'; (try dsimp only at R' U' ⊢)))))
  (k_with "call ref" => ((k_here; (with_reducible show wpAny _ _ (call (Value.ref 74) _) _ _ _); k_dflt (refine' need_ok ?k1x1 ?k2x1 ?k3x1 ?k4x1 ?k5x1 ?k6x1 ?k7x1 ?k8x1 ?k9x1 ?k10x1 (fun c1 c2 h' tk' F' N' => ?_) (fun c1 e' g' h' tk' FG' R' U' => ?_); (case k1x1 => k_asm); (case k2x1 => k_asm); (case k3x1 => k_asm); (case k4x1 => k_asm); (case k5x1 => k_asm); (case k6x1 => first | exact rfl | assumption); (case k7x1 => ktr_room); (case k8x1 => ktr_units); (case k9x1 => k_asm); (case k10x1 => first | assumption | omega); (all_goals (try k_sweep)); (all_goals (try dsimp only)); (all_goals (try k_fold))))))
  (k_with "call ref" => ((k_here; (with_reducible show wpAny _ _ (call (Value.ref 81) _) _ _ _); k_dflt (refine' get16_ok ?k1x2 ?k2x2 ?k3x2 ?k4x2 ?k5x2 ?k6x2 ?k7x2 ?k8x2 ?k9x2 ?k10x2 (fun c1 c2 v' t' h' tk' ev' lo' hi' F' N' => ?_) (fun c1 e' g' h' tk' FG' R' U' => ?_); (case k1x2 => k_asm); (case k2x2 => k_asm); (case k3x2 => k_asm); (case k4x2 => k_asm); (case k5x2 => k_asm); (case k6x2 => first | exact rfl | assumption); (case k7x2 => ktr_room); (case k8x2 => ktr_units); (case k9x2 => k_asm); (case k10x2 => first | assumption | omega); (all_goals (try k_sweep)); (all_goals (try dsimp only)); (all_goals (try k_fold))))))
  (k_with "call ref" => ((k_here; (with_reducible show wpAny _ _ (call (Value.ref 88) _) _ _ _); k_dflt (refine' get32_ok ?k1x3 ?k2x3 ?k3x3 ?k4x3 ?k5x3 ?k6x3 ?k7x3 ?k8x3 ?k9x3 ?k10x3 (fun c1 c2 v' t' h' tk' ev' lo' hi' F' N' => ?_) (fun c1 e' g' h' tk' FG' R' U' => ?_); (case k1x3 => k_asm); (case k2x3 => k_asm); (case k3x3 => k_asm); (case k4x3 => k_asm); (case k5x3 => k_asm); (case k6x3 => first | exact rfl | assumption); (case k7x3 => ktr_room); (case k8x3 => ktr_units); (case k9x3 => k_asm); (case k10x3 => first | assumption | omega); (all_goals (try k_sweep)); (all_goals (try dsimp only)); (all_goals (try k_fold))))))
  have hby : ∀ k ∈ ks, 0 ≤ k ∧ k < 256 := fun k hk => KBw.ints_in (hks ▸ hk)
  revert X; dsimp only [KK, PR]; k_fill; intro X
  refine wpAny_call ?_
  k_dflt cell_enter
  k_steps
  all_goals first
    | (refine' herr ?ez1 _ _ _ _ ?ez2 ?ez3 ?ez4; (case ez3 => assumption); (case ez2 => assumption); (case ez4 => assumption); (case ez1 => omega))
    | (rw [or48 (by assumption) (by assumption) (by assumption)]; refine' hret ?rz1 ?rz2 _ _ _ _ ?rz3 ?rz4 ?rz5 ?rz6 ?rz7; (case rz6 => k_asm); (case rz7 => k_asm); (case rz1 => assumption); (case rz2 => assumption); (case rz3 => unfold N48; omega); (case rz4 => omega); (case rz5 => omega))
    | (exfalso; omega)
end Mine
end
section
open PySem PySem.W PySem.Spec PySem.Calls PyProof.Rows
set_option maxRecDepth 100000
set_option maxHeartbeats 2000000
namespace Mine

def Callable (w : World) (mg mb : Str → Option Value) (mean : ExcName → Option Value) (f : Addr) (news : List (Addr × Obj)) (base : Heap) (P : Value → Prop) (Perr : Prop) (D U : Nat) : Prop :=
  ∀ (A₀ : Around) (outer : List Env) (h₀ : Heap) (L : Addr) (m : Str → Option Value) (cs : Scope) (dp un : Nat) (gd : Option (List Code)) (cn : Str) (a : Addr) (ccd : Value) (cl : List (Str × Addr)) (s : Shared) (Q E : Value → Shared → Prop),
    Below A₀ base outer h₀ → Fr h₀ L s.heap m → (KK w).In h₀ → News h₀ L s.heap news → Top topProg LO mean mg mb h₀ → cs.kind = .function → dp + D < recursionLimit → un + U < cLine →
    (∀ v h' tk', P v → Fr h₀ L h' m → News h₀ L h' news → Q v { s with heap := h', toks := tk' }) →
    (Perr → ∀ e g h' tk', Fr h₀ L g m → RaisedSN base g (envX cn cs L a ccd cl :: outer) e (.ref 44) news h' → g.UpToSlots h' → E (.ref e) { s with heap := h', toks := tk' }) →
    wpAny (model PR w) (ktrTop dp un gd cn cs L a ccd cl outer) (call (.ref f) []) Q E s

theorem callable_use {w : World} {mg mb : Str → Option Value} {mean : ExcName → Option Value} {A₀ : Around} {base h₀ : Heap} {outer : List Env} {L : Addr} {m : Str → Option Value} {cs : Scope} {dp un : Nat}
    {gd : Option (List Code)} {cn : Str} {a : Addr} {ccd : Value} {cl : List (Str × Addr)} {s : Shared} {Q E : Value → Shared → Prop} {news : List (Addr × Obj)}
    {f : Addr} {P : Value → Prop} {Perr : Prop} {D U : Nat} (C : Callable w mg mb mean f news base P Perr D U)
    (B : Below A₀ base outer h₀) (F : Fr h₀ L s.heap m) (X : (KK w).In h₀) (N : News h₀ L s.heap news) (T : Top topProg LO mean mg mb h₀) (hk : cs.kind = .function) (hd : dp + D < recursionLimit) (hu : un + U < cLine)
    (hret : ∀ v h' tk', P v → Fr h₀ L h' m → News h₀ L h' news → Q v { s with heap := h', toks := tk' })
    (herr : Perr → ∀ e g h' tk', Fr h₀ L g m → RaisedSN base g (envX cn cs L a ccd cl :: outer) e (.ref 44) news h' → g.UpToSlots h' → E (.ref e) { s with heap := h', toks := tk' }) :
    wpAny (model PR w) (ktrTop dp un gd cn cs L a ccd cl outer) (call (.ref f) []) Q E s :=
  C A₀ outer h₀ L m cs dp un gd cn a ccd cl s Q E B F X N T hk hd hu hret herr

local macro_rules | `(tactic| k_mem) => `(tactic| assumption)
local macro_rules | `(tactic| walk_at $s:str) => `(tactic| k_extra $s)

theorem told_ok {w : World} {mg mb : Str → Option Value} {mean : ExcName → Option Value} {A₀ : Around} {base h₀ : Heap} {outer : List Env} {L : Addr} {m : Str → Option Value} {cs : Scope} {dp un : Nat}
    {gd : Option (List Code)} {cn : Str} {a : Addr} {ccd : Value} {cl : List (Str × Addr)} {s : Shared} {Q E : Value → Shared → Prop} {news : List (Addr × Obj)}
    {f : Addr} {fo : Obj} {P : Value → Prop} {Perr : Prop} {D U : Nat}
    (B : Below A₀ base outer h₀) (F : Fr h₀ L s.heap m) (XB : (KK w).In base) (N : News h₀ L s.heap news) (TB : Top topProg LO mean mg mb base)
    (hk : cs.kind = .function) (hd : dp + 1 + D < recursionLimit) (hu : un + 40 + U < cLine)
    (hf : (f, fo) ∈ news) (hfo : ∃ oc od fd sl, fo = ⟨oc, od, .func fd, sl⟩) (hcall : Callable w mg mb mean f news base P Perr D U)
    (hret : ∀ v h₀' h' tk', (P v ∨ (Perr ∧ ∃ t, v = .str (Str.ofString "refused") t)) → KtsTurn (outer.filterMap (·.frame)) h₀ h₀' → Below A₀ base outer h₀' → Fr h₀' L h' m → News h₀' L h' news → Q v { s with heap := h', toks := tk' }) :
    wpAny (model PR w) (ktrTop dp un gd cn cs L a ccd cl outer) (call (.ref 161) [.ref f]) Q E s := by
  k_with_none
  (k_with "callWith ref" => ((k_here; k_dflt (refine' callWith_F0 ?k1x0 ?_; (case k1x0 => exact FnAt.of (by k_asm) (by k_mem)); k_whole; try dsimp only [List.nil_append, List.cons_append]))))
  (k_with "call ref" => ((k_here; k_dflt (refine' callable_use ?k0x1 ?k1x1 ?k2x1 ?k3x1 ?k4x1 ?k5x1 ?k6x1 ?k7x1 ?k8x1 (fun v' h' tk' pv' F' N' => ?_) (fun c1 e' g' h' tk' FG' R' U' => ?_); (case k0x1 => assumption); (case k1x1 => k_asm); (case k2x1 => k_asm); (case k3x1 => k_asm); (case k4x1 => k_asm); (case k5x1 => k_asm); (case k6x1 => first | exact rfl | assumption); (case k7x1 => ktr_room); (case k8x1 => ktr_units); (all_goals (try k_sweep)); (all_goals (try dsimp only)); (all_goals (try k_fold))))))
  (k_with "noteFrame ref" => ((k_here; k_dflt (refine' caught_formS ?k1x2 ?k2x2 ?k3x2 ?k4x2 ?k5x2 ?k6x2 (fun h' g' T9' F' N' B' X' T' => ?_) ?k7x2 ?k8x2 ?k9x2; (case k1x2 => assumption); (case k2x2 => assumption); (case k3x2 => k_asm); (case k4x2 => assumption); (case k5x2 => assumption); (case k6x2 => assumption); (case k7x2 => rfl); (case k8x2 => rfl); (case k9x2 => passes_own); (all_goals (try dsimp only)); (all_goals (try k_fold))))))
  obtain ⟨oc, od, fd, sl, rfl⟩ := hfo
  have X : (KK w).In h₀ := XB.keeps B.stays
  have T : Top topProg LO mean mg mb h₀ := TB.keeps B.stays
  revert X; dsimp only [KK, PR]; k_fill; intro X
  refine wpAny_call ?_
  k_dflt (refine' code_defSX ?k1 ?k2 ?k3 ?k4 ?k5 ?kA ?kF ?kK ?k6 ?k7 ?k8 ?k9 ?kB ?_ ?c2 ?c3 ?c4 ?c5; (case kA => exact rfl); (case kF => exact rfl); (case kK => assumption); (case k1 => k_asm); (case k2 => k_asm); (case k3 => k_asm); (case k4 => k_asm); (case k5 => k_asm); (case k6 => k_is); (case k7 => k_is); (case k8 => ktr_room); (case k9 => exact BindsTo.of_eq rfl); (case c5 => decide); (case kB => exact locs rfl); (case c2 => exact rfl); (case c3 => exact rfl); (case c4 => exact rfl); k_whole)
  intro g' L' h' FG' F' N' B' X' T'
  dsimp only
  k_fold
  k_steps
  · refine' leaveSX_ ?zz1 ?zz2 KtsTurn.refl (fun h₉ T9 B9 F9 N9 => hret _ _ _ _ (.inl ?zz3) T9 B9 F9 N9)
    (case zz1 => k_asm)
    (case zz2 => k_asm)
    (case zz3 => assumption)
  · dsimp only
    k_unfold
    dsimp only
    refine' leaveSX_ ?yy1 ?yy2 ?yy3 (fun h₉ T9 B9 F9 N9 => hret _ _ _ _ (.inr ⟨?yy4, _, rfl⟩) T9 B9 F9 N9)
    (case yy1 => k_asm)
    (case yy2 => k_asm)
    (case yy3 => assumption)
    (case yy4 => assumption)
end Mine
end
section
open PySem PySem.W PySem.Spec PySem.Calls PyProof.Rows
set_option maxRecDepth 100000
set_option maxHeartbeats 4000000
namespace Mine
local macro_rules | `(tactic| walk_at $s:str) => `(tactic| k_extra $s)
theorem number_ok {w : World} {mg mb : Str → Option Value} {mean : ExcName → Option Value} {A₀ : Around} {base h₀ : Heap} {outer : List Env} {L : Addr} {m : Str → Option Value} {cs : Scope} {dp un : Nat}
    {gd : Option (List Code)} {cn : Str} {a : Addr} {ccd : Value} {cl : List (Str × Addr)} {s : Shared} {Q E : Value → Shared → Prop} {news : List (Addr × Obj)}
    {bs : Array UInt8} {ks : List Int} {t : Tok}
    (B : Below A₀ base outer h₀) (F : Fr h₀ L s.heap m) (X : (KK w).In h₀) (N : News h₀ L s.heap news) (T : Top topProg LO mean mg mb h₀)
    (hk : cs.kind = .function) (hd : dp + 3 < recursionLimit) (hu : un + 40 < cLine)
    (hks : KBw.bInts bs = ks) (hlen : ks.length < 1000)
    (hret : ∀ v t h' tk', v = ks.foldl (fun a k => 256 * a + k) 0 → Fr h₀ L h' m → News h₀ L h' news → Q (.int v t) { s with heap := h', toks := tk' })
    : wpAny (model PR w) (ktrTop dp un gd cn cs L a ccd cl outer) (call (.ref 142) [.bytes bs t]) Q E s := by
  k_with_none
  (k_with "binaryOp Mult int int" => ((k_here; (first | ((with_reducible refine mul_int ?_ ?kzx0); (case kzx0 => mul_fits)) | ((try dsimp only); (try k_fmods); (with_reducible refine mul_int ?_ ?kzx0); (case kzx0 => mul_fits))))))
  (k_with "pyIter bytes" => (((rename Fr _ _ _ _ => lF'); (rename News _ _ _ _ => lN'); (with_unfolding_all refine' KBw.iterBytes_acc1 (y := Str.ofString "found") (fun a k => 256 * a + k) (by k_asm) (by rfl) lF' lN' (by rfl) (fun k' t' a' ta' h' tk' own' hmem' hlo' hhi' hoff' F' N' => ?_) (fun u' t' h' tk' F' N' => ?_)); (all_goals (try clear lF' lN')); (all_goals (try k_fold)))))
  (k_with "InvEndN" => ((refine InvEndN.intro (by assumption) (by assumption) ⟨rfl, ⟨_, by with_unfolding_all rfl⟩, by k_same2⟩ rfl (fun p hp => List.mem_append_left _ hp) (fun p hp => List.mem_append_right _ hp))))
  revert X; dsimp only [KK, PR]; k_fill; intro X
  refine wpAny_call ?_
  k_dflt cell_enter
  k_steps
  exact hret _ _ _ _ rfl (by k_asm) (by k_asm)
end Mine
end
section
open PySem PySem.W PySem.Spec PySem.Calls PyProof.Rows
set_option maxRecDepth 100000
set_option maxHeartbeats 1000000
namespace Mine

def CodeIn (qual : Str) (c' : Addr) (news : List (Addr × Obj)) : Prop := ∃ oc vs t, (c', oc) ∈ news ∧ oc.data = .fields vs ∧ vs[1]? = some (.str qual t)
structure TabInv (qual : Str) (ps : Array Value) (rest : List (Addr × Obj)) : Prop where
  tri : TriplesOk ps.toList
  hit : ∀ pos cv, codeAmong pos ps.toList = some cv → ∃ c', cv = .ref c' ∧ CodeIn qual c' rest
theorem CodeIn.mono {qual : Str} {c' : Addr} {r r' : List (Addr × Obj)} (h : CodeIn qual c' r) (hs : ∀ p ∈ r, p ∈ r') : CodeIn qual c' r' :=
  let ⟨oc, vs, t, a, b, c⟩ := h; ⟨oc, vs, t, hs _ a, b, c⟩
theorem TabInv.mono {qual : Str} {ps : Array Value} {r r' : List (Addr × Obj)} (h : TabInv qual ps r) (hs : ∀ p ∈ r, p ∈ r') : TabInv qual ps r' :=
  ⟨h.tri, fun pos cv e => let ⟨c', a, b⟩ := h.hit pos cv e; ⟨c', a, b.mono hs⟩⟩
theorem TabInv.nil {qual : Str} {r : List (Addr × Obj)} : TabInv qual #[] r := ⟨trivial, fun pos cv e => by cases e⟩
theorem codeAmong_app (pos : Pos) (r : List Value) (l : List Value) (h : TriplesOk l) : codeAmong pos (l ++ r) = match codeAmong pos l with | some c => some c | none => codeAmong pos r := by
  fun_induction TriplesOk l with
  | case1 => rfl
  | case2 a t b u x rest ih =>
    simp only [List.cons_append, codeAmong]
    split
    · rfl
    · exact ih h
  | case3 l h1 h2 => exact h.elim
theorem TabInv.snoc {qual : Str} {ps : Array Value} {r : List (Addr × Obj)} {c' : Addr} (h : TabInv qual ps r) (hc : CodeIn qual c' r) (a b : Int) : TabInv qual (ps ++ #[rawInt a, rawInt b, .ref c']) r := by
  refine ⟨?_, fun pos cv e => ?_⟩
  · rw [Array.toList_append]
    exact TriplesOk_snoc a b _ _ h.tri
  · rw [Array.toList_append, codeAmong_app _ _ _ h.tri] at e
    split at e
    · rename_i c hcc
      cases e
      exact h.hit pos _ hcc
    · simp only [codeAmong, rawInt] at e
      split at e
      · cases e; exact ⟨c', rfl, hc⟩
      · cases e

section
variable {M : Model} {A : Around} {E : Value → Shared → Prop} {s : Shared} {h₀ : Heap} {L a c : Addr} {m mg mb : Str → Option Value} {cn : Str} {cs : Scope} {ccd : Value} {cl : List (Str × Addr)}
  {p : Program} {loose : List Str} {mean : ExcName → Option Value} {params : Arguments} {body : PySem.Expr} {scope : Scope} {ps : Array Value} {pos : Pos} {clos : List (Str × Addr)} {rest : List (Addr × Obj)}
theorem lam_make {Q : Value → Shared → Prop} (F : Fr h₀ L s.heap m) (N : News h₀ L s.heap ((163, tabObj ps) :: rest)) (T : Top p loose mean mg mb h₀) (C : CodeHd h₀ c 163) (hcd : ccd = .ref c) (hr : ∀ p ∈ rest, p.1 ≠ 163)
    {qual : Str} (hqual : (envX cn cs L a ccd cl).qual ++ "<lambda>" = qual) (TI : TabInv qual ps rest) (hdef : defaultsOf params (envX cn cs L a ccd cl) = ([], [])) (hcl : closureFor scope (envX cn cs L a ccd cl) = pure clos)
    (h : ∀ f c' ctv pm h' tk ps' rest', Fr h₀ L h' m → News h₀ L h' ((163, tabObj ps') :: rest') → (∀ p ∈ rest, p ∈ rest') → (∀ p ∈ rest', p.1 ≠ 163) → TabInv qual ps' rest' →
      CodeIn qual c' rest' → (f, kla_obj "<lambda>" qual params body scope clos pm c' ctv) ∈ rest' → Q (.ref f) { s with heap := h', toks := tk }) :
    wpAny M A (eval (.Lambda params body scope pos) (envX cn cs L a ccd cl)) Q E s := by
  subst hqual
  refine kla_eval hdef ?_
  have N163 := N _ (.head _)
  cases hq : codeAmong pos ps.toList with
  | none =>
    refine kla_nest F N T C hcd (.head hr) TI.tri hq hcl fun f c' oc vs t ctv h' tk F' N' d1 d2 l1 l2 => ?_
    have h1 : (163 : Addr) < c' := l1 _ (.head _)
    have hc : CodeIn ((envX cn cs L a ccd cl).qual ++ "<lambda>") c' ((f, kla_obj "<lambda>" ((envX cn cs L a ccd cl).qual ++ "<lambda>") params body scope clos ((mg "__name__").getD .none) c' ctv) :: (c', oc) :: rest) :=
      ⟨oc, vs, t, .tail _ (.head _), d1, d2⟩
    have sub : ∀ p ∈ rest, p ∈ (f, kla_obj "<lambda>" ((envX cn cs L a ccd cl).qual ++ "<lambda>") params body scope clos ((mg "__name__").getD .none) c' ctv) :: (c', oc) :: rest := fun p hp => .tail _ (.tail _ hp)
    refine h f c' ctv _ h' tk (ps ++ #[rawInt pos.line, rawInt pos.col, .ref c']) _ F' (fun p hp => ?_) sub (fun p hp => ?_) ((TI.mono sub).snoc hc _ _) hc (.head _)
    · rcases List.mem_cons.mp hp with rfl | hp
      · exact N' _ (.tail _ (.tail _ (.head _)))
      · rcases List.mem_cons.mp hp with rfl | hp
        · exact N' _ (.head _)
        · rcases List.mem_cons.mp hp with rfl | hp
          · exact N' _ (.tail _ (.head _))
          · exact N' _ (.tail _ (.tail _ (.tail _ hp)))
    · rcases List.mem_cons.mp hp with rfl | hp
      · exact Nat.ne_of_gt (Nat.lt_trans h1 l2)
      · rcases List.mem_cons.mp hp with rfl | hp
        · exact Nat.ne_of_gt h1
        · exact hr p hp
  | some cv =>
    obtain ⟨c', rfl, hc⟩ := TI.hit _ _ hq
    refine kla_hit F N T C hcd (.head _) TI.tri hq hcl fun f ctv h' tk F' N' l1 => ?_
    have h1 : (163 : Addr) < f := l1 _ (.head _)
    have sub : ∀ p ∈ rest, p ∈ (f, kla_obj "<lambda>" ((envX cn cs L a ccd cl).qual ++ "<lambda>") params body scope clos ((mg "__name__").getD .none) c' ctv) :: rest := fun p hp => .tail _ hp
    refine h f c' ctv _ h' tk ps _ F' (fun p hp => ?_) sub (fun p hp => ?_) (TI.mono sub) (hc.mono sub) (.head _)
    · rcases List.mem_cons.mp hp with rfl | hp
      · exact N' _ (.tail _ (.head _))
      · rcases List.mem_cons.mp hp with rfl | hp
        · exact N' _ (.head _)
        · exact N' _ (.tail _ (.tail _ hp))
    · rcases List.mem_cons.mp hp with rfl | hp
      · exact Nat.ne_of_gt h1
      · exact hr p hp
end
end Mine
end
section
open PySem PySem.W PySem.Spec PySem.Calls PyProof.Rows
set_option maxRecDepth 100000
set_option maxHeartbeats 1000000
namespace Mine

section
variable {prog : Program} {w : World} {A A₀ : Around} {E : Value → Shared → Prop} {s : Shared} {base g0 : Heap} {outer : List Env} {L a cM I l : Addr} {cn : Str} {cs : Scope} {ccd : Value} {cl : List (Str × Addr)}
  {qual x : Str} {items : Array Value} {others : List (Addr × Obj)} {body : List Stmt} {px : Pos} {Q : Flow → Shared → Prop}

/-- the state between two turns of the loop -/
def LoopSt (A₀ : Around) (base g0 : Heap) (outer : List Env) (L cM I l : Addr) (qual : Str) (others : List (Addr × Obj)) (s : Shared) (i : Nat) (s' : Shared) : Prop :=
  ∃ g h tk m ps rest oI oM v₀, s' = { s with heap := h, toks := tk } ∧ KtsTurn (outer.filterMap (·.frame)) g0 g ∧ Below A₀ base outer g ∧ Fr g L h m ∧ News g L h ((163, tabObj ps) :: rest) ∧ (∀ p ∈ rest, p.1 ≠ 163) ∧ TabInv qual ps rest ∧
    (∀ p ∈ others, p ∈ rest) ∧ (I, oI) ∈ rest ∧ oI.cls = .type "list_iterator" ∧ oI.data = .fields #[.ref l, .int (i : Nat) 0] ∧ (cM, oM) ∈ rest ∧ oM.data = .cell v₀

theorem uniq {h₀ h : Heap} {L x : Addr} {o o' : Obj} {news : List (Addr × Obj)} (N : News h₀ L h news) (h1 : (x, o) ∈ news) (h2 : (x, o') ∈ news) : o = o' := by
  have a := (N _ h1).1
  have b := (N _ h2).1
  rw [a] at b
  exact Option.some.inj b

theorem loop_cell (hh : A.handled = none) (hk : cs.kind = .function) (hx : (envX cn cs L a ccd cl).kindOf x = some .cell) (hc : cl.lookup x = some cM)
    (hE : PassesOwn (model prog w) A (envX cn cs L a ccd cl) E)
    (lo : Obj) (hlo : (l, lo) ∈ others) (hlc : lo.cls = .type "list") (hld : ∃ n, lo.data = .seq items n) (hI : ∀ p ∈ others, p.1 ≠ I) (hM : ∀ p ∈ others, p.1 ≠ cM)
    (turn : ∀ i v g h tk m ps rest oI oM, items[i]? = some v → KtsTurn (outer.filterMap (·.frame)) g0 g → Below A₀ base outer g → Fr g L h m → News g L h ((163, tabObj ps) :: rest) → (∀ p ∈ rest, p.1 ≠ 163) → TabInv qual ps rest →
      (∀ p ∈ others, p ∈ rest) → (I, oI) ∈ rest → oI.cls = .type "list_iterator" → oI.data = .fields #[.ref l, .int ((i + 1 : Nat) : Int) 0] → (cM, oM) ∈ rest → oM.data = .cell (some v) →
      wpAny (model prog w) A (execs body (envX cn cs L a ccd cl)) (fun f s₃ => match f with | .ret v => Q (.ret v) s₃ | .brk => Q .next s₃ | _ => LoopSt A₀ base g0 outer L cM I l qual others s (i + 1) s₃) E { s with heap := h, toks := tk })
    (done : ∀ g h tk m ps rest, KtsTurn (outer.filterMap (·.frame)) g0 g → Below A₀ base outer g → Fr g L h m → News g L h ((163, tabObj ps) :: rest) → (∀ p ∈ rest, p.1 ≠ 163) → TabInv qual ps rest → (∀ p ∈ others, p ∈ rest) → Q .next { s with heap := h, toks := tk })
    {s' : Shared} (h0 : LoopSt A₀ base g0 outer L cM I l qual others s 0 s') :
    codeAny (model prog w) A (.forLoop (.Name x px) (.ref I) body [] (envX cn cs L a ccd cl)) (fun r s' => match r with | .ok f => Q f s' | .error e => cameBackBy (model prog w) A (envX cn cs L a ccd cl) E e s') s' := by
  refine codeAny_forLoop (fun n s' => ∃ i, n + i = items.size ∧ LoopSt A₀ base g0 outer L cM I l qual others s i s') ?_ items.size ⟨0, rfl, h0⟩
  rintro n s' ⟨i, hn, g, h, tk, m, ps, rest, oI, oM, v₀, rfl, T, B, F, N, hr, TI, ho, mI, cI, dI, mM, dM⟩
  have NI := N _ (.tail _ mI)
  have NM := N _ (.tail _ mM)
  have hIM : I ≠ cM := fun e => by
    have := uniq N (.tail _ mI) (o' := oM) (.tail _ (e ▸ mM))
    rw [this, dM] at dI; cases dI
  obtain ⟨nl, hld⟩ := hld
  have hls : h.IsList l items := ⟨lo, (N _ (.tail _ (ho _ hlo))).1, hlc, nl, hld⟩
  have hit : h.IsListIter I l i := ⟨oI, NI.1, cI, dI⟩
  have offC : ∀ c' oc vs t, (c', oc) ∈ rest → oc.data = .fields vs → vs[1]? = some (Value.str qual t) → c' ≠ I ∧ c' ≠ cM := fun c' oc vs t hm hd hv => by
    constructor
    · rintro rfl
      have := uniq N (.tail _ mI) (.tail _ hm)
      rw [← this, dI] at hd
      cases hd
      cases hv
    · rintro rfl
      have := uniq N (.tail _ mM) (.tail _ hm)
      rw [← this, dM] at hd
      cases hd
  by_cases hi : i < items.size
  · refine wpAny_pyNext_list_item hit hls (x := items[i]) (by simp [hi]) fun h' hit' hs' => ?_
    obtain ⟨oI', gI', cI', dI'⟩ := hit'
    have F₁ := F.change hs' NI.2.1 NI.2.2
    have NM' : h'.get? cM = some oM := (hs'.2 cM (Ne.symm hIM)).trans NM.1
    refine wpAny_assign_Name (wpAny_storeName_cell hk hx hc ⟨oM, NM', dM⟩ fun h'' hv hs'' => ?_)
    obtain ⟨oM', gM', dM'⟩ := hv
    have F₂ : Fr g L h'' m := F₁.change hs'' NM.2.1 NM.2.2
    have keep : ∀ p ∈ (163, tabObj ps) :: rest, p.1 ≠ I → p.1 ≠ cM → h''.get? p.1 = some p.2 := fun p hp e1 e2 => (hs''.2 _ e2).trans ((hs'.2 _ e1).trans (N p hp).1)
    have mem₂ : ∀ p ∈ rest, p.1 ≠ I → p.1 ≠ cM → p ∈ (I, oI') :: (cM, oM') :: rest.filter (fun p => p.1 != I && p.1 != cM) := fun p hp e1 e2 => .tail _ (.tail _ (List.mem_filter.mpr ⟨hp, by simp [e1, e2]⟩))
    refine wpAny_passesOwn hE (wpAny_mono (turn i items[i] g h'' tk m ps ((I, oI') :: (cM, oM') :: rest.filter (fun p => p.1 != I && p.1 != cM)) oI' oM' (by simp [hi]) T B F₂ ?_ ?_ ?_ ?_ (.head _) cI' dI' (.tail _ (.head _)) dM') (fun f s₃ q => ?_) fun _ _ q => q)
    · intro p hp
      rcases List.mem_cons.mp hp with rfl | hp
      · exact ⟨keep _ (.head _) (fun e => hr _ mI e.symm) (fun e => hr _ mM e.symm), (N _ (.head _)).2⟩
      · rcases List.mem_cons.mp hp with rfl | hp
        · exact ⟨(hs''.2 _ hIM).trans gI', NI.2⟩
        · rcases List.mem_cons.mp hp with rfl | hp
          · exact ⟨gM', NM.2⟩
          · obtain ⟨hp, hne⟩ := List.mem_filter.mp hp
            simp only [Bool.and_eq_true, bne_iff_ne] at hne
            exact ⟨keep p (.tail _ hp) hne.1 hne.2, (N p (.tail _ hp)).2⟩
    · intro p hp
      rcases List.mem_cons.mp hp with rfl | hp
      · exact hr (I, oI) mI
      · rcases List.mem_cons.mp hp with rfl | hp
        · exact hr (cM, oM) mM
        · exact hr p (List.mem_filter.mp hp).1
    · refine ⟨TI.tri, fun pos cv e => ?_⟩
      obtain ⟨c', rfl, oc, vs, t, hm, hd, hv⟩ := TI.hit pos cv e
      have off := offC c' oc vs t hm hd hv
      exact ⟨c', rfl, oc, vs, t, mem₂ _ hm off.1 off.2, hd, hv⟩
    · intro p hp
      exact mem₂ p (ho p hp) (hI p hp) (hM p hp)
    · cases f with
      | ret v => exact q
      | brk => exact q
      | next => exact ⟨n - 1, by omega, i + 1, by omega, q⟩
      | cont => exact ⟨n - 1, by omega, i + 1, by omega, q⟩
  · have hin : i = items.size := by omega
    refine wpAny_pyNext_list_end hh hit hls (by simp [hin]) fun h' hx' => wpAny_execs_nil ?_
    have F₁ : Fr g L h' m := ⟨F.ns.extBut hx' (Ne.symm NI.2.1), fun b o e => hx' b o (fun q => by rw [q, NI.2.2] at e; cases e) (F.keep b o e), F.above⟩
    refine done g h' tk m ps (rest.filter (fun p => p.1 != I)) T B F₁ ?_ ?_ ?_ ?_
    · intro p hp
      rcases List.mem_cons.mp hp with rfl | hp
      · exact ⟨hx' _ _ (fun e => hr _ mI e.symm) (N _ (.head _)).1, (N _ (.head _)).2⟩
      · obtain ⟨hp, hne⟩ := List.mem_filter.mp hp
        simp only [bne_iff_ne] at hne
        exact ⟨hx' _ _ hne (N p (.tail _ hp)).1, (N p (.tail _ hp)).2⟩
    · intro p hp
      exact hr p (List.mem_filter.mp hp).1
    · refine ⟨TI.tri, fun pos cv e => ?_⟩
      obtain ⟨c', rfl, oc, vs, t, hm, hd, hv⟩ := TI.hit pos cv e
      have off := offC c' oc vs t hm hd hv
      exact ⟨c', rfl, oc, vs, t, List.mem_filter.mpr ⟨hm, by simp [off.1]⟩, hd, hv⟩
    · intro p hp
      exact List.mem_filter.mpr ⟨ho p hp, by simp [hI p hp]⟩
end
end Mine
end
section
open PySem PySem.W PySem.Calls PyProof.Rows
set_option maxRecDepth 100000
namespace Mine
theorem take_drop (ks : List Int) (j k : Nat) (h : j < ks.length) : (ks.drop j).take (k + 1) = ks.getD j 0 :: (ks.drop (j + 1)).take k := by
  rw [List.drop_eq_getElem_cons h, List.take_succ_cons, List.getD_eq_getElem?_getD, List.getElem?_eq_getElem h]
  rfl
theorem clip_in {n : Nat} {i : Int} (h0 : 0 ≤ i) (h1 : i ≤ n) : clipAt n i = i.toNat := by
  obtain ⟨k, rfl⟩ := Int.eq_ofNat_of_zero_le h0
  rw [clipAt_nat]
  simp only [Int.toNat_natCast]
  omega
theorem fold2 {ks : List Int} {pl : Int} (h0 : 0 ≤ pl) (h1 : pl + 2 ≤ ks.length) :
    List.foldl (fun a k => 256 * a + k) 0 (List.take (clipAt ks.length (pl + 2) - clipAt ks.length pl) (List.drop (clipAt ks.length pl) ks)) = N16 ks pl := by
  rw [clip_in (by omega) h1, clip_in h0 (by omega)]
  have e : (pl + 2).toNat - pl.toNat = 0 + 1 + 1 := by omega
  have e1 : (pl + 1).toNat = pl.toNat + 1 := by omega
  rw [e, take_drop ks _ _ (by omega), take_drop ks _ _ (by omega)]
  unfold N16
  rw [e1]
  simp only [List.take_zero, List.foldl_cons, List.foldl_nil]
  omega
theorem fold4 {ks : List Int} {pl : Int} (h0 : 0 ≤ pl) (h1 : pl + 4 ≤ ks.length) :
    List.foldl (fun a k => 256 * a + k) 0 (List.take (clipAt ks.length (pl + 4) - clipAt ks.length pl) (List.drop (clipAt ks.length pl) ks)) = N32 ks pl := by
  rw [clip_in (by omega) h1, clip_in h0 (by omega)]
  have e : (pl + 4).toNat - pl.toNat = 0 + 1 + 1 + 1 + 1 := by omega
  have e1 : (pl + 1).toNat = pl.toNat + 1 := by omega
  have e2 : (pl + 2).toNat = pl.toNat + 1 + 1 := by omega
  have e3 : (pl + 2 + 1).toNat = pl.toNat + 1 + 1 + 1 := by omega
  rw [e, take_drop ks _ _ (by omega), take_drop ks _ _ (by omega), take_drop ks _ _ (by omega), take_drop ks _ _ (by omega)]
  unfold N32 N16
  rw [e1, e2, e3]
  simp only [List.take_zero, List.foldl_cons, List.foldl_nil]
  omega
theorem fold6 {ks : List Int} {pl : Int} (h0 : 0 ≤ pl) (h1 : pl + 6 ≤ ks.length) :
    List.foldl (fun a k => 256 * a + k) 0 (List.take (clipAt ks.length (pl + 6) - clipAt ks.length pl) (List.drop (clipAt ks.length pl) ks)) = N48 ks pl := by
  rw [clip_in (by omega) h1, clip_in h0 (by omega)]
  have e : (pl + 6).toNat - pl.toNat = 0 + 1 + 1 + 1 + 1 + 1 + 1 := by omega
  have e1 : (pl + 1).toNat = pl.toNat + 1 := by omega
  have e2 : (pl + 2).toNat = pl.toNat + 1 + 1 := by omega
  have e3 : (pl + 2 + 1).toNat = pl.toNat + 1 + 1 + 1 := by omega
  have e4 : (pl + 2 + 2).toNat = pl.toNat + 1 + 1 + 1 + 1 := by omega
  have e5 : (pl + 2 + 2 + 1).toNat = pl.toNat + 1 + 1 + 1 + 1 + 1 := by omega
  rw [e, take_drop ks _ _ (by omega), take_drop ks _ _ (by omega), take_drop ks _ _ (by omega), take_drop ks _ _ (by omega), take_drop ks _ _ (by omega), take_drop ks _ _ (by omega)]
  unfold N48 N32 N16
  rw [e1, e2, e3, e4, e5]
  simp only [List.take_zero, List.foldl_cons, List.foldl_nil]
  omega
end Mine
end
section
open PySem PySem.W PySem.Spec PySem.Calls PyProof.Rows
set_option maxRecDepth 100000
set_option maxHeartbeats 4000000
set_option rowWalk.seconds 0
namespace Mine
structure Many (n : Nat) : Prop where
structure Track (tr rest : List (Addr × Obj)) : Prop where
  sub : ∀ p ∈ tr, p ∈ rest

local macro_rules | `(tactic| k_mem) => `(tactic| (refine' List.Mem.tail _ ?_; (with_reducible rename Track _ _ => trX); refine' trX.sub _ ?_; assumption))
local macro_rules | `(tactic| walk_at $s:str) => `(tactic| k_extra $s)

structure Hint (P : Value → Prop) (Perr : Prop) : Prop where
theorem told_hint {w : World} {mg mb : Str → Option Value} {mean : ExcName → Option Value} {A₀ : Around} {base h₀ : Heap} {outer : List Env} {L : Addr} {m : Str → Option Value} {cs : Scope} {dp un : Nat}
    {gd : Option (List Code)} {cn : Str} {a : Addr} {ccd : Value} {cl : List (Str × Addr)} {s : Shared} {Q E : Value → Shared → Prop} {ps : Array Value} {rest : List (Addr × Obj)} {g0 : Heap}
    {f c' : Addr} {name qual : Str} {params : Arguments} {body : PySem.Expr} {scope : Scope} {clos : List (Str × Addr)} {pm ctv : Value} {P : Value → Prop} {Perr : Prop}
    (H : Hint P Perr) (B : Below A₀ base outer h₀) (F : Fr h₀ L s.heap m) (XB : (KK w).In base) (N : News h₀ L s.heap ((163, tabObj ps) :: rest)) (TB : Top topProg LO mean mg mb base)
    (hk : cs.kind = .function) (hd : dp + 16 < recursionLimit) (hu : un + 240 < cLine) (oT : KtsTurn (outer.filterMap (·.frame)) g0 h₀)
    (hf : (f, kla_obj name qual params body scope clos pm c' ctv) ∈ rest) (hcall : Callable w mg mb mean f ((163, tabObj ps) :: rest) base P Perr 14 200)
    (hret : ∀ v h₀' h' tk', (P v ∨ (Perr ∧ ∃ t, v = .str (Str.ofString "refused") t)) → KtsTurn (outer.filterMap (·.frame)) g0 h₀' → Below A₀ base outer h₀' → (KK w).In h₀' → Top topProg LO mean mg mb h₀' → Fr h₀' L h' m → News h₀' L h' ((163, tabObj ps) :: rest) → Q v { s with heap := h', toks := tk' }) :
    wpAny (model PR w) (ktrTop dp un gd cn cs L a ccd cl outer) (call (.ref 161) [.ref f]) Q E s :=
  told_ok B F XB N TB hk (by omega) (by omega) (.tail _ hf) ⟨_, _, _, _, rfl⟩ hcall fun v h₀' h' tk' hP T' B' F' N' => hret v h₀' h' tk' hP (oT.trans T') B' (XB.keeps B'.stays) (TB.keeps B'.stays) F' N'
theorem codeIn_rec {h₀ h : Heap} {L c' : Addr} {qual : Str} {ps : Array Value} {rest : List (Addr × Obj)} (N : News h₀ L h ((163, tabObj ps) :: rest)) (hc : CodeIn qual c' rest) : h.CodeRec (.ref c') qual :=
  let ⟨_, _, _, hm, hd, hv⟩ := hc; codeRec_news N (.tail _ hm) hd hv


theorem place_ok {w : World} {mg mb : Str → Option Value} {mean : ExcName → Option Value} {A₀ : Around} {base h₀ : Heap} {outer : List Env} {L : Addr} {m : Str → Option Value} {cs : Scope} {dp un : Nat}
    {gd : Option (List Code)} {cn : Str} {a : Addr} {ccd : Value} {cl : List (Str × Addr)} {s : Shared} {Q E : Value → Shared → Prop} {ps : Array Value} {rest : List (Addr × Obj)}
    {bs : Array UInt8} {ks : List Int} {pl : Int} {tb tp : Tok}
    (B : Below A₀ base outer h₀) (F : Fr h₀ L s.heap m) (XB : (KK w).In base) (N : News h₀ L s.heap ((163, tabObj ps) :: rest)) (TB : Top topProg LO mean mg mb base) (codeHd : CodeHd base 167 163)
    (hk : cs.kind = .function) (hd : dp + 20 < recursionLimit) (hu : un + 400 < cLine) (hr : ∀ p ∈ rest, p.1 ≠ 163) (TI : TabInv (Str.ofString "_law_place_right.<locals>.<lambda>") ps rest)
    (hks : KBw.bInts bs = ks) (hlen : ks.length < 1000) (hp : -1000 < pl) (hp' : pl < 1000)
    (hret : ∀ h₀' h' tk' ps' rest', KtsTurn (outer.filterMap (·.frame)) h₀ h₀' → Below A₀ base outer h₀' → Fr h₀' L h' m → News h₀' L h' ((163, tabObj ps') :: rest') → (∀ p ∈ rest', p.1 ≠ 163) → TabInv (Str.ofString "_law_place_right.<locals>.<lambda>") ps' rest' →
      (∀ p ∈ rest, p ∈ rest') → Q (.bool true) { s with heap := h', toks := tk' }) :
    wpAny (model PR w) (ktrTop dp un gd cn cs L a ccd cl outer) (call (.ref 168) [.bytes bs tb, .int pl tp]) Q E s := by
  k_with_none
  (k_with "callWith ref" => ((k_here; k_dflt (first | (refine' callWith_K ?k1x0 ?k2x0 ?_; (case k1x0 => k_asm); (case k2x0 => k_is); k_whole) | (refine' callWith_K0 ?k1x0 ?k2x0 ?_; (case k1x0 => k_in); (case k2x0 => k_is); k_whole)))))
  (k_with "exec For Name List cons nil" => ((k_here; (with_unfolding_all refine' wpAny_For ?k1x1 ?k2x1); (case k2x1 => intro _; rfl))))
  (k_with "call ref" => ((k_here; (with_reducible show wpAny _ _ (call (Value.ref 142) _) _ _ _); k_dflt (refine' number_ok ?k1x2 ?k2x2 ?k3x2 ?k4x2 ?k5x2 ?k6x2 ?k7x2 ?k8x2 ?k9x2 ?k10x2 ?_; (case k1x2 => k_asm); (case k2x2 => k_asm); (case k3x2 => k_asm); (case k4x2 => k_asm); (case k5x2 => k_asm); (case k6x2 => first | exact rfl | assumption); (case k7x2 => ktr_room); (case k8x2 => ktr_units); (case k9x2 => k_asm); (case k10x2 => kba_size); intro v' t' h' tk' ev' F' N'; (first | (with_reducible rename Many 2 => mny; replace ev' := ev'.trans (fold2 (by omega) (by omega))) | (with_reducible rename Many 4 => mny; replace ev' := ev'.trans (fold4 (by omega) (by omega))) | (with_reducible rename Many 6 => mny; replace ev' := ev'.trans (fold6 (by omega) (by omega)))); (try k_sweep); (try dsimp only); (try k_fold)))))
  (k_with "eval Lambda" => ((k_here; k_dflt (refine' lam_make ?k1x3 ?k2x3 ?k3x3 ?k4x3 ?k5x3 ?k6x3 ?k0x3 ?k7x3 ?k8x3 ?k9x3 ?_; (case k1x3 => k_asm); (case k2x3 => k_asm); (case k3x3 => k_asm); (case k4x3 => kn_code); (case k5x3 => exact rfl); (case k6x3 => assumption); (case k7x3 => assumption); (case k0x3 => (show (Str.ofString "_law_place_right" ++ Str.ofString ".<locals>.") ++ Str.ofString "<lambda>" = Str.ofString "_law_place_right.<locals>.<lambda>"; decide +kernel)); (case k8x3 => exact rfl); (case k9x3 => exact rfl); intro f' c' ctv' pm' h' tk' ps' rest' F' N' sub' hr' TI' hc' mf'; (try k_sweep); (with_reducible rename Track _ _ => trO); (have trN := Track.mk (fun p hp => sub' p (trO.sub p hp))); (try dsimp only); (try k_fold)))))
  (k_with "leaving ref" => ((k_here; k_dflt (refine' leave_onSX ?k1x4 ?k2x4 ?k5x4 ?k3x4 ?k4x4 ?_; (case k3x4 => assumption); (case k1x4 => k_asm); (case k2x4 => assumption); (case k5x4 => rfl); (case k4x4 => assumption); k_whole; intro h' R' U'; (try dsimp only at R' U' ⊢)))))
  (k_with "call ref" => ((k_here; (with_reducible show wpAny _ _ (call (Value.ref 74) _) _ _ _); k_dflt (refine' need_ok ?k1x5 ?k2x5 ?k3x5 ?k4x5 ?k5x5 ?k6x5 ?k7x5 ?k8x5 ?k9x5 ?k10x5 (fun c1 c2 h' tk' F' N' => ?_) (fun c1 e' g' h' tk' FG' R' U' => ?_); (case k1x5 => k_asm); (case k2x5 => k_asm); (case k3x5 => k_asm); (case k4x5 => k_asm); (case k5x5 => k_asm); (case k6x5 => first | exact rfl | assumption); (case k7x5 => ktr_room); (case k8x5 => ktr_units); (case k9x5 => k_asm); (case k10x5 => first | assumption | omega); (all_goals (try k_sweep)); (all_goals (try dsimp only)); (all_goals (try k_fold))))))
  (k_with "call ref" => ((k_here; (with_reducible show wpAny _ _ (call (Value.ref 81) _) _ _ _); k_dflt (refine' get16_ok ?k1x6 ?k2x6 ?k3x6 ?k4x6 ?k5x6 ?k6x6 ?k7x6 ?k8x6 ?k9x6 ?k10x6 (fun c1 c2 v' t' h' tk' ev' lo' hi' F' N' => ?_) (fun c1 e' g' h' tk' FG' R' U' => ?_); (case k1x6 => k_asm); (case k2x6 => k_asm); (case k3x6 => k_asm); (case k4x6 => k_asm); (case k5x6 => k_asm); (case k6x6 => first | exact rfl | assumption); (case k7x6 => ktr_room); (case k8x6 => ktr_units); (case k9x6 => k_asm); (case k10x6 => first | assumption | omega); (all_goals (try k_sweep)); (all_goals (try dsimp only)); (all_goals (try k_fold))))))
  (k_with "call ref" => ((k_here; (with_reducible show wpAny _ _ (call (Value.ref 88) _) _ _ _); k_dflt (refine' get32_ok ?k1x7 ?k2x7 ?k3x7 ?k4x7 ?k5x7 ?k6x7 ?k7x7 ?k8x7 ?k9x7 ?k10x7 (fun c1 c2 v' t' h' tk' ev' lo' hi' F' N' => ?_) (fun c1 e' g' h' tk' FG' R' U' => ?_); (case k1x7 => k_asm); (case k2x7 => k_asm); (case k3x7 => k_asm); (case k4x7 => k_asm); (case k5x7 => k_asm); (case k6x7 => first | exact rfl | assumption); (case k7x7 => ktr_room); (case k8x7 => ktr_units); (case k9x7 => k_asm); (case k10x7 => first | assumption | omega); (all_goals (try k_sweep)); (all_goals (try dsimp only)); (all_goals (try k_fold))))))
  (k_with "call ref" => ((k_here; (with_reducible show wpAny _ _ (call (Value.ref 95) _) _ _ _); k_dflt (refine' get48_ok ?k1x8 ?k2x8 ?k3x8 ?k4x8 ?k5x8 ?k6x8 ?k7x8 ?k8x8 ?k9x8 ?k10x8 (fun c1 c2 v' t' h' tk' ev' lo' hi' F' N' => ?_) (fun c1 e' g' h' tk' FG' R' U' => ?_); (case k1x8 => k_asm); (case k2x8 => k_asm); (case k3x8 => k_asm); (case k4x8 => k_asm); (case k5x8 => k_asm); (case k6x8 => first | exact rfl | assumption); (case k7x8 => ktr_room); (case k8x8 => ktr_units); (case k9x8 => k_asm); (case k10x8 => first | assumption | omega); (all_goals (try k_sweep)); (all_goals (try dsimp only)); (all_goals (try k_fold))))))
  (k_with "call ref" => ((k_here; (with_reducible show wpAny _ _ (call (Value.ref 161) _) _ _ _); (with_reducible rename Hint _ _ => hnt); (with_reducible rename KtsTurn _ _ _ => oT); k_dflt (refine' told_hint hnt ?k1x9 ?k2x9 ?k3x9 ?k4x9 ?k5x9 ?k6x9 ?k7x9 ?k8x9 oT ?k10x9 ?k11x9 ?_; (case k1x9 => k_asm); (case k2x9 => k_asm); (case k3x9 => k_asm); (case k4x9 => k_asm); (case k5x9 => k_asm); (case k6x9 => first | exact rfl | assumption); (case k7x9 => ktr_room); (case k8x9 => ktr_units); (case k10x9 => assumption)); (case k11x9 => ((unfold Callable); (dsimp only [KK, PR]); (intro A₁ outer₁ h₁ L₁ m₁ cs₁ dp₁ un₁ gd₁ cn₁ a₁ ccd₁ cl₁ s₁ Q₁ E₁ B₁ F₁ X₁ N₁ T₁ hk₁ hd₁ hu₁ hret₁ herr₁); (refine wpAny_call ?_); (k_dflt (refine' kla_code ?k1x9 ?k2x9 ?k3x9 ?k4x9 ?k5x9 ?kAx9 ?kFx9 ?kKx9 ?k6x9 ?k7x9 ?k8x9 ?k9x9 ?kBx9 ?_ ?c2x9 ?c3x9 ?c4x9 ?c5x9; (case kAx9 => exact rfl); (case kFx9 => exact rfl); (case kKx9 => assumption); (case k1x9 => k_asm); (case k2x9 => k_asm); (case k3x9 => k_asm); (case k4x9 => k_asm); (case k5x9 => k_asm); (case k6x9 => (refine' List.Mem.tail _ ?_; assumption)); (case k7x9 => exact codeIn_rec (by k_asm) (by assumption)); (case k8x9 => ktr_room); (case k9x9 => exact rfl); (case c5x9 => decide); (case kBx9 => exact locs rfl); (case c2x9 => exact rfl); (case c3x9 => exact rfl); (case c4x9 => exact rfl); k_whole)); (intro g₁' L₁' h₁' FG₁' F₁' N₁' B₁' X₁' T₁'); ((try dsimp only)); ((try k_fold)); (k_steps); (all_goals first | (refine' herr₁ ?ez1x9 _ _ _ _ ?ez2x9 ?ez3x9 ?ez4x9; (case ez3x9 => assumption); (case ez2x9 => assumption); (case ez4x9 => assumption); (case ez1x9 => assumption)) | (refine' hret₁ _ _ _ ⟨(), (), rfl, True.intro, ?sz2x9, ?sz3x9⟩ ?sz4x9 ?sz5x9; (case sz4x9 => k_asm); (case sz5x9 => k_asm); (case sz2x9 => assumption); (case sz3x9 => assumption)) | (refine' hret₁ _ _ _ ⟨_, _, rfl, ?rz1x9, ?rz2x9, ?rz3x9⟩ ?rz4x9 ?rz5x9; (case rz4x9 => k_asm); (case rz5x9 => k_asm); (case rz1x9 => first | assumption | exact True.intro); (case rz2x9 => assumption); (case rz3x9 => assumption))))); (rintro v' g9' h' tk' (⟨x', t', e0', e1', e2', e3'⟩ | ⟨c9', t', e0'⟩) T9' B' X' T' F' N' <;> subst e0'); (all_goals (try (exfalso; omega; done))); (all_goals (try dsimp only [KK] at X')); (all_goals (clear hnt oT)); (all_goals (try dsimp only)); (all_goals (try k_fold)))))
  have X : (KK w).In h₀ := XB.keeps B.stays
  have T : Top topProg LO mean mg mb h₀ := TB.keeps B.stays
  revert X; dsimp only [KK, PR]; k_fill; intro X
  refine wpAny_call ?_
  k_dflt (refine' code_defSXC ?k1 ?k2 ?k3 ?k4 ?k5 ?kA ?kF ?kK ?k6 ?k7 ?k8 ?k9 ?kB ?kD ?_ ?c2 ?c3 ?c4; (case kA => exact rfl); (case kF => exact rfl); (case kK => assumption); (case k1 => k_asm); (case k2 => k_asm); (case k3 => k_asm); (case k4 => k_asm); (case k5 => k_asm); (case k6 => k_is); (case k7 => k_is); (case k8 => ktr_room); (case k9 => exact BindsTo.of_eq rfl); (case kB => exact rfl); (case kD => decide +kernel); (case c2 => exact rfl); (case c3 => exact rfl); (case c4 => exact rfl); k_whole)
  intro g' L' h' tk' cells' FG' F' N' Y' B' X' T' l1
  have hY := CellsAre.three Y'
  obtain ⟨oM, oP, oO, hE', dM, dP, dO⟩ := hY
  subst hE'
  clear Y'
  replace dM : oM.data = .cell none := dM
  replace dP : oP.data = .cell (some (.int pl tp)) := dP
  replace dO : oO.data = .cell (some (.bytes bs tb)) := dO
  (try simp only [List.cons_append, List.nil_append] at N')
  dsimp only
  have l2 : @LT.lt Nat _ 163 L' := l1 _ (.head _)
  try k_fold
  k_steps
  rename_i lX hX FX NX lLt
  refine wpAny_pyIter_list (items := #[Value.int 2 tk', Value.int 4 (tk' + 1), Value.int 6 (tk' + 1 + 1)]) ⟨_, (NX _ (.head _)).1, rfl, 0, rfl⟩ ?_
  have ltL : ∀ p ∈ rest, @LT.lt Nat _ p.1 L' := fun p hp => l1 p (.tail _ hp)
  refine loop_cell (g0 := g') (outer := envX cn cs L a ccd cl :: outer) (base := base) (A₀ := ktrTop dp un gd cn cs L a ccd cl outer) (s := s) (qual := Str.ofString "_law_place_right.<locals>.<lambda>") (l := lX) (cM := L' + 1 + 1 + 1) (items := #[Value.int 2 tk', Value.int 4 (tk' + 1), Value.int 6 (tk' + 1 + 1)])
    (others := (lX, listOf #[Value.int 2 tk', Value.int 4 (tk' + 1), Value.int 6 (tk' + 1 + 1)] 0) :: (L' + 1 + 1, oP) :: (L' + 1, oO) :: rest) rfl rfl rfl rfl (by passes_own) _ (.head _) rfl ⟨0, rfl⟩ ?hI ?hM ?turn ?done ?h0
  case hI =>
    intro p hp
    have : p ∈ (lX, W.listOf #[Value.int 2 tk', Value.int 4 (tk' + 1), Value.int 6 (tk' + 1 + 1)] 0) :: (L' + 1 + 1 + 1, oM) :: (L' + 1 + 1, oP) :: (L' + 1, oO) :: (163, tabObj ps) :: rest := by
      rcases List.mem_cons.mp hp with rfl | hp
      · exact .head _
      · rcases List.mem_cons.mp hp with rfl | hp
        · exact .tail _ (.tail _ (.head _))
        · rcases List.mem_cons.mp hp with rfl | hp
          · exact .tail _ (.tail _ (.tail _ (.head _)))
          · exact .tail _ (.tail _ (.tail _ (.tail _ (.tail _ hp))))
    exact Nat.ne_of_lt (Heap.lt_size (NX p this).1)
  case hM =>
    intro p hp
    rcases List.mem_cons.mp hp with rfl | hp
    · exact Nat.ne_of_gt lLt.1
    · rcases List.mem_cons.mp hp with rfl | hp
      · exact Nat.ne_of_lt (by show @LT.lt Nat _ (L' + 1 + 1) (L' + 1 + 1 + 1); omega)
      · rcases List.mem_cons.mp hp with rfl | hp
        · exact Nat.ne_of_lt (by show @LT.lt Nat _ (L' + 1) (L' + 1 + 1 + 1); omega)
        · have := ltL p hp
          exact Nat.ne_of_lt (by show @LT.lt Nat _ p.1 (L' + 1 + 1 + 1); omega)
  case h0 =>
    refine ⟨g', _, _, _, ps, (hX.objs.size, { cls := .type "list_iterator", data := .fields #[.ref lX, .int 0 0] }) :: (L' + 1 + 1 + 1, oM) :: (lX, W.listOf #[Value.int 2 tk', Value.int 4 (tk' + 1), Value.int 6 (tk' + 1 + 1)] 0) :: (L' + 1 + 1, oP) :: (L' + 1, oO) :: rest, _, oM, none, rfl, KtsTurn.refl, B', FX.push _, ?_, ?_, ?_, fun p hp => .tail _ (.tail _ hp), .head _, rfl, rfl, .tail _ (.head _), dM⟩
    · have NP := NX.push FX { cls := .type "list_iterator", data := .fields #[.ref lX, .int 0 0] }
      intro p hp
      refine NP p ?_
      rcases List.mem_cons.mp hp with rfl | hp
      · exact .tail _ (.tail _ (.tail _ (.tail _ (.tail _ (.head _)))))
      · rcases List.mem_cons.mp hp with rfl | hp
        · exact .head _
        · rcases List.mem_cons.mp hp with rfl | hp
          · exact .tail _ (.tail _ (.head _))
          · rcases List.mem_cons.mp hp with rfl | hp
            · exact .tail _ (.head _)
            · rcases List.mem_cons.mp hp with rfl | hp
              · exact .tail _ (.tail _ (.tail _ (.head _)))
              · rcases List.mem_cons.mp hp with rfl | hp
                · exact .tail _ (.tail _ (.tail _ (.tail _ (.head _))))
                · exact .tail _ (.tail _ (.tail _ (.tail _ (.tail _ (.tail _ hp)))))
    · have h5 : @LT.lt Nat _ L' hX.objs.size := FX.ns.lt
      intro p hp
      rcases List.mem_cons.mp hp with rfl | hp
      · exact Nat.ne_of_gt (by show @LT.lt Nat _ 163 hX.objs.size; omega)
      · rcases List.mem_cons.mp hp with rfl | hp
        · exact Nat.ne_of_gt (by show @LT.lt Nat _ 163 (L' + 1 + 1 + 1); omega)
        · rcases List.mem_cons.mp hp with rfl | hp
          · exact Nat.ne_of_gt lLt.2.2.2.1
          · rcases List.mem_cons.mp hp with rfl | hp
            · exact Nat.ne_of_gt (by show @LT.lt Nat _ 163 (L' + 1 + 1); omega)
            · rcases List.mem_cons.mp hp with rfl | hp
              · exact Nat.ne_of_gt (by show @LT.lt Nat _ 163 (L' + 1); omega)
              · exact hr p hp
    · exact TI.mono fun p hp => .tail _ (.tail _ (.tail _ (.tail _ (.tail _ hp))))
  case done =>
    intro g h tk m ps rest Tt B F N hr TI ho
    dsimp only
    have X9 : (_root_.Mine.hd.heap_39 w.params).In g := XB.keeps B.stays
    have T9 : Top topProg LO mean mg mb g := TB.keeps B.stays
    k_steps
    dsimp only
    try (k_unfold; dsimp only)
    exact leaveSX_ F N Tt (fun h₉ T9 B9 F9 N9 => hret _ _ _ _ _ T9 B9 F9 N9 hr TI (fun p hp => ho p (.tail _ (.tail _ (.tail _ hp)))))
  case turn =>
    intro i v g h tk m ps rest' oI oN hv Tt B F N hr TI ho mI cI dI mM dN
    have X9 : (_root_.Mine.hd.heap_39 w.params).In g := XB.keeps B.stays
    have T9 : Top topProg LO mean mg mb g := TB.keeps B.stays
    have mO : (L' + 1, oO) ∈ rest' := ho _ (.tail _ (.tail _ (.head _)))
    have mP : (L' + 1 + 1, oP) ∈ rest' := ho _ (.tail _ (.head _))
    have trk : Track rest' rest' := ⟨fun p hp => hp⟩
    clear dM B' X' T' FX NX
    rcases i with _ | _ | _ | i
    · have e : Value.int 2 tk' = v := by simpa using hv
      subst e
      clear hv
      have mny : Many 2 := ⟨⟩
      have hnt2 : Hint (fun v => ∃ (x : Unit) (t : Unit), v = Value.none ∧ True ∧ 0 ≤ pl ∧ pl + 2 ≤ ks.length) (pl < 0 ∨ ks.length < pl + 2) := ⟨⟩
      have hnt1 : Hint (fun v => ∃ x t, v = Value.int x t ∧ x = N16 ks pl ∧ 0 ≤ pl ∧ pl + 2 ≤ ks.length) (pl < 0 ∨ ks.length < pl + 2) := ⟨⟩
      show wpAny _ _ (execs _ _) _ _ _
      k_fold
      k_steps
      all_goals first
        | (unfold LoopSt; with_reducible rename Track _ _ => trX; refine' ⟨_, _, _, _, _, _, oI, oN, _, rfl, ?_, ?lsB, ?lsF, ?lsN, ?lsr, ?lsT, fun p hp => trX.sub p (ho p hp), trX.sub _ mI, cI, dI, trX.sub _ mM, dN⟩; (case lsF => assumption); (case lsB => assumption); (case lsN => assumption); (case lsr => assumption); (case lsT => assumption); assumption)
        | (exfalso; omega)
        | (exfalso; simp_all; done)
    · have e : Value.int 4 (tk' + 1) = v := by simpa using hv
      subst e
      clear hv
      have mny : Many 4 := ⟨⟩
      have hnt2 : Hint (fun v => ∃ (x : Unit) (t : Unit), v = Value.none ∧ True ∧ 0 ≤ pl ∧ pl + 4 ≤ ks.length) (pl < 0 ∨ ks.length < pl + 4) := ⟨⟩
      have hnt1 : Hint (fun v => ∃ x t, v = Value.int x t ∧ x = N32 ks pl ∧ 0 ≤ pl ∧ pl + 4 ≤ ks.length) (pl < 0 ∨ ks.length < pl + 4) := ⟨⟩
      show wpAny _ _ (execs _ _) _ _ _
      k_fold
      k_steps
      all_goals first
        | (unfold LoopSt; with_reducible rename Track _ _ => trX; refine' ⟨_, _, _, _, _, _, oI, oN, _, rfl, ?_, ?lsB, ?lsF, ?lsN, ?lsr, ?lsT, fun p hp => trX.sub p (ho p hp), trX.sub _ mI, cI, dI, trX.sub _ mM, dN⟩; (case lsF => assumption); (case lsB => assumption); (case lsN => assumption); (case lsr => assumption); (case lsT => assumption); assumption)
        | (exfalso; omega)
        | (exfalso; simp_all; done)
    · have e : Value.int 6 (tk' + 1 + 1) = v := by simpa using hv
      subst e
      clear hv
      have mny : Many 6 := ⟨⟩
      have hnt2 : Hint (fun v => ∃ (x : Unit) (t : Unit), v = Value.none ∧ True ∧ 0 ≤ pl ∧ pl + 6 ≤ ks.length) (pl < 0 ∨ ks.length < pl + 6) := ⟨⟩
      have hnt1 : Hint (fun v => ∃ x t, v = Value.int x t ∧ x = N48 ks pl ∧ 0 ≤ pl ∧ pl + 6 ≤ ks.length) (pl < 0 ∨ ks.length < pl + 6) := ⟨⟩
      show wpAny _ _ (execs _ _) _ _ _
      k_fold
      k_steps
      all_goals first
        | (unfold LoopSt; with_reducible rename Track _ _ => trX; refine' ⟨_, _, _, _, _, _, oI, oN, _, rfl, ?_, ?lsB, ?lsF, ?lsN, ?lsr, ?lsT, fun p hp => trX.sub p (ho p hp), trX.sub _ mI, cI, dI, trX.sub _ mM, dN⟩; (case lsF => assumption); (case lsB => assumption); (case lsN => assumption); (case lsr => assumption); (case lsT => assumption); assumption)
        | (exfalso; omega)
        | (exfalso; simp_all; done)
    · simp at hv
end Mine
end
section
open PySem PySem.W PySem.Spec PySem.Calls PyProof.Rows
set_option maxRecDepth 100000
set_option maxHeartbeats 2000000
namespace Mine
def B16 (n : Int) : List Int := [n / 256 % 256, n % 256]
def B32 (n : Int) : List Int := B16 (n / 65536) ++ B16 n
def B48 (n : Int) : List Int := B16 (n / 4294967296) ++ B32 n
theorem B16_in (n : Int) : KBa.In (B16 n) := by
  intro k hk
  simp only [B16, List.mem_cons, List.not_mem_nil, or_false] at hk
  rcases hk with rfl | rfl <;> constructor <;> omega
theorem B32_in (n : Int) : KBa.In (B32 n) := by
  intro k hk
  rcases List.mem_append.mp hk with hk | hk <;> exact B16_in _ k hk
theorem B48_in (n : Int) : KBa.In (B48 n) := by
  intro k hk
  rcases List.mem_append.mp hk with hk | hk
  · exact B16_in _ k hk
  · exact B32_in _ k hk
theorem arr_app (a b : List Int) : byteArr a ++ byteArr b = byteArr (a ++ b) := by
  simp [byteArr]
theorem and255 (n : Int) : Builtin.bitAnd n 255 = n % 256 := bitAnd_m8 n
theorem fd8 (n : Int) : n.fdiv (2 ^ Int.toNat 8) = n / 256 := by
  have : (2 : Int) ^ Int.toNat 8 = 256 := by decide
  rw [this, Int.fdiv_eq_ediv_of_nonneg _ (by decide)]
theorem fd16 (n : Int) : n.fdiv (2 ^ Int.toNat 16) = n / 65536 := by
  have : (2 : Int) ^ Int.toNat 16 = 65536 := by decide
  rw [this, Int.fdiv_eq_ediv_of_nonneg _ (by decide)]
theorem fd32 (n : Int) : n.fdiv (2 ^ Int.toNat 32) = n / 4294967296 := by
  have : (2 : Int) ^ Int.toNat 32 = 4294967296 := by decide
  rw [this, Int.fdiv_eq_ediv_of_nonneg _ (by decide)]
theorem put16_in (n : Int) : KBa.In [Builtin.bitAnd (n.fdiv (2 ^ Int.toNat 8)) 255, Builtin.bitAnd n 255] := by
  rw [and255, and255, fd8]; exact B16_in n
theorem put16_eq (n : Int) : [Builtin.bitAnd (n.fdiv (2 ^ Int.toNat 8)) 255, Builtin.bitAnd n 255] = B16 n := by
  rw [and255, and255, fd8]; rfl
local macro_rules | `(tactic| walk_at $s:str) => `(tactic| k_extra $s)
theorem put16_ok {w : World} {mg mb : Str → Option Value} {mean : ExcName → Option Value} {A₀ : Around} {base h₀ : Heap} {outer : List Env} {L : Addr} {m : Str → Option Value} {cs : Scope} {dp un : Nat}
    {gd : Option (List Code)} {cn : Str} {a : Addr} {ccd : Value} {cl : List (Str × Addr)} {s : Shared} {Q E : Value → Shared → Prop} {news : List (Addr × Obj)}
    {n : Int} {t : Tok}
    (B : Below A₀ base outer h₀) (F : Fr h₀ L s.heap m) (X : (KK w).In h₀) (N : News h₀ L s.heap news) (T : Top topProg LO mean mg mb h₀)
    (hk : cs.kind = .function) (hd : dp + 3 < recursionLimit) (hu : un + 40 < cLine)
    (hret : ∀ t' h' tk', Fr h₀ L h' m → News h₀ L h' news → Q (.bytes (byteArr (B16 n)) t') { s with heap := h', toks := tk' }) :
    wpAny (model PR w) (ktrTop dp un gd cn cs L a ccd cl outer) (call (.ref 53) [.int n t]) Q E s := by
  k_with_none
  (k_with "call type:bytes" => ((k_here; (with_reducible show wpAny _ _ (call (Value.type "bytes") [Value.ref _]) _ _ _); k_dflt (refine' KBa.make_K ?kbaFx0 ?kbaNx0 ?kbahx0 ?kbalx0 ?kbaix0 ?kbarx0 ?kbanx0 ?_; (case kbaFx0 => k_asm); (case kbaNx0 => k_asm); (case kbahx0 => rfl); (case kbalx0 => kba_isList); (case kbaix0 => kba_listInts); (case kbarx0 => exact put16_in _); (case kbanx0 => kba_size)); intro _ _ _ F' N' kbaIn)))
  revert X; dsimp only [KK, PR]; k_fill; intro X
  refine wpAny_call ?_
  k_dflt cell_enter
  k_steps
  rw [put16_eq]
  rename News _ _ _ (_ :: _) => NX
  exact hret _ _ _ (by k_asm) (fun p hp => NX p (.tail _ hp))
theorem put32_ok {w : World} {mg mb : Str → Option Value} {mean : ExcName → Option Value} {A₀ : Around} {base h₀ : Heap} {outer : List Env} {L : Addr} {m : Str → Option Value} {cs : Scope} {dp un : Nat}
    {gd : Option (List Code)} {cn : Str} {a : Addr} {ccd : Value} {cl : List (Str × Addr)} {s : Shared} {Q E : Value → Shared → Prop} {news : List (Addr × Obj)}
    {n : Int} {t : Tok}
    (B : Below A₀ base outer h₀) (F : Fr h₀ L s.heap m) (X : (KK w).In h₀) (N : News h₀ L s.heap news) (T : Top topProg LO mean mg mb h₀)
    (hk : cs.kind = .function) (hd : dp + 5 < recursionLimit) (hu : un + 80 < cLine)
    (hret : ∀ t' h' tk', Fr h₀ L h' m → News h₀ L h' news → Q (.bytes (byteArr (B32 n)) t') { s with heap := h', toks := tk' }) :
    wpAny (model PR w) (ktrTop dp un gd cn cs L a ccd cl outer) (call (.ref 60) [.int n t]) Q E s := by
  k_with_none
  (k_with "call type:bytes" => ((k_here; (with_reducible show wpAny _ _ (call (Value.type "bytes") [Value.ref _]) _ _ _); k_dflt (refine' KBa.make_K ?kbaFx0 ?kbaNx0 ?kbahx0 ?kbalx0 ?kbaix0 ?kbarx0 ?kbanx0 ?_; (case kbaFx0 => k_asm); (case kbaNx0 => k_asm); (case kbahx0 => rfl); (case kbalx0 => kba_isList); (case kbaix0 => kba_listInts); (case kbarx0 => exact put16_in _); (case kbanx0 => kba_size)); intro _ _ _ F' N' kbaIn)))
  (k_with "call ref" => ((k_here; (with_reducible show wpAny _ _ (call (Value.ref 53) _) _ _ _); k_dflt (refine' put16_ok ?k1x1 ?k2x1 ?k3x1 ?k4x1 ?k5x1 ?k6x1 ?k7x1 ?k8x1 (fun t' h' tk' F' N' => ?_); (case k1x1 => k_asm); (case k2x1 => k_asm); (case k3x1 => k_asm); (case k4x1 => k_asm); (case k5x1 => k_asm); (case k6x1 => first | exact rfl | assumption); (case k7x1 => ktr_room); (case k8x1 => ktr_units); (try k_sweep); (try dsimp only); (try k_fold)))))
  (k_with "binaryOp Add bytes bytes" => ((k_here; k_dflt (refine' KBa.add_K (ks := B16 _) (ls := B16 _) (KBa.ints_make (B16_in _)) (KBa.ints_make (B16_in _)) ?kbsx2 ?_; (case kbsx2 => (show 2 + 2 ≤ 16777216; decide))); intro _ _ _)))
  revert X; dsimp only [KK, PR]; k_fill; intro X
  refine wpAny_call ?_
  k_dflt cell_enter
  k_steps
  rw [arr_app, fd16]
  exact hret _ _ _ (by k_asm) (by k_asm)
theorem put48_ok {w : World} {mg mb : Str → Option Value} {mean : ExcName → Option Value} {A₀ : Around} {base h₀ : Heap} {outer : List Env} {L : Addr} {m : Str → Option Value} {cs : Scope} {dp un : Nat}
    {gd : Option (List Code)} {cn : Str} {a : Addr} {ccd : Value} {cl : List (Str × Addr)} {s : Shared} {Q E : Value → Shared → Prop} {news : List (Addr × Obj)}
    {n : Int} {t : Tok}
    (B : Below A₀ base outer h₀) (F : Fr h₀ L s.heap m) (X : (KK w).In h₀) (N : News h₀ L s.heap news) (T : Top topProg LO mean mg mb h₀)
    (hk : cs.kind = .function) (hd : dp + 7 < recursionLimit) (hu : un + 120 < cLine)
    (hret : ∀ t' h' tk', Fr h₀ L h' m → News h₀ L h' news → Q (.bytes (byteArr (B48 n)) t') { s with heap := h', toks := tk' }) :
    wpAny (model PR w) (ktrTop dp un gd cn cs L a ccd cl outer) (call (.ref 67) [.int n t]) Q E s := by
  k_with_none
  (k_with "call type:bytes" => ((k_here; (with_reducible show wpAny _ _ (call (Value.type "bytes") [Value.ref _]) _ _ _); k_dflt (refine' KBa.make_K ?kbaFx0 ?kbaNx0 ?kbahx0 ?kbalx0 ?kbaix0 ?kbarx0 ?kbanx0 ?_; (case kbaFx0 => k_asm); (case kbaNx0 => k_asm); (case kbahx0 => rfl); (case kbalx0 => kba_isList); (case kbaix0 => kba_listInts); (case kbarx0 => exact put16_in _); (case kbanx0 => kba_size)); intro _ _ _ F' N' kbaIn)))
  (k_with "call ref" => ((k_here; (with_reducible show wpAny _ _ (call (Value.ref 53) _) _ _ _); k_dflt (refine' put16_ok ?k1x1 ?k2x1 ?k3x1 ?k4x1 ?k5x1 ?k6x1 ?k7x1 ?k8x1 (fun t' h' tk' F' N' => ?_); (case k1x1 => k_asm); (case k2x1 => k_asm); (case k3x1 => k_asm); (case k4x1 => k_asm); (case k5x1 => k_asm); (case k6x1 => first | exact rfl | assumption); (case k7x1 => ktr_room); (case k8x1 => ktr_units); (try k_sweep); (try dsimp only); (try k_fold)))))
  (k_with "binaryOp Add bytes bytes" => ((k_here; k_dflt (refine' KBa.add_K (ks := B16 _) (ls := B16 _) (KBa.ints_make (B16_in _)) (KBa.ints_make (B16_in _)) ?kbsx2 ?_; (case kbsx2 => (show 2 + 2 ≤ 16777216; decide))); intro _ _ _)))
  (k_with "call ref" => ((k_here; (with_reducible show wpAny _ _ (call (Value.ref 60) _) _ _ _); k_dflt (refine' put32_ok ?k1x3 ?k2x3 ?k3x3 ?k4x3 ?k5x3 ?k6x3 ?k7x3 ?k8x3 (fun t' h' tk' F' N' => ?_); (case k1x3 => k_asm); (case k2x3 => k_asm); (case k3x3 => k_asm); (case k4x3 => k_asm); (case k5x3 => k_asm); (case k6x3 => first | exact rfl | assumption); (case k7x3 => ktr_room); (case k8x3 => ktr_units); (try k_sweep); (try dsimp only); (try k_fold)))))
  (k_with "binaryOp Add bytes bytes" => ((k_here; k_dflt (refine' KBa.add_K (ks := B16 _) (ls := B32 _) (KBa.ints_make (B16_in _)) (KBa.ints_make (B32_in _)) ?kbsx4 ?_; (case kbsx4 => (show 2 + 4 ≤ 16777216; decide))); intro _ _ _)))
  revert X; dsimp only [KK, PR]; k_fill; intro X
  refine wpAny_call ?_
  k_dflt cell_enter
  k_steps
  rw [arr_app, fd32]
  exact hret _ _ _ (by k_asm) (by k_asm)
end Mine
end
section
open PySem PySem.W PySem.Calls PyProof.Rows
set_option maxRecDepth 100000
namespace Mine
def hstep (n a k : Int) : Int := a + (((n.fdiv 2).fdiv (2 ^ k.toNat)).fmod 2 + ((3988292384 : Int).fdiv (2 ^ k.toNat)).fmod 2 * n.fmod 2).fmod 2 * 2 ^ k.toNat
def halfOf (n : Int) : Int := if n % 2 = 1 then Builtin.bitXor (n / 2) 3988292384 else n / 2
theorem tb (x k : Nat) : x.testBit k = decide (x / 2 ^ k % 2 = 1) := Nat.testBit_eq_decide_div_mod_eq
theorem or_bit (X Y k : Nat) : (X ||| Y) / 2 ^ k % 2 = if X / 2 ^ k % 2 = 1 ∨ Y / 2 ^ k % 2 = 1 then 1 else 0 := by
  have h := Nat.testBit_or X Y k
  rw [tb, tb, tb] at h
  have h1 := Nat.mod_lt ((X ||| Y) / 2 ^ k) (show 2 > 0 by decide)
  by_cases c1 : X / 2 ^ k % 2 = 1 <;> by_cases c2 : Y / 2 ^ k % 2 = 1 <;> simp [c1, c2] at h ⊢ <;> omega
theorem and_bit (X Y k : Nat) : (X &&& Y) / 2 ^ k % 2 = if X / 2 ^ k % 2 = 1 ∧ Y / 2 ^ k % 2 = 1 then 1 else 0 := by
  have h := Nat.testBit_and X Y k
  rw [tb, tb, tb] at h
  have h1 := Nat.mod_lt ((X &&& Y) / 2 ^ k) (show 2 > 0 by decide)
  by_cases c1 : X / 2 ^ k % 2 = 1 <;> by_cases c2 : Y / 2 ^ k % 2 = 1 <;> simp [c1, c2] at h ⊢ <;> omega
theorem bits_sum (X Y : Nat) : ∀ K : Nat, (List.range K).foldl (fun a k => a + (X / 2 ^ k % 2 + Y / 2 ^ k % 2) % 2 * 2 ^ k) 0 + (X &&& Y) % 2 ^ K = (X ||| Y) % 2 ^ K := by
  intro K
  induction K with
  | zero => simp [Nat.mod_one]
  | succ K ih =>
    rw [List.range_succ, List.foldl_append, List.foldl_cons, List.foldl_nil, Nat.mod_pow_succ, Nat.mod_pow_succ, or_bit, and_bit, ← ih]
    have h1 := Nat.mod_lt (X / 2 ^ K) (show 2 > 0 by decide)
    have h2 := Nat.mod_lt (Y / 2 ^ K) (show 2 > 0 by decide)
    rcases (show X / 2 ^ K % 2 = 0 ∨ X / 2 ^ K % 2 = 1 by omega) with e1 | e1 <;> rcases (show Y / 2 ^ K % 2 = 0 ∨ Y / 2 ^ K % 2 = 1 by omega) with e2 | e2 <;> simp [e1, e2] <;> omega
theorem pow_cast (k : Nat) : ((2 : Int) ^ k) = ((2 ^ k : Nat) : Int) := by rw [Int.natCast_pow]; rfl
theorem hstep_nat (N a k : Nat) : hstep N a k = ((a + (N / 2 / 2 ^ k % 2 + 3988292384 / 2 ^ k % 2 * (N % 2)) % 2 * 2 ^ k : Nat) : Int) := by
  unfold hstep
  rw [Int.toNat_natCast, pow_cast]
  rw [Int.fdiv_eq_ediv_of_nonneg _ (Int.natCast_nonneg _), Int.fdiv_eq_ediv_of_nonneg _ (show (0:Int) ≤ 2 by decide), Int.fdiv_eq_ediv_of_nonneg _ (Int.natCast_nonneg _)]
  rw [Int.fmod_eq_emod_of_nonneg _ (show (0:Int) ≤ 2 by decide), Int.fmod_eq_emod_of_nonneg _ (show (0:Int) ≤ 2 by decide), Int.fmod_eq_emod_of_nonneg _ (show (0:Int) ≤ 2 by decide), Int.fmod_eq_emod_of_nonneg _ (show (0:Int) ≤ 2 by decide)]
  rw [show (3988292384 : Int) = ((3988292384 : Nat) : Int) from rfl, show (2 : Int) = ((2 : Nat) : Int) from rfl]
  generalize 3988292384 = P
  simp only [Int.natCast_add, Int.natCast_mul, Int.natCast_emod, Int.natCast_ediv, Int.natCast_pow]
theorem fold_nat (N : Nat) : ∀ l : List Nat, ∀ a : Nat, (l.map (fun (i : Nat) => (0 : Int) + (i : Int))).foldl (hstep N) (a : Int) = ((l.foldl (fun a k => a + (N / 2 / 2 ^ k % 2 + 3988292384 / 2 ^ k % 2 * (N % 2)) % 2 * 2 ^ k) a : Nat) : Int) := by
  intro l
  induction l with
  | nil => intro a; rfl
  | cons k l ih =>
    intro a
    rw [List.map_cons, List.foldl_cons, List.foldl_cons, Int.zero_add, hstep_nat]
    exact ih _
theorem xor_nat (x y : Nat) : Builtin.bitXor (x : Int) (y : Int) = ((x ||| y : Nat) : Int) - ((x &&& y : Nat) : Int) := by
  unfold Builtin.bitXor
  rw [or_nat, and_nat]
def bsum (X Y : Nat) : Nat := (List.range 32).foldl (fun a k => a + (X / 2 ^ k % 2 + Y / 2 ^ k % 2) % 2 * 2 ^ k) 0
def hsum (N : Nat) : Nat := (List.range 32).foldl (fun a k => a + (N / 2 / 2 ^ k % 2 + 3988292384 / 2 ^ k % 2 * (N % 2)) % 2 * 2 ^ k) 0
theorem bsum_eq (X Y : Nat) : bsum X Y + (X &&& Y) % 2 ^ 32 = (X ||| Y) % 2 ^ 32 := by
  unfold bsum; exact bits_sum X Y 32
theorem hsum_even {N : Nat} (h : N % 2 = 0) : hsum N = bsum (N / 2) 0 := by
  unfold hsum bsum
  rw [h]
  simp only [Nat.zero_div, Nat.zero_mod, Nat.mul_zero]
theorem hsum_odd {N : Nat} (h : N % 2 = 1) : hsum N = bsum (N / 2) 3988292384 := by
  unfold hsum bsum
  rw [h]
  simp only [Nat.mul_one]
theorem hfold (N : Nat) : (rangeKs 0 32).foldl (hstep N) 0 = ((hsum N : Nat) : Int) := by
  unfold hsum
  exact fold_nat N (List.range 32) 0
theorem halved_eq {n : Int} (h0 : 0 ≤ n) (h1 : n < 4294967296) : (rangeKs 0 32).foldl (hstep n) 0 = halfOf n := by
  obtain ⟨N, rfl⟩ := Int.eq_ofNat_of_zero_le h0
  have hN : N < 4294967296 := by omega
  rw [hfold]
  have h2 : ((N : Int) / 2) = ((N / 2 : Nat) : Int) := by omega
  unfold halfOf
  rw [h2]
  rcases (show N % 2 = 0 ∨ N % 2 = 1 by omega) with e2 | e2
  · rw [if_neg (by omega), hsum_even e2]
    have b := bsum_eq (N / 2) 0
    rw [Nat.and_zero, Nat.or_zero, Nat.zero_mod, Nat.mod_eq_of_lt (a := N / 2) (b := 2 ^ 32) (by omega)] at b
    omega
  · rw [if_pos (by omega), hsum_odd e2]
    have b := bsum_eq (N / 2) 3988292384
    have l1 : N / 2 ||| 3988292384 < 2 ^ 32 := Nat.or_lt_two_pow (by omega) (by decide)
    have l2 : N / 2 &&& 3988292384 < 2 ^ 32 := Nat.and_lt_two_pow _ (by decide)
    rw [Nat.mod_eq_of_lt l1, Nat.mod_eq_of_lt l2] at b
    have x := xor_nat (N / 2) 3988292384
    rw [show ((3988292384 : Nat) : Int) = (3988292384 : Int) from rfl] at x
    rw [x]
    omega
end Mine
end
section
open PySem PySem.W PySem.Spec PySem.Calls PyProof.Rows
set_option maxRecDepth 100000
set_option maxHeartbeats 4000000
namespace Mine
section
variable {prog : Program} {w : World} {A : Around} {E : Value → Shared → Prop} {s : Shared} {env : Env} {h₀ : Heap} {x : Str} {body : List Stmt} {Q : Flow → Shared → Prop}
theorem range_scr {r : Addr} {a₀ b₀ : Int} {t₀ u₀ v₀ : Tok} {n : Nat} {m₀ : Str → Option Value} {news : List (Addr × Obj)} {y p q : Str} {c₀ : Int} {tc : Tok} (g : Int → Int → Int)
    (hh : A.handled = none) (hr : IsRange s.heap r a₀ b₀ 1 t₀ u₀ v₀) (hsmall : Builtin.Range.small a₀ b₀ 1 = true) (hn : Builtin.Range.rangeSize a₀ b₀ 1 = (n : Int)) (F : Fr h₀ env.locals s.heap m₀) (N : News h₀ env.locals s.heap news) (hy : m₀ y = some (.int c₀ tc))
    (turn : ∀ k t a ta (u : Str → Option Value) h tk own, a₀ ≤ k → k < a₀ + (n : Int) → OwnOff own (news.map (·.1)) →
      Fr h₀ env.locals h (fun z => if z = x then some (.int k t) else if z = y then some (.int a ta) else if z = p then u z else if z = q then u z else m₀ z) → News h₀ env.locals h (news ++ own) →
      wpAny (model prog w) A (execs body env) (InvPostN h₀ env.locals (fun m' nx => nx = news ∧ (∃ t', m' y = some (.int (g a k) t')) ∧ ∀ z, z ≠ x → z ≠ y → z ≠ p → z ≠ q → m' z = m₀ z) own (news.map (·.1)) { s with heap := h, toks := tk } Q) E { s with heap := h, toks := tk })
    (done : ∀ (u : Str → Option Value) t h tk, Fr h₀ env.locals h (fun z => if z = x then u z else if z = y then some (.int ((rangeKs a₀ n).foldl g c₀) t) else if z = p then u z else if z = q then u z else m₀ z) → News h₀ env.locals h news → Q .next { s with heap := h, toks := tk }) :
    wpAny (model prog w) A (pyIter (.ref r)) (fun it s₂ => LoopAtV prog w A h₀ env x body Q E it s₂) E s := by
  refine iter_rangeS (fun a m nx => nx = news ∧ (∃ t, m y = some (.int a t)) ∧ ∀ z, z ≠ x → z ≠ y → z ≠ p → z ≠ q → m z = m₀ z) g c₀ hh hr hsmall hn F N ⟨rfl, ⟨tc, hy⟩, fun _ _ _ _ _ => rfl⟩ ?_ ?_
  · rintro k t a m₁ nx h tk own hk hoff ⟨rfl, ⟨ta, ha⟩, hm⟩ F₁ N₁
    have e : (fun z => if z = x then some (.int k t) else m₁ z) = (fun z => if z = x then some (.int k t) else if z = y then some (.int a ta) else if z = p then m₁ z else if z = q then m₁ z else m₀ z) := by
      funext z
      by_cases h1 : z = x
      · simp only [if_pos h1]
      · by_cases h2 : z = y
        · subst h2; simp only [if_neg h1, if_true]; exact ha
        · by_cases h3 : z = p
          · simp only [if_neg h1, if_neg h2, if_pos h3]
          · by_cases h4 : z = q
            · simp only [if_neg h1, if_neg h2, if_neg h3, if_pos h4]
            · simp only [if_neg h1, if_neg h2, if_neg h3, if_neg h4]; exact hm z h1 h2 h3 h4
    rw [e] at F₁
    exact turn k t a ta m₁ h tk own (mem_rangeKs hk).1 (mem_rangeKs hk).2 hoff F₁ N₁
  · rintro m₁ nx h tk ⟨rfl, ⟨t, ha⟩, hm⟩ F₁ N₁
    refine done m₁ t h tk ?_ N₁
    have e : m₁ = (fun z => if z = x then m₁ z else if z = y then some (.int ((rangeKs a₀ n).foldl g c₀) t) else if z = p then m₁ z else if z = q then m₁ z else m₀ z) := by
      funext z
      by_cases h1 : z = x
      · simp only [if_pos h1]
      · by_cases h2 : z = y
        · subst h2; simp only [if_neg h1, if_true]; exact ha
        · by_cases h3 : z = p
          · simp only [if_neg h1, if_neg h2, if_pos h3]
          · by_cases h4 : z = q
            · simp only [if_neg h1, if_neg h2, if_neg h3, if_pos h4]
            · simp only [if_neg h1, if_neg h2, if_neg h3, if_neg h4]; exact hm z h1 h2 h3 h4
    rw [← e]
    exact F₁
end
local macro_rules | `(tactic| walk_at $s:str) => `(tactic| k_extra $s)
theorem halved_ok {w : World} {mg mb : Str → Option Value} {mean : ExcName → Option Value} {A₀ : Around} {base h₀ : Heap} {outer : List Env} {L : Addr} {m : Str → Option Value} {cs : Scope} {dp un : Nat}
    {gd : Option (List Code)} {cn : Str} {a : Addr} {ccd : Value} {cl : List (Str × Addr)} {s : Shared} {Q E : Value → Shared → Prop} {news : List (Addr × Obj)}
    {n : Int} {t : Tok}
    (B : Below A₀ base outer h₀) (F : Fr h₀ L s.heap m) (X : (KK w).In h₀) (N : News h₀ L s.heap news) (T : Top topProg LO mean mg mb h₀)
    (hk : cs.kind = .function) (hd : dp + 3 < recursionLimit) (hu : un + 40 < cLine)
    (hlo : 0 ≤ n) (hhi : n < 4294967296)
    (hret : ∀ v t h' tk', v = halfOf n → Fr h₀ L h' m → News h₀ L h' news → Q (.int v t) { s with heap := h', toks := tk' })
    : wpAny (model PR w) (ktrTop dp un gd cn cs L a ccd cl outer) (call (.ref 154) [.int n t]) Q E s := by
  k_with_none
  (k_with "InvEndN" => (k_dflt (refine InvEndN.intro (by assumption) (by assumption) ⟨rfl, ⟨_, by with_unfolding_all rfl⟩, by (intro z h1 h2 h3 h4; first | rfl | (simp [h1, h2, h3, h4]; done) | (simp_all; done))⟩ rfl (fun p hp => .tail _ (List.mem_append_left _ hp)) (fun p hp => .tail _ (List.mem_append_right _ hp)))))
  revert X; dsimp only [KK, PR]; k_fill; intro X
  refine wpAny_call ?_
  k_dflt cell_enter
  repeat ((fail_if_success (with_reducible rename IsRange _ _ _ _ _ _ _ _ => rgZ)); (first | walk1 | (dsimp only; walk1) | (k_unfold; (try dsimp only))))
  (rename Fr _ _ _ _ => lF')
  (rename News _ _ _ _ => lN')
  (rename IsRange _ _ _ _ _ _ _ _ => rgX)
  with_unfolding_all refine' range_scr (y := Str.ofString "found") (p := Str.ofString "one") (q := Str.ofString "other") (hstep n) ?rg1 rgX ?rg2 ?rg3 lF' lN' ?rg4 (fun k' t' a' ta' u' h' tk' own' lo' hi' hoff' F' N' => ?_) (fun u' t' h' tk' F' N' => ?_)
  (case rg1 => rfl)
  (case rg2 => decide)
  (case rg3 => exact rangeSize_nat _ _)
  (case rg4 => with_unfolding_all rfl)
  all_goals (try clear lF' lN')
  all_goals (try k_fold)
  k_steps
  all_goals first
    | (rename News _ _ _ (_ :: _) => NX; refine' hret _ _ _ _ (halved_eq hlo hhi) ?rzF (fun p hp => NX p (.tail _ hp)); (case rzF => k_asm))
end Mine
end
section
open PySem PySem.W PySem.Spec PySem.Calls PyProof.Rows
set_option maxRecDepth 100000
set_option maxHeartbeats 4000000
namespace Mine
theorem fd1 (n : Int) : n.fdiv (2 ^ Int.toNat 1) = n / 2 := by
  have : (2 : Int) ^ Int.toNat 1 = 2 := by decide
  rw [this, Int.fdiv_eq_ediv_of_nonneg _ (by decide)]
theorem half_odd {n : Int} (h : n % 2 = 1) : Builtin.bitXor (n.fdiv (2 ^ Int.toNat 1)) 3988292384 = halfOf n := by
  rw [fd1]; unfold halfOf; rw [if_pos h]
theorem half_even {n : Int} (h : ¬ n % 2 = 1) : n.fdiv (2 ^ Int.toNat 1) = halfOf n := by
  rw [fd1]; unfold halfOf; rw [if_neg h]
theorem bit1 {n : Int} : Builtin.bitAnd n 1 = n % 2 := bitAnd_m1 n
theorem shifted_ok {w : World} {mg mb : Str → Option Value} {mean : ExcName → Option Value} {A₀ : Around} {base h₀ : Heap} {outer : List Env} {L : Addr} {m : Str → Option Value} {cs : Scope} {dp un : Nat}
    {gd : Option (List Code)} {cn : Str} {a : Addr} {ccd : Value} {cl : List (Str × Addr)} {s : Shared} {Q E : Value → Shared → Prop} {news : List (Addr × Obj)}
    {n : Int} {t : Tok}
    (B : Below A₀ base outer h₀) (F : Fr h₀ L s.heap m) (X : (KK w).In h₀) (N : News h₀ L s.heap news) (T : Top topProg LO mean mg mb h₀)
    (hk : cs.kind = .function) (hd : dp + 3 < recursionLimit) (hu : un + 40 < cLine)
    (hret : ∀ v t h' tk', v = halfOf n → Fr h₀ L h' m → News h₀ L h' news → Q (.int v t) { s with heap := h', toks := tk' })
    : wpAny (model PR w) (ktrTop dp un gd cn cs L a ccd cl outer) (call (.ref 102) [.int n t]) Q E s := by
  revert X; dsimp only [KK, PR]; k_fill; intro X
  refine wpAny_call ?_
  k_dflt cell_enter
  k_steps
  · refine' hret _ _ _ _ (half_odd ?zo) ?zf ?zn
    (case zo => (rename Builtin.bitAnd n 1 ≠ 0 => c; rw [bit1] at c; omega))
    (case zf => k_asm)
    (case zn => k_asm)
  · refine' hret _ _ _ _ (half_even ?zo) ?zf ?zn
    (case zo => (rename Builtin.bitAnd n 1 = 0 => c; rw [bit1] at c; omega))
    (case zf => k_asm)
    (case zn => k_asm)
theorem turned_eq {n : Int} (h0 : 0 ≤ n) (h1 : n < 65536) : Builtin.bitOr (Builtin.bitAnd n 255 * 2 ^ Int.toNat 8) (n.fdiv (2 ^ Int.toNat 8)) = n % 256 * 256 + n / 256 := by
  rw [and255, fd8]
  exact or_shift (a := n % 256) (b := n / 256) 8 (by omega) (by omega) (by omega)
theorem turned_ok {w : World} {mg mb : Str → Option Value} {mean : ExcName → Option Value} {A₀ : Around} {base h₀ : Heap} {outer : List Env} {L : Addr} {m : Str → Option Value} {cs : Scope} {dp un : Nat}
    {gd : Option (List Code)} {cn : Str} {a : Addr} {ccd : Value} {cl : List (Str × Addr)} {s : Shared} {Q E : Value → Shared → Prop} {news : List (Addr × Obj)}
    {n : Int} {t : Tok}
    (B : Below A₀ base outer h₀) (F : Fr h₀ L s.heap m) (X : (KK w).In h₀) (N : News h₀ L s.heap news) (T : Top topProg LO mean mg mb h₀)
    (hk : cs.kind = .function) (hd : dp + 3 < recursionLimit) (hu : un + 40 < cLine)
    (hlo : 0 ≤ n) (hhi : n < 65536)
    (hret : ∀ v t h' tk', v = n % 256 * 256 + n / 256 → Fr h₀ L h' m → News h₀ L h' news → Q (.int v t) { s with heap := h', toks := tk' })
    : wpAny (model PR w) (ktrTop dp un gd cn cs L a ccd cl outer) (call (.ref 114) [.int n t]) Q E s := by
  have b1 : 0 ≤ Builtin.bitAnd n 255 := by rw [and255]; omega
  have b2 : Builtin.bitAnd n 255 < 256 := by rw [and255]; omega
  revert X; dsimp only [KK, PR]; k_fill; intro X
  refine wpAny_call ?_
  k_dflt cell_enter
  k_steps
  refine' hret _ _ _ _ (turned_eq hlo hhi) ?zf ?zn
  (case zf => k_asm)
  (case zn => k_asm)
end Mine
end
section
open PySem PySem.W PySem.Spec PySem.Calls PyProof.Rows
set_option maxRecDepth 100000
set_option maxHeartbeats 4000000
namespace Mine
theorem updHead2 {L : Addr} {o o2 : Obj} {news : List (Addr × Obj)} (l1 : ∀ p ∈ news, @LT.lt Nat _ p.1 L) : UpdF (L + 1 + 1) o ((L + 1 + 1, o) :: (L + 1, o2) :: news) (fun o' => (L + 1 + 1, o') :: (L + 1, o2) :: news) :=
  UpdF.head (by
    intro p hp
    rcases List.mem_cons.mp hp with rfl | hp
    · exact Nat.ne_of_lt (show @LT.lt Nat _ (L + 1) (L + 1 + 1) by omega)
    · have := l1 p hp
      exact Nat.ne_of_lt (show @LT.lt Nat _ p.1 (L + 1 + 1) by omega))
theorem pow_ne (j : Nat) : (256 : Int) ^ j ≠ 0 := by
  have h : (256 : Int) ^ j = ((256 ^ j : Nat) : Int) := by rw [Int.natCast_pow]; rfl
  have := Nat.pow_pos (n := j) (show 0 < 256 by decide)
  omega
theorem pow_py {x : Int} {j : Nat} (hj : j ≤ 8) : Builtin.divisionGoesByPylong x (256 ^ j) = false := by
  refine PyProof.noPylong_of_log2 ?_
  rw [Int.natAbs_pow]
  show (256 ^ j).log2 < 9000
  have h0 : 0 < 256 ^ j := Nat.pow_pos (by decide)
  refine (Nat.log2_lt (by omega)).mpr ?_
  have e : (256 : Nat) ^ j = 2 ^ (8 * j) := by rw [Nat.pow_mul]
  rw [e]
  exact Nat.pow_lt_pow_right (by decide) (by omega)
local macro_rules | `(tactic| walk_at $s:str) => `(tactic| k_extra $s)
theorem em (a : Int) {b : Int} (h : 0 ≤ b) : a.fmod b = a % b := Int.fmod_eq_emod_of_nonneg a h
theorem ed (a : Int) {b : Int} (h : 0 ≤ b) : a.fdiv b = a / b := Int.fdiv_eq_ediv_of_nonneg a h
theorem oct2 (n : Int) : List.map (fun k' => ((n.fmod (256 ^ Int.toNat 2)).fdiv (256 ^ (2 - 1 - k').toNat)).fmod 256) (rangeKs 0 (2 - 0 : Int).toNat) = B16 n := by
  show [((n.fmod 65536).fdiv 256).fmod 256, ((n.fmod 65536).fdiv 1).fmod 256] = _
  simp only [em _ (show (0:Int) ≤ 65536 by decide), em _ (show (0:Int) ≤ 256 by decide), ed _ (show (0:Int) ≤ 256 by decide), ed _ (show (0:Int) ≤ 1 by decide)]
  unfold B16
  congr 1
  · omega
  · congr 1; omega
theorem oct4 (n : Int) : List.map (fun k' => ((n.fmod (256 ^ Int.toNat 4)).fdiv (256 ^ (4 - 1 - k').toNat)).fmod 256) (rangeKs 0 (4 - 0 : Int).toNat) = B32 n := by
  show [((n.fmod 4294967296).fdiv 16777216).fmod 256, ((n.fmod 4294967296).fdiv 65536).fmod 256, ((n.fmod 4294967296).fdiv 256).fmod 256, ((n.fmod 4294967296).fdiv 1).fmod 256] = [n / 65536 / 256 % 256, n / 65536 % 256, n / 256 % 256, n % 256]
  simp only [em _ (show (0:Int) ≤ 4294967296 by decide), em _ (show (0:Int) ≤ 256 by decide), ed _ (show (0:Int) ≤ 256 by decide), ed _ (show (0:Int) ≤ 1 by decide), ed _ (show (0:Int) ≤ 65536 by decide), ed _ (show (0:Int) ≤ 16777216 by decide)]
  congr 1
  · omega
  · congr 1
    · omega
    · congr 1
      · omega
      · congr 1; omega
theorem oct6 (n : Int) : List.map (fun k' => ((n.fmod (256 ^ Int.toNat 6)).fdiv (256 ^ (6 - 1 - k').toNat)).fmod 256) (rangeKs 0 (6 - 0 : Int).toNat) = B48 n := by
  show [((n.fmod 281474976710656).fdiv 1099511627776).fmod 256, ((n.fmod 281474976710656).fdiv 4294967296).fmod 256, ((n.fmod 281474976710656).fdiv 16777216).fmod 256, ((n.fmod 281474976710656).fdiv 65536).fmod 256, ((n.fmod 281474976710656).fdiv 256).fmod 256, ((n.fmod 281474976710656).fdiv 1).fmod 256] = [n / 4294967296 / 256 % 256, n / 4294967296 % 256, n / 65536 / 256 % 256, n / 65536 % 256, n / 256 % 256, n % 256]
  simp only [em _ (show (0:Int) ≤ 281474976710656 by decide), em _ (show (0:Int) ≤ 256 by decide), ed _ (show (0:Int) ≤ 256 by decide), ed _ (show (0:Int) ≤ 1 by decide), ed _ (show (0:Int) ≤ 65536 by decide), ed _ (show (0:Int) ≤ 16777216 by decide), ed _ (show (0:Int) ≤ 4294967296 by decide), ed _ (show (0:Int) ≤ 1099511627776 by decide)]
  congr 1
  · omega
  · congr 1
    · omega
    · congr 1
      · omega
      · congr 1
        · omega
        · congr 1
          · omega
          · congr 1; omega
theorem octof2_ok {w : World} {mg mb : Str → Option Value} {mean : ExcName → Option Value} {A₀ : Around} {base h₀ : Heap} {outer : List Env} {L : Addr} {m : Str → Option Value} {cs : Scope} {dp un : Nat}
    {gd : Option (List Code)} {cn : Str} {a : Addr} {ccd : Value} {cl : List (Str × Addr)} {s : Shared} {Q E : Value → Shared → Prop} {news : List (Addr × Obj)}
    {n : Int} {t t2 : Tok}
    (B : Below A₀ base outer h₀) (F : Fr h₀ L s.heap m) (X : (KK w).In h₀) (N : News h₀ L s.heap news) (T : Top topProg LO mean mg mb h₀)
    (hk : cs.kind = .function) (hd : dp + 5 < recursionLimit) (hu : un + 80 < cLine)
    (hret : ∀ t' h' tk', Fr h₀ L h' m → News h₀ L h' news → Q (.bytes (byteArr (B16 n)) t') { s with heap := h', toks := tk' })
    : wpAny (model PR w) (ktrTop dp un gd cn cs L a ccd cl outer) (call (.ref 147) [.int n t, .int 2 t2]) Q E s := by
  k_with_none
  (k_with "binaryOp FloorDiv int int" => ((k_here; k_dflt (refine' floordiv_int ?fhbx0 ?_ (Or.inl ?fhpx0); (case fhbx0 => exact pow_ne _); (case fhpx0 => exact pow_py (by omega))))))
  (k_with "storeName" => ((k_here; k_dflt (refine' storeX_C ?F ?N ?cx1 ?U ?dx1 ?_ ?sax1 ?sbx1; (case sax1 => rfl); (case sbx1 => rfl); (case F => k_asm); (case N => k_asm); (case cx1 => rfl); (case U => exact updHead2 (by assumption)); (case dx1 => k_asm); k_whole; intro h' o' F' N' d'; (try dsimp only at N')))))
  revert X; dsimp only [KK, PR]; k_fill; intro X
  refine wpAny_call ?_
  k_dflt (refine' code_defC ?k1 ?k2 ?k3 ?k4 ?k5 ?kA ?kF ?kK ?k6 ?k7 ?k8 ?k9 ?kB ?kD ?_ ?c2 ?c3 ?c4; (case kA => exact rfl); (case kF => exact rfl); (case kK => assumption); (case k1 => k_asm); (case k2 => k_asm); (case k3 => k_asm); (case k4 => k_asm); (case k5 => k_asm); (case k6 => k_is); (case k7 => k_is); (case k8 => ktr_room); (case k9 => exact BindsTo.of_eq rfl); (case kB => exact rfl); (case kD => decide +kernel); (case c2 => exact rfl); (case c3 => exact rfl); (case c4 => exact rfl); k_whole; intro g' L' h' tk' cells' FG' F' N' Y' B' X' T' l1; k_cells Y'; (try simp only [List.cons_append, List.nil_append] at N'); (try dsimp only); (try k_lift B'); (try k_fold))
  k_steps
  rename News _ _ _ (_ :: _) => NX
  rw [oct2]
  refine' hret _ _ _ ?zf (fun p hp => NX p ?zm)
  (case zf => k_asm)
  (case zm => (repeat (first | exact hp | refine' List.Mem.tail _ ?_)))
theorem octof4_ok {w : World} {mg mb : Str → Option Value} {mean : ExcName → Option Value} {A₀ : Around} {base h₀ : Heap} {outer : List Env} {L : Addr} {m : Str → Option Value} {cs : Scope} {dp un : Nat}
    {gd : Option (List Code)} {cn : Str} {a : Addr} {ccd : Value} {cl : List (Str × Addr)} {s : Shared} {Q E : Value → Shared → Prop} {news : List (Addr × Obj)}
    {n : Int} {t t2 : Tok}
    (B : Below A₀ base outer h₀) (F : Fr h₀ L s.heap m) (X : (KK w).In h₀) (N : News h₀ L s.heap news) (T : Top topProg LO mean mg mb h₀)
    (hk : cs.kind = .function) (hd : dp + 5 < recursionLimit) (hu : un + 80 < cLine)
    (hret : ∀ t' h' tk', Fr h₀ L h' m → News h₀ L h' news → Q (.bytes (byteArr (B32 n)) t') { s with heap := h', toks := tk' })
    : wpAny (model PR w) (ktrTop dp un gd cn cs L a ccd cl outer) (call (.ref 147) [.int n t, .int 4 t2]) Q E s := by
  k_with_none
  (k_with "binaryOp FloorDiv int int" => ((k_here; k_dflt (refine' floordiv_int ?fhbx0 ?_ (Or.inl ?fhpx0); (case fhbx0 => exact pow_ne _); (case fhpx0 => exact pow_py (by omega))))))
  (k_with "storeName" => ((k_here; k_dflt (refine' storeX_C ?F ?N ?cx1 ?U ?dx1 ?_ ?sax1 ?sbx1; (case sax1 => rfl); (case sbx1 => rfl); (case F => k_asm); (case N => k_asm); (case cx1 => rfl); (case U => exact updHead2 (by assumption)); (case dx1 => k_asm); k_whole; intro h' o' F' N' d'; (try dsimp only at N')))))
  revert X; dsimp only [KK, PR]; k_fill; intro X
  refine wpAny_call ?_
  k_dflt (refine' code_defC ?k1 ?k2 ?k3 ?k4 ?k5 ?kA ?kF ?kK ?k6 ?k7 ?k8 ?k9 ?kB ?kD ?_ ?c2 ?c3 ?c4; (case kA => exact rfl); (case kF => exact rfl); (case kK => assumption); (case k1 => k_asm); (case k2 => k_asm); (case k3 => k_asm); (case k4 => k_asm); (case k5 => k_asm); (case k6 => k_is); (case k7 => k_is); (case k8 => ktr_room); (case k9 => exact BindsTo.of_eq rfl); (case kB => exact rfl); (case kD => decide +kernel); (case c2 => exact rfl); (case c3 => exact rfl); (case c4 => exact rfl); k_whole; intro g' L' h' tk' cells' FG' F' N' Y' B' X' T' l1; k_cells Y'; (try simp only [List.cons_append, List.nil_append] at N'); (try dsimp only); (try k_lift B'); (try k_fold))
  k_steps
  rename News _ _ _ (_ :: _) => NX
  rw [oct4]
  refine' hret _ _ _ ?zf (fun p hp => NX p ?zm)
  (case zf => k_asm)
  (case zm => (repeat (first | exact hp | refine' List.Mem.tail _ ?_)))
theorem octof6_ok {w : World} {mg mb : Str → Option Value} {mean : ExcName → Option Value} {A₀ : Around} {base h₀ : Heap} {outer : List Env} {L : Addr} {m : Str → Option Value} {cs : Scope} {dp un : Nat}
    {gd : Option (List Code)} {cn : Str} {a : Addr} {ccd : Value} {cl : List (Str × Addr)} {s : Shared} {Q E : Value → Shared → Prop} {news : List (Addr × Obj)}
    {n : Int} {t t2 : Tok}
    (B : Below A₀ base outer h₀) (F : Fr h₀ L s.heap m) (X : (KK w).In h₀) (N : News h₀ L s.heap news) (T : Top topProg LO mean mg mb h₀)
    (hk : cs.kind = .function) (hd : dp + 5 < recursionLimit) (hu : un + 80 < cLine)
    (hret : ∀ t' h' tk', Fr h₀ L h' m → News h₀ L h' news → Q (.bytes (byteArr (B48 n)) t') { s with heap := h', toks := tk' })
    : wpAny (model PR w) (ktrTop dp un gd cn cs L a ccd cl outer) (call (.ref 147) [.int n t, .int 6 t2]) Q E s := by
  k_with_none
  (k_with "binaryOp FloorDiv int int" => ((k_here; k_dflt (refine' floordiv_int ?fhbx0 ?_ (Or.inl ?fhpx0); (case fhbx0 => exact pow_ne _); (case fhpx0 => exact pow_py (by omega))))))
  (k_with "storeName" => ((k_here; k_dflt (refine' storeX_C ?F ?N ?cx1 ?U ?dx1 ?_ ?sax1 ?sbx1; (case sax1 => rfl); (case sbx1 => rfl); (case F => k_asm); (case N => k_asm); (case cx1 => rfl); (case U => exact updHead2 (by assumption)); (case dx1 => k_asm); k_whole; intro h' o' F' N' d'; (try dsimp only at N')))))
  revert X; dsimp only [KK, PR]; k_fill; intro X
  refine wpAny_call ?_
  k_dflt (refine' code_defC ?k1 ?k2 ?k3 ?k4 ?k5 ?kA ?kF ?kK ?k6 ?k7 ?k8 ?k9 ?kB ?kD ?_ ?c2 ?c3 ?c4; (case kA => exact rfl); (case kF => exact rfl); (case kK => assumption); (case k1 => k_asm); (case k2 => k_asm); (case k3 => k_asm); (case k4 => k_asm); (case k5 => k_asm); (case k6 => k_is); (case k7 => k_is); (case k8 => ktr_room); (case k9 => exact BindsTo.of_eq rfl); (case kB => exact rfl); (case kD => decide +kernel); (case c2 => exact rfl); (case c3 => exact rfl); (case c4 => exact rfl); k_whole; intro g' L' h' tk' cells' FG' F' N' Y' B' X' T' l1; k_cells Y'; (try simp only [List.cons_append, List.nil_append] at N'); (try dsimp only); (try k_lift B'); (try k_fold))
  k_steps
  rename News _ _ _ (_ :: _) => NX
  rw [oct6]
  refine' hret _ _ _ ?zf (fun p hp => NX p ?zm)
  (case zf => k_asm)
  (case zm => (repeat (first | exact hp | refine' List.Mem.tail _ ?_)))
end Mine
end
section
open PySem PySem.W PySem.Spec PySem.Calls PyProof.Rows
set_option maxRecDepth 100000
set_option maxHeartbeats 1000000
namespace Mine
def tabBase : Nat → Int
  | 0 => 498536548
  | 1 => 997073096
  | 2 => 1994146192
  | _ => 3988292384
def tabL : Nat → List Int
  | 0 => [0]
  | i + 1 => tabL i ++ (tabL i).map (fun k => Builtin.bitXor k (tabBase i))
section
variable {prog : Program} {w : World} {A : Around} {E : Value → Shared → Prop} {s : Shared} {g : Heap} {L a cM I l : Addr} {cn : Str} {cs : Scope} {ccd : Value} {cl : List (Str × Addr)}
  {x y : Str} {items : Array Value} {others : List (Addr × Obj)} {body : List Stmt} {px : Pos} {Q : Flow → Shared → Prop}
def TabSt (low : Addr) (g : Heap) (L cM I l : Addr) (y : Str) (others : List (Addr × Obj)) (s : Shared) (i : Nat) (s' : Shared) : Prop :=
  ∃ h tk m rest D nn vs oI oM v₀, s' = { s with heap := h, toks := tk } ∧ Fr g L h m ∧ News g L h rest ∧ m y = some (.ref D) ∧ (D, listOf vs.toArray nn) ∈ rest ∧ IntsAre vs (tabL i) ∧
    (∀ p ∈ others, p ∈ rest) ∧ (I, oI) ∈ rest ∧ oI.cls = .type "list_iterator" ∧ oI.data = .fields #[.ref l, .int (i : Nat) 0] ∧ (cM, oM) ∈ rest ∧ oM.data = .cell v₀ ∧ @LT.lt Nat _ low D
theorem uniq0 {h₀ h : Heap} {L x : Addr} {o o' : Obj} {news : List (Addr × Obj)} (N : News h₀ L h news) (h1 : (x, o) ∈ news) (h2 : (x, o') ∈ news) : o = o' := by
  have a := (N _ h1).1
  have b := (N _ h2).1
  rw [a] at b
  exact Option.some.inj b
theorem loop_tab {low : Addr} (hh : A.handled = none) (hk : cs.kind = .function) (hx : (envX cn cs L a ccd cl).kindOf x = some .cell) (hc : cl.lookup x = some cM)
    (hE : PassesOwn (model prog w) A (envX cn cs L a ccd cl) E)
    (lo : Obj) (hlo : (l, lo) ∈ others) (hlc : lo.cls = .type "list") (hld : ∃ n, lo.data = .seq items n) (hI : ∀ p ∈ others, p.1 ≠ I) (hM : ∀ p ∈ others, p.1 ≠ cM)
    (turn : ∀ i v h tk m rest D nn vs oI oM, items[i]? = some v → Fr g L h m → News g L h rest → m y = some (.ref D) → (D, listOf vs.toArray nn) ∈ rest → IntsAre vs (tabL i) →
      (∀ p ∈ others, p ∈ rest) → (I, oI) ∈ rest → oI.cls = .type "list_iterator" → oI.data = .fields #[.ref l, .int ((i + 1 : Nat) : Int) 0] → (cM, oM) ∈ rest → oM.data = .cell (some v) → @LT.lt Nat _ low D →
      wpAny (model prog w) A (execs body (envX cn cs L a ccd cl)) (fun f s₃ => match f with | .ret v => Q (.ret v) s₃ | .brk => Q .next s₃ | _ => TabSt low g L cM I l y others s (i + 1) s₃) E { s with heap := h, toks := tk })
    (done : ∀ h tk m rest D nn vs, Fr g L h m → News g L h rest → m y = some (.ref D) → (D, listOf vs.toArray nn) ∈ rest → IntsAre vs (tabL items.size) → (∀ p ∈ others, p ∈ rest) → @LT.lt Nat _ low D → Q .next { s with heap := h, toks := tk })
    {s' : Shared} (h0 : TabSt low g L cM I l y others s 0 s') :
    codeAny (model prog w) A (.forLoop (.Name x px) (.ref I) body [] (envX cn cs L a ccd cl)) (fun r s' => match r with | .ok f => Q f s' | .error e => cameBackBy (model prog w) A (envX cn cs L a ccd cl) E e s') s' := by
  refine codeAny_forLoop (fun n s' => ∃ i, n + i = items.size ∧ TabSt low g L cM I l y others s i s') ?_ items.size ⟨0, rfl, h0⟩
  rintro n s' ⟨i, hn, h, tk, m, rest, D, nn, vs, oI, oM, v₀, rfl, F, N, hy, mD, hvs, ho, mI, cI, dI, mM, dM, hlow⟩
  have NI := N _ mI
  have NM := N _ mM
  have hIM : I ≠ cM := fun e => by
    have := uniq0 N mI (o' := oM) (e ▸ mM)
    rw [this, dM] at dI; cases dI
  have hDI : D ≠ I := fun e => by
    have := uniq0 N mI (e ▸ mD)
    rw [this] at dI; cases dI
  have hDM : D ≠ cM := fun e => by
    have := uniq0 N mM (e ▸ mD)
    rw [this] at dM; cases dM
  obtain ⟨nl, hld⟩ := hld
  have hls : h.IsList l items := ⟨lo, (N _ (ho _ hlo)).1, hlc, nl, hld⟩
  have hit : h.IsListIter I l i := ⟨oI, NI.1, cI, dI⟩
  by_cases hi : i < items.size
  · refine wpAny_pyNext_list_item hit hls (x := items[i]) (by simp [hi]) fun h' hit' hs' => ?_
    obtain ⟨oI', gI', cI', dI'⟩ := hit'
    have F₁ := F.change hs' NI.2.1 NI.2.2
    have NM' : h'.get? cM = some oM := (hs'.2 cM (Ne.symm hIM)).trans NM.1
    refine wpAny_assign_Name (wpAny_storeName_cell hk hx hc ⟨oM, NM', dM⟩ fun h'' hv hs'' => ?_)
    obtain ⟨oM', gM', dM'⟩ := hv
    have F₂ : Fr g L h'' m := F₁.change hs'' NM.2.1 NM.2.2
    have keep : ∀ p ∈ rest, p.1 ≠ I → p.1 ≠ cM → h''.get? p.1 = some p.2 := fun p hp e1 e2 => (hs''.2 _ e2).trans ((hs'.2 _ e1).trans (N p hp).1)
    have mem₂ : ∀ p ∈ rest, p.1 ≠ I → p.1 ≠ cM → p ∈ (I, oI') :: (cM, oM') :: rest.filter (fun p => p.1 != I && p.1 != cM) := fun p hp e1 e2 => .tail _ (.tail _ (List.mem_filter.mpr ⟨hp, by simp [e1, e2]⟩))
    refine wpAny_passesOwn hE (wpAny_mono (turn i items[i] h'' tk m ((I, oI') :: (cM, oM') :: rest.filter (fun p => p.1 != I && p.1 != cM)) D nn vs oI' oM' (by simp [hi]) F₂ ?_ hy (mem₂ _ mD hDI hDM) hvs ?_ (.head _) cI' dI' (.tail _ (.head _)) dM' hlow) (fun f s₃ q => ?_) fun _ _ q => q)
    · intro p hp
      rcases List.mem_cons.mp hp with rfl | hp
      · exact ⟨(hs''.2 _ hIM).trans gI', NI.2⟩
      · rcases List.mem_cons.mp hp with rfl | hp
        · exact ⟨gM', NM.2⟩
        · obtain ⟨hp, hne⟩ := List.mem_filter.mp hp
          simp only [Bool.and_eq_true, bne_iff_ne] at hne
          exact ⟨keep p hp hne.1 hne.2, (N p hp).2⟩
    · intro p hp
      exact mem₂ p (ho p hp) (hI p hp) (hM p hp)
    · cases f with
      | ret v => exact q
      | brk => exact q
      | next => exact ⟨n - 1, by omega, i + 1, by omega, q⟩
      | cont => exact ⟨n - 1, by omega, i + 1, by omega, q⟩
  · have hin : i = items.size := by omega
    refine wpAny_pyNext_list_end hh hit hls (by simp [hin]) fun h' hx' => wpAny_execs_nil ?_
    have F₁ : Fr g L h' m := ⟨F.ns.extBut hx' (Ne.symm NI.2.1), fun b o e => hx' b o (fun q => by rw [q, NI.2.2] at e; cases e) (F.keep b o e), F.above⟩
    refine done h' tk m (rest.filter (fun p => p.1 != I)) D nn vs F₁ ?_ hy (List.mem_filter.mpr ⟨mD, by simp [hDI]⟩) (hin ▸ hvs) ?_ hlow
    · intro p hp
      obtain ⟨hp, hne⟩ := List.mem_filter.mp hp
      simp only [bne_iff_ne] at hne
      exact ⟨hx' _ _ hne (N p hp).1, (N p hp).2⟩
    · intro p hp
      exact List.mem_filter.mpr ⟨ho p hp, by simp [hI p hp]⟩
end
end Mine
end
section
open PySem PySem.W PySem.Spec PySem.Calls PyProof.Rows
set_option maxRecDepth 100000
set_option maxHeartbeats 4000000
namespace Mine
local macro_rules | `(tactic| walk_at $s:str) => `(tactic| k_extra $s)
theorem head_obj {g h : Heap} {L D : Addr} {o : Obj} {r : List (Addr × Obj)} (N : News g L h ((D, o) :: r)) : ∃ o', o' = o ∧ News g L h ((D, o') :: r) := ⟨o, rfl, N⟩
theorem News.drop3 {g h : Heap} {L : Addr} {p0 p1 p2 p3 : Addr × Obj} {r : List (Addr × Obj)} (N : News g L h (p0 :: p1 :: p2 :: p3 :: r)) : News g L h (p0 :: r) := fun p hp => by
  rcases List.mem_cons.mp hp with rfl | hp
  · exact N _ (.head _)
  · exact N p (.tail _ (.tail _ (.tail _ (.tail _ hp))))
theorem allLt_mem {D : Addr} : ∀ {r : List (Addr × Obj)} {p : Addr × Obj}, AllLt D r → p ∈ r → @LT.lt Nat _ p.1 D
  | [], _, _, h => nomatch h
  | q :: r, p, l, h => by
    rcases List.mem_cons.mp h with rfl | h
    · exact l.1
    · exact allLt_mem l.2 h
local macro_rules | `(tactic| k_mem) => `(tactic| assumption)
theorem table_ok {w : World} {mg mb : Str → Option Value} {mean : ExcName → Option Value} {A₀ : Around} {base h₀ : Heap} {outer : List Env} {L : Addr} {m : Str → Option Value} {cs : Scope} {dp un : Nat}
    {gd : Option (List Code)} {cn : Str} {a : Addr} {ccd : Value} {cl : List (Str × Addr)} {s : Shared} {Q E : Value → Shared → Prop} {a1 a2 a3 : Addr} {o1 o2 o3 o4 : Obj}
    (B : Below A₀ base outer h₀) (F : Fr h₀ L s.heap m) (X : (KK w).In h₀) (N : News h₀ L s.heap [(a1, o1), (a2, o2), (a3, o3), (163, o4)]) (T : Top topProg LO mean mg mb h₀)
    (lt1 : @LT.lt Nat _ 163 a3) (lt2 : @LT.lt Nat _ a3 a2) (lt3 : @LT.lt Nat _ a2 a1)
    (hk : cs.kind = .function) (hd : dp + 6 < recursionLimit) (hu : un + 100 < cLine)
    (hret : ∀ D us nn h' tk', Fr h₀ L h' m → News h₀ L h' ((D, listOf us.toArray nn) :: [(a1, o1), (a2, o2), (a3, o3), (163, o4)]) → IntsAre us (tabL 4) → (∀ p ∈ [(a1, o1), (a2, o2), (a3, o3), (163, o4)], @LT.lt Nat _ p.1 D) → Q (.ref D) { s with heap := h', toks := tk' })
    : wpAny (model PR w) (ktrTop dp un gd cn cs L a ccd cl outer) (call (.ref 107) []) Q E s := by
  k_with_none
  (k_with "call ref" => ((k_here; (with_reducible show wpAny _ _ (call (Value.ref 102) _) _ _ _); k_dflt (refine' shifted_ok ?k1x0 ?k2x0 ?k3x0 ?k4x0 ?k5x0 ?k6x0 ?k7x0 ?k8x0 (fun v' t' h' tk' ev' F' N' => ?_); (case k1x0 => k_asm); (case k2x0 => k_asm); (case k3x0 => k_asm); (case k4x0 => k_asm); (case k5x0 => k_asm); (case k6x0 => first | exact rfl | assumption); (case k7x0 => ktr_room); (case k8x0 => ktr_units); (first | (replace ev' := ev'.trans (show halfOf _ = 1994146192 by decide +kernel)) | (replace ev' := ev'.trans (show halfOf _ = 997073096 by decide +kernel)) | (replace ev' := ev'.trans (show halfOf _ = 498536548 by decide +kernel))); subst ev'; (try k_sweep); (try dsimp only); (try k_fold)))))
  (k_with "exec For Name Subscript cons nil" => ((k_here; (with_unfolding_all refine' wpAny_For ?k1x1 ?k2x1); (case k2x1 => intro _; rfl))))
  (k_with "eval Name" => ((k_here; k_dflt (refine' nameX_L ?F ?vx2 ?_ ?nax2 ?nbx2; (case F => k_asm); (case nax2 => rfl); (case nbx2 => rfl); (case vx2 => assumption); k_whole))))
  revert X; dsimp only [KK, PR]; k_fill; intro X
  refine wpAny_call ?_
  k_dflt (refine' code_defC ?k1 ?k2 ?k3 ?k4 ?k5 ?kA ?kF ?kK ?k6 ?k7 ?k8 ?k9 ?kB ?kD ?_ ?c2 ?c3 ?c4; (case kA => exact rfl); (case kF => exact rfl); (case kK => assumption); (case k1 => k_asm); (case k2 => k_asm); (case k3 => k_asm); (case k4 => k_asm); (case k5 => k_asm); (case k6 => k_is); (case k7 => k_is); (case k8 => ktr_room); (case k9 => exact BindsTo.of_eq rfl); (case kB => exact rfl); (case kD => decide +kernel); (case c2 => exact rfl); (case c3 => exact rfl); (case c4 => exact rfl); k_whole; intro g' L' h' tk' cells' FG' F' N' Y' B' X' T' l1; (try k_lt l1); k_cells Y'; (try simp only [List.cons_append, List.nil_append] at N'); (try dsimp only); (try k_lift B'); (try k_fold))
  k_steps
  rename News _ _ _ _ => NX
  obtain ⟨lo, elo, NY⟩ := head_obj NX
  refine wpAny_pyIter_list (items := _) ⟨_, (NX _ (.head _)).1, rfl, 0, rfl⟩ ?_
  rename_i lF _ _ _ _ _ D hX FX lLt
  clear NX
  refine loop_tab (low := a1) (g := g') (s := s) (y := Str.ofString "found") (l := D) (cM := L' + 1) (others := [(D, lo), (a1, o1), (a2, o2), (a3, o3), (163, o4)]) rfl rfl rfl rfl (by passes_own) lo (.head _) (by subst elo; rfl) ⟨0, by subst elo; rfl⟩ ?hI ?hM ?turn ?done ?h0
  case hI =>
    have NW := News.drop3 NY
    intro p hp
    exact Nat.ne_of_lt (Heap.lt_size (NW p (by
      rcases List.mem_cons.mp hp with rfl | hp
      · exact .head _
      · exact .tail _ hp)).1)
  case hM =>
    obtain ⟨q1, q2, q3, q4⟩ := l1
    obtain ⟨_, _, q5, _⟩ := lLt
    intro p hp
    rcases List.mem_cons.mp hp with rfl | hp
    · exact Nat.ne_of_gt q5
    · rcases List.mem_cons.mp hp with rfl | hp
      · exact Nat.ne_of_lt (Nat.lt_succ_of_lt q1)
      · rcases List.mem_cons.mp hp with rfl | hp
        · exact Nat.ne_of_lt (Nat.lt_succ_of_lt q2)
        · rcases List.mem_cons.mp hp with rfl | hp
          · exact Nat.ne_of_lt (Nat.lt_succ_of_lt q3)
          · rcases List.mem_cons.mp hp with rfl | hp
            · exact Nat.ne_of_lt (Nat.lt_succ_of_lt q4)
            · cases hp
  case h0 =>
    have NP := NY.push FX { cls := .type "list_iterator", data := .fields #[.ref D, .int 0 0] }
    refine ⟨_, _, _, _, lF, 0, [Value.int 0 _], _, _, _, rfl, FX.push _, NP, rfl, .tail _ (.tail _ (.head _)), IntsAre.cons _ _ .nil, ?o9, .head _, rfl, rfl, .tail _ (.tail _ (.tail _ (.tail _ (.head _)))), by assumption, ?l9⟩
    case o9 =>
      intro p hp
      rcases List.mem_cons.mp hp with rfl | hp
      · exact .tail _ (.head _)
      · exact .tail _ (.tail _ (.tail _ (.tail _ (.tail _ hp))))
    case l9 =>
      rename (_ < lF ∧ _ < lF ∧ _ < lF ∧ _ < lF ∧ _ < lF ∧ _) => lz
      exact lz.2.2.1
  case done =>
    intro h tk m rest Dd nn vs F N hy mD hvs ho hlow
    dsimp only
    k_steps
    refine' hret _ _ _ _ _ ?F9 ?N9 hvs ?l9
    case F9 => k_asm
    case N9 =>
      rename News _ _ _ rest => NZ
      intro p hp
      refine NZ p ?_
      rcases List.mem_cons.mp hp with rfl | hp
      · exact mD
      · exact ho p (.tail _ hp)
    case l9 =>
      intro p hp
      have h1 : @LT.lt Nat _ a1 Dd := hlow
      rcases List.mem_cons.mp hp with rfl | hp
      · exact h1
      · rcases List.mem_cons.mp hp with rfl | hp
        · exact Nat.lt_trans lt3 h1
        · rcases List.mem_cons.mp hp with rfl | hp
          · exact Nat.lt_trans (Nat.lt_trans lt2 lt3) h1
          · rcases List.mem_cons.mp hp with rfl | hp
            · exact Nat.lt_trans (Nat.lt_trans (Nat.lt_trans lt1 lt2) lt3) h1
            · cases hp
  case turn =>
    intro i v h tk m rest Df nn vs oI oM hv F N hy mD hvs ho mI cI dI mM dM hlow
    have hv' : ∃ t, v = .int (tabBase i) t := by
      rcases i with _ | _ | _ | _ | i <;> simp at hv <;> exact ⟨_, hv.symm⟩
    obtain ⟨tv, rfl⟩ := hv'
    clear FX NY
    have hls : h.IsList Df vs.toArray := ⟨_, (N _ mD).1, rfl, nn, rfl⟩
    have hi4 : i < 4 := by
      rcases i with _ | _ | _ | _ | i
      · decide
      · decide
      · decide
      · decide
      · simp at hv
    have hlen : (tabL i).length ≤ 16 := by
      rcases i with _ | _ | _ | _ | i
      · decide
      · decide
      · decide
      · decide
      · omega
    clear hv
    show wpAny _ _ (execs _ _) _ _ _
    k_fold
    k_steps
    refine' ⟨_, _, _, _, _, 0, _, oI, oM, _, rfl, ?F9, ?N9, ?y9, ?d9, ?I9, ?o9, ?i9, cI, dI, ?m9, dM, ?l9⟩
    case F9 => k_asm
    case N9 => k_asm
    case y9 => exact rfl
    case d9 => exact .head _
    case I9 => assumption
    case o9 => exact fun p hp => .tail _ (.tail _ (ho p hp))
    case i9 => exact .tail _ (.tail _ mI)
    case m9 => exact .tail _ (.tail _ mM)
    case l9 =>
      rename (_ < _ ∧ AllLt _ rest) => lz
      exact allLt_mem lz.2 (ho _ (.tail _ (.head _)))
end Mine
end
section
open PySem PySem.W PySem.Spec PySem.Calls PyProof.Rows
set_option maxRecDepth 100000
set_option maxHeartbeats 1000000
namespace Mine
section
variable {prog : Program} {w : World} {A : Around} {E : Value → Shared → Prop} {s : Shared} {env : Env} {h₀ : Heap} {x : Str} {body : List Stmt} {Q : Flow → Shared → Prop}
theorem range_word {r : Addr} {a₀ b₀ : Int} {t₀ u₀ v₀ : Tok} {n : Nat} {m₀ : Str → Option Value} {news : List (Addr × Obj)} {y : Str} {c₀ : Int} {tc : Tok} (g : Int → Int)
    (hh : A.handled = none) (hr : IsRange s.heap r a₀ b₀ 1 t₀ u₀ v₀) (hsmall : Builtin.Range.small a₀ b₀ 1 = true) (hn : Builtin.Range.rangeSize a₀ b₀ 1 = (n : Int)) (F : Fr h₀ env.locals s.heap m₀) (N : News h₀ env.locals s.heap news) (hy : m₀ y = some (.int c₀ tc))
    (turn : ∀ k t a ta h tk own, Fr h₀ env.locals h (fun z => if z = x then some (.int k t) else if z = y then some (.int a ta) else m₀ z) → News h₀ env.locals h (news ++ own) →
      wpAny (model prog w) A (execs body env) (InvPostN h₀ env.locals (fun m' nx => nx = news ∧ (∃ v t', m' y = some (.int v t') ∧ v = g a) ∧ ∀ z, z ≠ x → z ≠ y → m' z = m₀ z) own (news.map (·.1)) { s with heap := h, toks := tk } Q) E { s with heap := h, toks := tk })
    (done : ∀ (u : Str → Option Value) t h tk, Fr h₀ env.locals h (fun z => if z = x then u z else if z = y then some (.int ((rangeKs a₀ n).foldl (fun a _ => g a) c₀) t) else m₀ z) → News h₀ env.locals h news → Q .next { s with heap := h, toks := tk }) :
    wpAny (model prog w) A (pyIter (.ref r)) (fun it s₂ => LoopAtV prog w A h₀ env x body Q E it s₂) E s := by
  refine iter_rangeS (fun a m nx => nx = news ∧ (∃ v t, m y = some (.int v t) ∧ v = a) ∧ ∀ z, z ≠ x → z ≠ y → m z = m₀ z) (fun a _ => g a) c₀ hh hr hsmall hn F N ⟨rfl, ⟨c₀, tc, hy, rfl⟩, fun _ _ _ => rfl⟩ ?_ ?_
  · rintro k t a m₁ nx h tk own hk hoff ⟨rfl, ⟨_, ta, ha, rfl⟩, hm⟩ F₁ N₁
    rw [map_one ha hm] at F₁
    exact turn k t _ ta h tk own F₁ N₁
  · rintro m₁ nx h tk ⟨rfl, ⟨_, t, ha, rfl⟩, hm⟩ F₁ N₁
    refine done m₁ t h tk ?_ N₁
    rw [done_one ha hm]; exact F₁
theorem range_idx {r : Addr} {a₀ b₀ : Int} {t₀ u₀ v₀ : Tok} {n : Nat} {m₀ : Str → Option Value} {news : List (Addr × Obj)}
    (J : Nat → (Str → Option Value) → List (Addr × Obj) → Prop)
    (hh : A.handled = none) (hr : IsRange s.heap r a₀ b₀ 1 t₀ u₀ v₀) (hsmall : Builtin.Range.small a₀ b₀ 1 = true) (hn : Builtin.Range.rangeSize a₀ b₀ 1 = (n : Int)) (F : Fr h₀ env.locals s.heap m₀) (N : News h₀ env.locals s.heap news) (hj : J 0 m₀ news)
    (turn : ∀ i t m₁ nx h tk own, i < n → OwnOff own (news.map (·.1)) → J i m₁ nx → Fr h₀ env.locals h (fun y => if y = x then some (.int (a₀ + (i : Nat)) t) else m₁ y) → News h₀ env.locals h (nx ++ own) →
      wpAny (model prog w) A (execs body env) (InvPostN h₀ env.locals (J (i + 1)) own (news.map (·.1)) { s with heap := h, toks := tk } Q) E { s with heap := h, toks := tk })
    (done : ∀ m₁ nx h tk, J n m₁ nx → Fr h₀ env.locals h m₁ → News h₀ env.locals h nx → Q .next { s with heap := h, toks := tk }) :
    wpAny (model prog w) A (pyIter (.ref r)) (fun it s₂ => LoopAtV prog w A h₀ env x body Q E it s₂) E s := by
  refine wpAny_pyIter_range hr hsmall ?_
  have W : Walks prog w A s.heap.objs.size [s.heap.objs.size] [s.heap.objs.size] n (fun i v => i < n ∧ ∃ t, v = .int (a₀ + i * 1) t)
      (fun i h => IsRangeIter h s.heap.objs.size (a₀ + (i : Nat) * 1) ((n : Int) - (i : Nat)) 1) := (Walks.range hh _ a₀ 1 n).bound
  have old : ∀ p ∈ news, p.1 ∉ [s.heap.objs.size] := fun p hp hI => absurd (Heap.lt_size (N p hp).1) ((List.mem_singleton.mp hI) ▸ Nat.lt_irrefl _)
  refine loop_invN J W (fun hm => absurd F.ns.lt ((List.mem_singleton.mp hm) ▸ Nat.lt_irrefl _)) (fun b hb => by rw [List.mem_singleton.mp hb]; exact next_is_new F) old old
    (by show IsRangeIter _ _ _ _ _; rw [hn]; simpa using Heap.get?_push_size _ rfl) (F.push _) (fun p hp => ⟨Heap.get?_push_of_some _ (N p hp).1, (N p hp).2⟩) hj ?_ done
  rintro i v m₁ nx h tk own hin ⟨_, t, rfl⟩ _ hsep hJ F₁ N₁
  rw [Int.mul_one] at F₁
  exact turn i t m₁ nx h tk own hin hsep hJ F₁ N₁
theorem range_due {r D : Addr} {a₀ b₀ : Int} {t₀ u₀ v₀ : Tok} {n : Nat} {m₀ : Str → Option Value} {post : List (Addr × Obj)} {p q : Str} {us₀ : List Value} {n₀ : Nat} {l₀ : List Int} (f : Int → Int)
    (hh : A.handled = none) (hr : IsRange s.heap r a₀ b₀ 1 t₀ u₀ v₀) (hsmall : Builtin.Range.small a₀ b₀ 1 = true) (hn : Builtin.Range.rangeSize a₀ b₀ 1 = (n : Int)) (F : Fr h₀ env.locals s.heap m₀) (N : News h₀ env.locals s.heap ((D, listOf us₀.toArray n₀) :: post)) (hI : IntsAre us₀ l₀)
    (turn : ∀ k t us nn l (u : Str → Option Value) h tk own, OwnOff own (D :: post.map (·.1)) → l.length ≤ l₀.length + n → IntsAre us l →
      Fr h₀ env.locals h (fun z => if z = x then some (.int k t) else if z = p then u z else if z = q then u z else m₀ z) → News h₀ env.locals h ((D, listOf us.toArray nn) :: (post ++ own)) →
      wpAny (model prog w) A (execs body env) (InvPostN h₀ env.locals (fun m' nx => (∃ us' nn', nx = (D, listOf us'.toArray nn') :: post ∧ IntsAre us' (l ++ [f k])) ∧ ∀ z, z ≠ x → z ≠ p → z ≠ q → m' z = m₀ z) own (D :: post.map (·.1)) { s with heap := h, toks := tk } Q) E { s with heap := h, toks := tk })
    (done : ∀ (u : Str → Option Value) us nn h tk, IntsAre us ((rangeKs a₀ n).foldl (fun l k => l ++ [f k]) l₀) → Fr h₀ env.locals h (fun z => if z = x then u z else if z = p then u z else if z = q then u z else m₀ z) → News h₀ env.locals h ((D, listOf us.toArray nn) :: post) → Q .next { s with heap := h, toks := tk }) :
    wpAny (model prog w) A (pyIter (.ref r)) (fun it s₂ => LoopAtV prog w A h₀ env x body Q E it s₂) E s := by
  have e : ∀ (m₁ : Str → Option Value), (∀ z, z ≠ x → z ≠ p → z ≠ q → m₁ z = m₀ z) → m₁ = (fun z => if z = x then m₁ z else if z = p then m₁ z else if z = q then m₁ z else m₀ z) := by
    intro m₁ hm
    funext z
    by_cases h1 : z = x
    · simp only [if_pos h1]
    · by_cases h2 : z = p
      · simp only [if_neg h1, if_pos h2]
      · by_cases h3 : z = q
        · simp only [if_neg h1, if_neg h2, if_pos h3]
        · simp only [if_neg h1, if_neg h2, if_neg h3]; exact hm z h1 h2 h3
  refine range_idx (fun i m nx => (∃ us nn, nx = (D, listOf us.toArray nn) :: post ∧ IntsAre us (((rangeKs a₀ n).take i).foldl (fun l k => l ++ [f k]) l₀)) ∧ ∀ z, z ≠ x → z ≠ p → z ≠ q → m z = m₀ z) hh hr hsmall hn F N ⟨⟨us₀, n₀, rfl, by simpa using hI⟩, fun _ _ _ _ => rfl⟩ ?_ ?_
  · rintro i t m₁ nx h tk own hin hoff ⟨⟨us, nn, rfl, hi⟩, hm⟩ F₁ N₁
    have hk : (rangeKs a₀ n)[i]? = some (a₀ + (i : Nat)) := by simp [rangeKs, hin]
    have hs : ((rangeKs a₀ n).take (i + 1)).foldl (fun l k => l ++ [f k]) l₀ = ((rangeKs a₀ n).take i).foldl (fun l k => l ++ [f k]) l₀ ++ [f (a₀ + (i : Nat))] := by
      rw [List.take_add_one, hk]; simp
    have hlen : ∀ (ks : List Int) (l : List Int), (ks.foldl (fun l k => l ++ [f k]) l).length = l.length + ks.length := by
      intro ks
      induction ks with
      | nil => intro l; rfl
      | cons k ks ih => intro l; rw [List.foldl_cons, ih]; simp; omega
    rw [hs]
    refine turn _ t us nn _ m₁ h tk own hoff ?_ hi ?_ N₁
    · rw [hlen, List.length_take, rangeKs_length]; omega
    · have e2 : (fun y => if y = x then some (.int (a₀ + (i : Nat)) t) else m₁ y) = (fun z => if z = x then some (.int (a₀ + (i : Nat)) t) else if z = p then m₁ z else if z = q then m₁ z else m₀ z) := by
        funext z
        by_cases h1 : z = x
        · simp only [if_pos h1]
        · by_cases h2 : z = p
          · simp only [if_neg h1, if_pos h2]
          · by_cases h3 : z = q
            · simp only [if_neg h1, if_neg h2, if_pos h3]
            · simp only [if_neg h1, if_neg h2, if_neg h3]; exact hm z h1 h2 h3
      rw [← e2]; exact F₁
  · rintro m₁ nx h tk ⟨⟨us, nn, rfl, hi⟩, hm⟩ F₁ N₁
    rw [List.take_of_length_le (by rw [rangeKs_length]; exact Nat.le_refl _)] at hi
    refine done m₁ us nn h tk hi ?_ N₁
    rw [← e m₁ hm]; exact F₁
end
end Mine
end
section
open PySem PySem.W PySem.Spec PySem.Calls PyProof.Rows
set_option maxRecDepth 100000
set_option maxHeartbeats 1000000
namespace Mine
abbrev riter (x left : Int) : Obj := { cls := .type "range_iterator", dict := none, data := .fields #[rawInt x, rawInt left, rawInt 1], slots := #[] }
theorem small3 {b : Int} (h1 : 1 ≤ b) (h3 : b ≤ 3) : Builtin.Range.small 0 b 1 = true ∧ Builtin.Range.rangeSize 0 b 1 = b := by
  rcases (show b = 1 ∨ b = 2 ∨ b = 3 by omega) with rfl | rfl | rfl <;> decide +kernel
section
variable {prog : Program} {w : World} {A : Around} {E : Value → Shared → Prop} {s : Shared} {g : Heap} {L a : Addr} {cn : Str} {cs : Scope} {ccd : Value} {cl : List (Str × Addr)}
  {qual x y : Str} {body : List Stmt} {px : Pos} {Q : Flow → Shared → Prop}
theorem cellNotRec {h : Heap} {c' c : Addr} {oc o : Obj} {ps : Obj} {rest : List (Addr × Obj)} {v : Option Value} {vs : Array Value} (N : News g L h ((163, ps) :: rest)) (hm : (c', oc) ∈ rest) (hd : oc.data = .fields vs) (hc : (c, o) ∈ rest) (hcd : o.data = .cell v) : c' ≠ c := by
  rintro rfl
  have := uniq N (.tail _ hm) (.tail _ hc)
  rw [← this, hd] at hcd
  cases hcd
/-- between two turns of the loop over k -/
def RngSt (g : Heap) (L I l cS cN : Addr) (b : Int) (qual y : Str) (s : Shared) (i : Nat) (s' : Shared) : Prop :=
  ∃ h tk m ps rest oS oN vS vN, s' = { s with heap := h, toks := tk } ∧ Fr g L h m ∧ News g L h ((163, tabObj ps) :: rest) ∧ (∀ p ∈ rest, p.1 ≠ 163) ∧ TabInv qual ps rest ∧
    (I, riter (i : Nat) (b - (i : Nat))) ∈ rest ∧ (cS, oS) ∈ rest ∧ oS.data = .cell vS ∧ (cN, oN) ∈ rest ∧ oN.data = .cell vN ∧ m y = some (.ref l)
theorem iter_k {r l cS cN : Addr} {b : Int} {t₀ u₀ v₀ : Tok} {m : Str → Option Value} {ps : Array Value} {rest : List (Addr × Obj)} {oS oN : Obj} {vS vN : Option Value}
    (hh : A.handled = none) (hx : (envX cn cs L a ccd cl).kindOf x = some .local) (hk : cs.kind = .function)
    (hE : PassesOwn (model prog w) A (envX cn cs L a ccd cl) E)
    (hr : IsRange s.heap r 0 b 1 t₀ u₀ v₀) (hb1 : 1 ≤ b) (hb3 : b ≤ 3) (hne : cS ≠ cN)
    (F : Fr g L s.heap m) (N : News g L s.heap ((163, tabObj ps) :: rest)) (h163 : ∀ p ∈ rest, p.1 ≠ 163) (TI : TabInv qual ps rest)
    (mS : (cS, oS) ∈ rest) (dS : oS.data = .cell vS) (mN : (cN, oN) ∈ rest) (dN : oN.data = .cell vN) (hy : m y = some (.ref l)) (hxy : y ≠ x)
    (turn : ∀ I (i : Nat) t h tk (m : Str → Option Value) ps rest oS oN vS vN, (i : Int) < b → Fr g L h (fun z => if z = x then some (.int (i : Nat) t) else if z = y then some (.ref l) else m z) →
      News g L h ((cN, oN) :: (cS, oS) :: (163, tabObj ps) :: rest) → oN.data = .cell vN → oS.data = .cell vS → (∀ p ∈ rest, p.1 ≠ cN) → (∀ p ∈ rest, p.1 ≠ cS) → (∀ p ∈ rest, p.1 ≠ 163) → TabInv qual ps rest →
      (I, riter ((i + 1 : Nat) : Int) (b - ((i + 1 : Nat) : Int))) ∈ rest →
      wpAny (model prog w) A (execs body (envX cn cs L a ccd cl)) (fun f s₃ => match f with | .ret v => Q (.ret v) s₃ | .brk => Q .next s₃ | _ => RngSt g L I l cS cN b qual y s (i + 1) s₃) E { s with heap := h, toks := tk })
    (done : ∀ h tk m ps rest, Fr g L h m → News g L h ((163, tabObj ps) :: rest) → Q .next { s with heap := h, toks := tk }) :
    wpAny (model prog w) A (pyIter (.ref r)) (fun it s₂ => codeAny (model prog w) A (.forLoop (.Name x px) it body [] (envX cn cs L a ccd cl)) (fun r s' => match r with | .ok f => Q f s' | .error e => cameBackBy (model prog w) A (envX cn cs L a ccd cl) E e s') s₂) E s := by
  obtain ⟨hsm, hsz⟩ := small3 hb1 hb3
  refine wpAny_pyIter_range hr hsm ?_
  rw [hsz]
  refine codeAny_forLoop (fun n s' => ∃ i : Nat, (n : Int) = b - i ∧ RngSt g L s.heap.objs.size l cS cN b qual y s i s') ?_ b.toNat ⟨0, by omega, ?_⟩
  · rintro n s' ⟨i, hn, h, tk, m, ps, rest, oS, oN, vS, vN, rfl, F, N, h163, TI, mI, mS, dS, mN, dN, hy⟩
    generalize s.heap.objs.size = I at *
    have NI := N _ (.tail _ mI)
    have hIS : I ≠ cS := cellNotRec N mI rfl mS dS
    have hIN : I ≠ cN := cellNotRec N mI rfl mN dN
    by_cases hi : (i : Int) < b
    · refine wpAny_pyNext_range_item (x := (i : Int)) (left := b - i) (step := 1) NI.1 (by omega) fun h' hit' hs' => ?_
      have F₁ := F.change hs' NI.2.1 NI.2.2
      refine wpAny_assign_Name (wpAny_storeName_local hx F₁.ns (fun h'' hn'' hs'' => ?_) (by show (cs.kind == .class || (cs.kind == .module && L != mainGlobals)) = false; rw [hk]; rfl))
      have F₂ := F₁.set hn'' hs''
      have keep : ∀ p ∈ (163, tabObj ps) :: rest, p.1 ≠ I → h''.get? p.1 = some p.2 := fun p hp e1 => (hs''.2 _ (N p hp).2.1).trans ((hs'.2 _ e1).trans (N p hp).1)
      have hit'' : IsRangeIter h'' I ((i : Int) + 1) (b - i - 1) 1 := (hs''.2 _ NI.2.1).trans hit'
      have e1 : ((i : Int) + 1) = ((i + 1 : Nat) : Int) := by omega
      have e2 : (b - (i : Int) - 1) = b - ((i + 1 : Nat) : Int) := by omega
      rw [e1, e2] at hit''
      have hmap : (fun z => if z = x then some (Value.int (i : Int) tk) else m z) = fun z => if z = x then some (Value.int (i : Int) tk) else if z = y then some (.ref l) else m z := by
        funext z
        by_cases h1 : z = x
        · simp only [if_pos h1]
        · by_cases h2 : z = y
          · subst h2; simp only [if_neg h1, if_true]; exact hy
          · simp only [if_neg h1, if_neg h2]
      have F₃ : Fr g L h'' (fun z => if z = x then some (Value.int (i : Int) tk) else if z = y then some (.ref l) else m z) := by rw [← hmap]; exact F₂
      let keepB : Addr × Obj → Bool := fun p => p.1 != I && (p.1 != cS && p.1 != cN)
      have hkb : ∀ p, keepB p = true ↔ (p.1 ≠ I ∧ p.1 ≠ cS ∧ p.1 ≠ cN) := by
        intro p; simp only [keepB, Bool.and_eq_true, bne_iff_ne]
      refine wpAny_passesOwn hE (wpAny_mono (turn I i tk h'' _ m ps ((I, riter ((i + 1 : Nat) : Int) (b - ((i + 1 : Nat) : Int))) :: rest.filter keepB) oS oN vS vN hi F₃ ?_ dN dS ?_ ?_ ?_ ?_ (.head _)) (fun f s₃ q => ?_) fun _ _ q => q)
      · intro p hp
        rcases List.mem_cons.mp hp with rfl | hp
        · exact ⟨keep _ (.tail _ mN) (Ne.symm hIN), (N _ (.tail _ mN)).2⟩
        · rcases List.mem_cons.mp hp with rfl | hp
          · exact ⟨keep _ (.tail _ mS) (Ne.symm hIS), (N _ (.tail _ mS)).2⟩
          · rcases List.mem_cons.mp hp with rfl | hp
            · exact ⟨keep _ (.head _) (fun e => h163 _ mI e.symm), (N _ (.head _)).2⟩
            · rcases List.mem_cons.mp hp with rfl | hp
              · exact ⟨hit'', NI.2⟩
              · obtain ⟨hp, hq⟩ := List.mem_filter.mp hp
                exact ⟨keep _ (.tail _ hp) ((hkb p).mp hq).1, (N _ (.tail _ hp)).2⟩
      · intro p hp
        rcases List.mem_cons.mp hp with rfl | hp
        · exact hIN
        · exact ((hkb p).mp (List.mem_filter.mp hp).2).2.2
      · intro p hp
        rcases List.mem_cons.mp hp with rfl | hp
        · exact hIS
        · exact ((hkb p).mp (List.mem_filter.mp hp).2).2.1
      · intro p hp
        rcases List.mem_cons.mp hp with rfl | hp
        · exact (show I ≠ 163 from h163 _ mI)
        · exact h163 _ (List.mem_filter.mp hp).1
      · refine ⟨TI.tri, fun pos cv e => ?_⟩
        obtain ⟨c', rfl, oc, vs, t, hm, hd, hv⟩ := TI.hit pos cv e
        refine ⟨c', rfl, oc, vs, t, .tail _ (List.mem_filter.mpr ⟨hm, (hkb _).mpr ⟨?_, cellNotRec N hm hd mS dS, cellNotRec N hm hd mN dN⟩⟩), hd, hv⟩
        rintro rfl
        have := uniq N (.tail _ hm) (.tail _ mI)
        rw [this] at hd
        cases hd
        cases hv
      · cases f with
        | ret v => exact q
        | brk => exact q
        | next => exact ⟨n - 1, by omega, i + 1, by omega, q⟩
        | cont => exact ⟨n - 1, by omega, i + 1, by omega, q⟩
    · refine wpAny_pyNext_range_end hh (x := (i : Int)) (left := b - i) (step := 1) NI.1 (by omega) fun h' hx' => wpAny_execs_nil ?_
      have F₁ : Fr g L h' m := ⟨F.ns.extBut hx' (Ne.symm NI.2.1), fun b o e => hx' b o (fun q => by rw [q, NI.2.2] at e; cases e) (F.keep b o e), F.above⟩
      refine done h' tk m ps (rest.filter (fun p => p.1 != I)) F₁ ?_
      intro p hp
      rcases List.mem_cons.mp hp with rfl | hp
      · exact ⟨hx' _ _ (fun e => h163 _ mI e.symm) (N _ (.head _)).1, (N _ (.head _)).2⟩
      · obtain ⟨hp, hne⟩ := List.mem_filter.mp hp
        simp only [bne_iff_ne] at hne
        exact ⟨hx' _ _ hne (N p (.tail _ hp)).1, (N p (.tail _ hp)).2⟩
  · have NP := N.push F (riter 0 b)
    have hlt : ∀ p ∈ (163, tabObj ps) :: rest, p.1 < s.heap.objs.size := fun p hp => Heap.lt_size (N p hp).1
    refine ⟨_, _, m, ps, (s.heap.objs.size, riter 0 b) :: rest, oS, oN, vS, vN, rfl, F.push _, ?_, ?_, TI.mono fun p hp => .tail _ hp, ?_, .tail _ mS, dS, .tail _ mN, dN, hy⟩
    · intro p hp
      refine NP p ?_
      rcases List.mem_cons.mp hp with rfl | hp
      · exact .tail _ (.head _)
      · rcases List.mem_cons.mp hp with rfl | hp
        · exact .head _
        · exact .tail _ (.tail _ hp)
    · intro p hp
      rcases List.mem_cons.mp hp with rfl | hp
      · exact Nat.ne_of_gt (hlt _ (.head _))
      · exact h163 p hp
    · have e : b - ((0 : Nat) : Int) = b := by omega
      rw [e]; exact .head _

/-- between two turns of the loop over the places -/
def PlSt (g : Heap) (L I l : Addr) (qual x : Str) (m₀ : Str → Option Value) (others : List (Addr × Obj)) (s : Shared) (i : Nat) (s' : Shared) : Prop :=
  ∃ h tk m ps rest oI, s' = { s with heap := h, toks := tk } ∧ Fr g L h m ∧ News g L h ((163, tabObj ps) :: rest) ∧ (∀ p ∈ rest, p.1 ≠ 163) ∧ TabInv qual ps rest ∧
    (∀ p ∈ others, p ∈ rest) ∧ (I, oI) ∈ rest ∧ oI.cls = .type "list_iterator" ∧ oI.data = .fields #[.ref l, .int (i : Nat) 0] ∧ (∀ z, z ≠ x → m z = m₀ z)
theorem iter_place {l : Addr} {items : Array Value} {m₀ : Str → Option Value} {ps : Array Value} {others : List (Addr × Obj)} {lo : Obj}
    (hh : A.handled = none) (hx : (envX cn cs L a ccd cl).kindOf x = some .local) (hk : cs.kind = .function)
    (hE : PassesOwn (model prog w) A (envX cn cs L a ccd cl) E)
    (hlo : (l, lo) ∈ others) (hlc : lo.cls = .type "list") (hld : ∃ n, lo.data = .seq items n)
    (F : Fr g L s.heap m₀) (N : News g L s.heap ((163, tabObj ps) :: others)) (h163 : ∀ p ∈ others, p.1 ≠ 163) (TI : TabInv qual ps others)
    (turn : ∀ I (i : Nat) v h tk ps rest oI, items[i]? = some v → Fr g L h (fun z => if z = x then some v else m₀ z) →
      News g L h ((163, tabObj ps) :: rest) → (∀ p ∈ rest, p.1 ≠ 163) → TabInv qual ps rest → (∀ p ∈ others, p ∈ rest) →
      (I, oI) ∈ rest → oI.cls = .type "list_iterator" → oI.data = .fields #[.ref l, .int ((i + 1 : Nat) : Int) 0] →
      wpAny (model prog w) A (execs body (envX cn cs L a ccd cl)) (fun f s₃ => match f with | .ret v => Q (.ret v) s₃ | .brk => Q .next s₃ | _ => PlSt g L I l qual x m₀ others s (i + 1) s₃) E { s with heap := h, toks := tk })
    (done : ∀ h tk (u : Str → Option Value) ps rest, Fr g L h (fun z => if z = x then u z else m₀ z) → News g L h ((163, tabObj ps) :: rest) → (∀ p ∈ rest, p.1 ≠ 163) → TabInv qual ps rest → (∀ p ∈ others, p ∈ rest) → Q .next { s with heap := h, toks := tk }) :
    wpAny (model prog w) A (pyIter (.ref l)) (fun it s₂ => codeAny (model prog w) A (.forLoop (.Name x px) it body [] (envX cn cs L a ccd cl)) (fun r s' => match r with | .ok f => Q f s' | .error e => cameBackBy (model prog w) A (envX cn cs L a ccd cl) E e s') s₂) E s := by
  obtain ⟨nl, hld⟩ := hld
  have hls0 : s.heap.IsList l items := ⟨lo, (N _ (.tail _ hlo)).1, hlc, nl, hld⟩
  have hI : ∀ p ∈ others, p.1 ≠ s.heap.objs.size := fun p hp => Nat.ne_of_lt (Heap.lt_size (N p (.tail _ hp)).1)
  refine wpAny_pyIter_list hls0 ?_
  refine codeAny_forLoop (fun n s' => ∃ i : Nat, n + i = items.size ∧ PlSt g L s.heap.objs.size l qual x m₀ others s i s') ?_ items.size ⟨0, rfl, ?_⟩
  · rintro n s' ⟨i, hn, h, tk, m, ps, rest, oI, rfl, F, N, h163, TI, ho, mI, cI, dI, hm⟩
    generalize s.heap.objs.size = I at *
    have NI := N _ (.tail _ mI)
    have hls : h.IsList l items := ⟨lo, (N _ (.tail _ (ho _ hlo))).1, hlc, nl, hld⟩
    have hit : h.IsListIter I l i := ⟨oI, NI.1, cI, dI⟩
    have hmap : ∀ v, (fun z => if z = x then some v else m z) = fun z => if z = x then some v else m₀ z := by
      intro v
      funext z
      by_cases h1 : z = x
      · simp only [if_pos h1]
      · simp only [if_neg h1]; exact hm z h1
    have hmap2 : m = fun z => if z = x then m z else m₀ z := by
      funext z
      by_cases h1 : z = x
      · simp only [if_pos h1]
      · simp only [if_neg h1]; exact hm z h1
    by_cases hi : i < items.size
    · refine wpAny_pyNext_list_item hit hls (x := items[i]) (by simp [hi]) fun h' hit' hs' => ?_
      obtain ⟨oI', gI', cI', dI'⟩ := hit'
      have F₁ := F.change hs' NI.2.1 NI.2.2
      refine wpAny_assign_Name (wpAny_storeName_local hx F₁.ns (fun h'' hn'' hs'' => ?_) (by show (cs.kind == .class || (cs.kind == .module && L != mainGlobals)) = false; rw [hk]; rfl))
      have F₂ := F₁.set hn'' hs''
      rw [hmap] at F₂
      have keep : ∀ p ∈ (163, tabObj ps) :: rest, p.1 ≠ I → h''.get? p.1 = some p.2 := fun p hp e1 => (hs''.2 _ (N p hp).2.1).trans ((hs'.2 _ e1).trans (N p hp).1)
      have gI'' : h''.get? I = some oI' := (hs''.2 _ NI.2.1).trans gI'
      refine wpAny_passesOwn hE (wpAny_mono (turn I i items[i] h'' _ ps ((I, oI') :: rest.filter (fun p => p.1 != I)) oI' (by simp [hi]) F₂ ?_ ?_ ?_ ?_ (.head _) cI' dI') (fun f s₃ q => ?_) fun _ _ q => q)
      · intro p hp
        rcases List.mem_cons.mp hp with rfl | hp
        · exact ⟨keep _ (.head _) (fun e => h163 _ mI e.symm), (N _ (.head _)).2⟩
        · rcases List.mem_cons.mp hp with rfl | hp
          · exact ⟨gI'', NI.2⟩
          · obtain ⟨hp, hq⟩ := List.mem_filter.mp hp
            simp only [bne_iff_ne] at hq
            exact ⟨keep _ (.tail _ hp) hq, (N _ (.tail _ hp)).2⟩
      · intro p hp
        rcases List.mem_cons.mp hp with rfl | hp
        · exact (show I ≠ 163 from h163 _ mI)
        · exact h163 _ (List.mem_filter.mp hp).1
      · refine ⟨TI.tri, fun pos cv e => ?_⟩
        obtain ⟨c', rfl, oc, vs, t, hm, hd, hv⟩ := TI.hit pos cv e
        refine ⟨c', rfl, oc, vs, t, .tail _ (List.mem_filter.mpr ⟨hm, ?_⟩), hd, hv⟩
        simp only [bne_iff_ne]
        rintro rfl
        have := uniq N (.tail _ hm) (.tail _ mI)
        rw [this, dI] at hd
        cases hd
        cases hv
      · intro p hp
        exact .tail _ (List.mem_filter.mpr ⟨ho p hp, by simp only [bne_iff_ne]; exact hI p hp⟩)
      · cases f with
        | ret v => exact q
        | brk => exact q
        | next => exact ⟨n - 1, by omega, i + 1, by omega, q⟩
        | cont => exact ⟨n - 1, by omega, i + 1, by omega, q⟩
    · have hin : i = items.size := by omega
      refine wpAny_pyNext_list_end hh hit hls (by simp [hin]) fun h' hx' => wpAny_execs_nil ?_
      have F₁ : Fr g L h' m := ⟨F.ns.extBut hx' (Ne.symm NI.2.1), fun b o e => hx' b o (fun q => by rw [q, NI.2.2] at e; cases e) (F.keep b o e), F.above⟩
      rw [hmap2] at F₁
      refine done h' tk m ps (rest.filter (fun p => p.1 != I)) F₁ ?_ ?_ ?_ ?_
      · intro p hp
        rcases List.mem_cons.mp hp with rfl | hp
        · exact ⟨hx' _ _ (fun e => h163 _ mI e.symm) (N _ (.head _)).1, (N _ (.head _)).2⟩
        · obtain ⟨hp, hne⟩ := List.mem_filter.mp hp
          simp only [bne_iff_ne] at hne
          exact ⟨hx' _ _ hne (N p (.tail _ hp)).1, (N p (.tail _ hp)).2⟩
      · intro p hp
        exact h163 _ (List.mem_filter.mp hp).1
      · refine ⟨TI.tri, fun pos cv e => ?_⟩
        obtain ⟨c', rfl, oc, vs, t, hm, hd, hv⟩ := TI.hit pos cv e
        refine ⟨c', rfl, oc, vs, t, List.mem_filter.mpr ⟨hm, ?_⟩, hd, hv⟩
        simp only [bne_iff_ne]
        rintro rfl
        have := uniq N (.tail _ hm) (.tail _ mI)
        rw [this, dI] at hd
        cases hd
        cases hv
      · intro p hp
        exact List.mem_filter.mpr ⟨ho p hp, by simp only [bne_iff_ne]; exact hI p hp⟩
  · have NP := N.push F { cls := .type "list_iterator", data := .fields #[.ref l, .int 0 0] }
    have hlt : ∀ p ∈ (163, tabObj ps) :: others, p.1 < s.heap.objs.size := fun p hp => Heap.lt_size (N p hp).1
    refine ⟨_, _, m₀, ps, (s.heap.objs.size, { cls := .type "list_iterator", data := .fields #[.ref l, .int 0 0] }) :: others, _, rfl, F.push _, ?_, ?_, TI.mono fun p hp => .tail _ hp, fun p hp => .tail _ hp, .head _, rfl, rfl, fun _ _ => rfl⟩
    · intro p hp
      refine NP p ?_
      rcases List.mem_cons.mp hp with rfl | hp
      · exact .tail _ (.head _)
      · rcases List.mem_cons.mp hp with rfl | hp
        · exact .head _
        · exact .tail _ (.tail _ hp)
    · intro p hp
      rcases List.mem_cons.mp hp with rfl | hp
      · exact Nat.ne_of_gt (hlt _ (.head _))
      · exact h163 p hp
end
theorem place_top {w : World} {mg mb : Str → Option Value} {mean : ExcName → Option Value} {A₀ : Around} {h₀ : Heap} {L : Addr} {m : Str → Option Value} {cs : Scope} {dp un : Nat}
    {gd : Option (List Code)} {cn : Str} {a : Addr} {ccd : Value} {cl : List (Str × Addr)} {s : Shared} {Q E : Value → Shared → Prop} {ps : Array Value} {rest : List (Addr × Obj)}
    {bs : Array UInt8} {ks : List Int} {pl : Int} {tb tp : Tok}
    (B : Below A₀ h₀ [] h₀) (F : Fr h₀ L s.heap m) (X : (KK w).In h₀) (N : News h₀ L s.heap ((163, tabObj ps) :: rest)) (T : Top topProg LO mean mg mb h₀) (codeHd : CodeHd h₀ 167 163)
    (hk : cs.kind = .function) (hd : dp + 20 < recursionLimit) (hu : un + 400 < cLine) (hr : ∀ p ∈ rest, p.1 ≠ 163) (TI : TabInv (Str.ofString "_law_place_right.<locals>.<lambda>") ps rest)
    (hks : KBw.bInts bs = ks) (hlen : ks.length < 1000) (hp : -1000 < pl) (hp' : pl < 1000)
    (hret : ∀ h' tk' ps' rest', Fr h₀ L h' m → News h₀ L h' ((163, tabObj ps') :: rest') → (∀ p ∈ rest', p.1 ≠ 163) → TabInv (Str.ofString "_law_place_right.<locals>.<lambda>") ps' rest' →
      (∀ p ∈ rest, p ∈ rest') → Q (.bool true) { s with heap := h', toks := tk' }) :
    wpAny (model PR w) (ktrTop dp un gd cn cs L a ccd cl []) (call (.ref 168) [.bytes bs tb, .int pl tp]) Q E s := by
  refine place_ok B F X N T codeHd hk hd hu hr TI hks hlen hp hp' fun h₀' h' tk' ps' rest' Tt B' F' N' hr' TI' sub => hret h' tk' ps' rest' ⟨F'.ns, fun b o e => F'.keep b o (Tt.other b o e (fun q => nomatch q)), by rw [← Tt.size]; exact F'.above⟩ (fun p hp => ⟨(N' p hp).1, (N' p hp).2.1, ?_⟩) hr' TI' sub
  cases q : h₀.get? p.1 with
  | none => rfl
  | some o =>
    have := Tt.other _ _ q (fun q => nomatch q)
    rw [(N' p hp).2.2] at this
    cases this
end Mine
end
section
open PySem PySem.W PySem.Spec PySem.Calls PyProof.Rows
set_option maxRecDepth 100000
set_option maxHeartbeats 1000000
namespace Mine
section
variable {prog : Program} {w : World} {A : Around} {E : Value → Shared → Prop} {s : Shared} {h₀ : Heap} {L a b : Addr} {news : List (Addr × Obj)}
theorem eqBool_bytes {x : Array UInt8} {t u : Tok} {Q : Bool → Shared → Prop} (h : Q true s) : wpAny (model prog w) A (eqBool (.bytes x t) (.bytes x u)) Q E s := by
  unfold eqBool
  show wpAny _ _ (if (Value.bytes x t == Value.bytes x u) = true then _ else _) Q E s
  by_cases hab : (Value.bytes x t == Value.bytes x u) = true
  · rw [if_pos hab]
    exact wpAny_bind (wpAny_rule (wpAny_pure h))
  · rw [if_neg hab]
    refine wpAny_bind (eq_bytes ?_)
    exact wpAny_truthy_bool (by simpa using h)
theorem eqAt_bytes {x : Array UInt8} {t u : Tok} : SeqAt.EqAt A s (.bytes x t) (.bytes x u) true := fun prog w E Q h => eqBool_bytes h
theorem eqAt_int {x y : Int} {t u : Tok} (e : x = y) : SeqAt.EqAt A s (.int x t) (.int y u) true := by
  have := SeqAt.EqAt.int_int (A := A) (s := s) x t y u
  rw [show (x == y) = true by simp [e]] at this
  exact this
theorem ne_same3 {v₁ v₂ v₃ u₁ u₂ u₃ : Value} {n : Nat} {Q : Value → Shared → Prop} (N : News h₀ L s.heap news) (ha : (a, listOf #[v₁, v₂, v₃] n) ∈ news) (hb : (b, LCg.lst [u₁, u₂, u₃]) ∈ news) (hu : A.units < cLine)
    (e1 : SeqAt.EqAt A.in1 s v₁ u₁ true) (e2 : SeqAt.EqAt A.in1 s v₂ u₂ true) (e3 : SeqAt.EqAt A.in1 s v₃ u₃ true) (h : Q (.bool false) s) :
    wpAny (model prog w) A (compareOp .NotEq (.ref a) (.ref b)) Q E s := by
  have hl : s.heap.IsList a #[v₁, v₂, v₃] := ⟨_, (N _ ha).1, rfl, n, rfl⟩
  have hl2 : s.heap.IsList b #[u₁, u₂, u₃] := ⟨_, (N _ hb).1, rfl, _, rfl⟩
  refine cmp_ofNotEq (SeqAt.RcNeAt.lists (e := fun _ => true) hl hl2 rfl hu ?_ prog w E Q h)
  intro j h1 h2
  rcases j with _ | _ | _ | j
  · exact e1
  · exact e2
  · exact e3
  · simp at h1; omega
end
end Mine
end
section
open PySem PySem.W PySem.Spec PySem.Calls PyProof.Rows
set_option maxRecDepth 100000
set_option maxHeartbeats 1000000
namespace Mine
theorem small10 {b : Int} (h1 : 0 ≤ b) (h3 : b < 10) : Builtin.Range.small 0 b 1 = true ∧ Builtin.Range.rangeSize 0 b 1 = b := by
  rcases (show b = 0 ∨ b = 1 ∨ b = 2 ∨ b = 3 ∨ b = 4 ∨ b = 5 ∨ b = 6 ∨ b = 7 ∨ b = 8 ∨ b = 9 by omega) with rfl | rfl | rfl | rfl | rfl | rfl | rfl | rfl | rfl | rfl <;> decide +kernel
theorem News.tl {g h : Heap} {L : Addr} {p : Addr × Obj} {r : List (Addr × Obj)} (N : News g L h (p :: r)) : News g L h r := fun q hq => N q (.tail _ hq)
section
variable {prog : Program} {w : World} {A : Around} {E : Value → Shared → Prop} {s : Shared} {h₀ : Heap} {L : Addr} {m : Str → Option Value} {env : Env}
theorem compRest_inv {elt : PySem.Expr} {x : Str} {scope : Scope} {cl : List (Str × Addr)} {S : List (Addr × Obj) → Prop} {P : Nat → Value → Prop} {Fin : List Value → List (Addr × Obj) → Prop} (J : Nat → List Value → List (Addr × Obj) → Prop) (n : Nat)
    (step : ∀ i ys news, i < n → J i ys news → ∀ v I oI C oC D (m₂ : Str → Option Value) h tk (E' : Value → Shared → Prop), P i v → LCg.NsObj oC m₂ → m₂ x = some v → Fr h₀ L h m → News h₀ L h ((I, oI) :: (C, oC) :: (D, LCg.lst ys) :: news) → LCg.Off3 I C D news → ((@Ne Nat I C) ∧ (@Ne Nat I D) ∧ (@Ne Nat C D)) →
      wpAny (model prog w) A (eval elt (compEnvC scope cl C env)) (LCg.CompEnd h₀ L m { s with heap := h, toks := tk } I oI C oC D (LCg.lst ys) S (fun y news' => J (i + 1) (ys ++ [y]) news')) E' { s with heap := h, toks := tk })
    (fin : ∀ ys news, J n ys news → Fin ys news) : ∀ k i ys news, i + k = n → J i ys news → LCg.CompRest prog w A h₀ L m env elt x scope cl s S P Fin k i ys news := by
  intro k
  induction k with
  | zero =>
    intro i ys news h hj
    have e : i = n := by omega
    subst e
    exact fin _ _ hj
  | succ k ih =>
    intro i ys news h hj v I oI C oC D m₂ hp tk E' h1 h2 h3 h4 h5 h6 h7
    refine wpAny_mono (step i ys news (by omega) hj v I oI C oC D m₂ hp tk E' h1 h2 h3 h4 h5 h6 h7) (fun y s' hy => ?_) fun _ _ e => e
    obtain ⟨h', tk', news', e, F, N, off, hS, r⟩ := hy
    exact ⟨h', tk', news', e, F, N, off, hS, ih (i + 1) _ _ (by omega) r⟩

def OctEnd (h₀ : Heap) (L : Addr) (m : Str → Option Value) (s₁ : Shared) (I : Addr) (oI : Obj) (C : Addr) (oC : Obj) (D : Addr) (oD : Obj) (D0 : Addr) (k : Nat) (post : List (Addr × Obj)) (y' : Value) (s' : Shared) : Prop :=
  ∃ (e : Int) (te : Tok) (h' : Heap) (tk' : Nat) (x' : Int) (tx' : Tok) (y'' : Int) (ty' : Tok), y' = .int e te ∧ s' = { s₁ with heap := h', toks := tk' } ∧ Fr h₀ L h' m ∧ News h₀ L h' ((I, oI) :: (C, oC) :: (D, oD) :: (D0, listOf #[.int x' tx', .int y'' ty'] k) :: post) ∧
    0 ≤ e ∧ e < 256 ∧ 0 ≤ x' ∧ 0 ≤ y'' ∧ y'' < 2147483647
theorem OctEnd.intro {s₁ : Shared} {I C D D0 : Addr} {oI oC oD : Obj} {k : Nat} {post : List (Addr × Obj)} {e : Int} {te : Tok} {h' : Heap} {tk' : Nat} {x' : Int} {tx' : Tok} {y'' : Int} {ty' : Tok} {q : Addr × Obj}
    (F : Fr h₀ L h' m) (N : News h₀ L h' (q :: (I, oI) :: (C, oC) :: (D, oD) :: (D0, listOf #[.int x' tx', .int y'' ty'] k) :: post)) (h1 : 0 ≤ e) (h2 : e < 256) (h3 : 0 ≤ x') (h4 : 0 ≤ y'') (h5 : y'' < 2147483647) :
    OctEnd h₀ L m s₁ I oI C oC D oD D0 k post (.int e te) { s₁ with heap := h', toks := tk' } := ⟨e, te, h', tk', x', tx', y'', ty', rfl, rfl, F, fun p hp => N p (.tail _ hp), h1, h2, h3, h4, h5⟩

theorem compSrc_oct {elt : PySem.Expr} {x : Str} {scope : Scope} {cl : List (Str × Addr)} {Q : Value → Shared → Prop} {r D0 : Addr} {b : Int} {t u v : Tok} {post : List (Addr × Obj)} {xx yy : Int} {tx ty : Tok} {k : Nat}
    (hh : A.handled = none) (F : Fr h₀ L s.heap m) (N : News h₀ L s.heap ((D0, listOf #[.int xx tx, .int yy ty] k) :: post)) (hr : IsRange s.heap r 0 b 1 t u v) (hb0 : 0 ≤ b) (hb : b < 10) (hx : 0 ≤ xx) (hy : 0 ≤ yy) (hy' : yy < 2147483647)
    (step : ∀ (g : Heap) ys xx tx yy ty, 0 ≤ xx → 0 ≤ yy → yy < 2147483647 → ∀ I oI C oC D (m₂ : Str → Option Value) h tk (E' : Value → Shared → Prop), LCg.NsObj oC m₂ → Fr h₀ L h m →
      News h₀ L h ((I, oI) :: (C, oC) :: (D, LCg.lst ys) :: (D0, listOf #[.int xx tx, .int yy ty] k) :: post) → LCg.Off3 I C D ((D0, listOf #[.int xx tx, .int yy ty] k) :: post) → ((@Ne Nat I C) ∧ (@Ne Nat I D) ∧ (@Ne Nat C D)) →
      wpAny (model prog w) A (eval elt (compEnvC scope cl C env)) (OctEnd h₀ L m { s with heap := h, toks := tk } I oI C oC D (LCg.lst ys) D0 k post) E' { s with heap := h, toks := tk })
    (fin : ∀ (g : Heap) ys ns xx tx yy ty, IntsAre ys ns → ns.length < 10 → KBa.In ns → 0 ≤ xx → 0 ≤ yy → yy < 2147483647 → ∀ D h tk, Fr h₀ L h m →
      News h₀ L h ((D, LCg.lst ys) :: (D0, listOf #[.int xx tx, .int yy ty] k) :: post) → LCg.Off1 D ((D0, listOf #[.int xx tx, .int yy ty] k) :: post) → Q (.ref D) { s with heap := h, toks := tk }) :
    LCg.CompSrc prog w A h₀ L m env elt x scope cl (fun s₂ => LCg.FinE h₀ L m s₂ Q) (.ref r) s := by
  obtain ⟨hsm, hsz⟩ := small10 hb0 hb
  obtain ⟨n, rfl⟩ := Int.eq_ofNat_of_zero_le hb0
  refine LCg.CompSrc.range hh F N hr hsm hsz (by rw [sizeLine_eq]; omega) fun g => ?_
  refine compRest_inv (s := { s with heap := g }) (fun i ys news => ∃ ns xx tx yy ty, news = (D0, listOf #[.int xx tx, .int yy ty] k) :: post ∧ IntsAre ys ns ∧ ns.length = i ∧ KBa.In ns ∧ 0 ≤ xx ∧ 0 ≤ yy ∧ yy < 2147483647) n ?_ ?_ n 0 [] _ (by omega) ⟨[], xx, tx, yy, ty, rfl, .nil, rfl, (fun _ h => nomatch h), hx, hy, hy'⟩
  · rintro i ys news hi ⟨ns, xx, tx, yy, ty, rfl, hI, hl, hin, hx, hy, hy'⟩ v I oI C oC D m₂ h tk E' _ hC _ F' N' off ne
    refine wpAny_mono (step g ys xx tx yy ty hx hy hy' I oI C oC D m₂ h tk E' hC F' N' off ne) (fun y s' hy => ?_) fun _ _ e => e
    obtain ⟨e, te, h', tk', x', tx', y'', ty', rfl, rfl, F₂, N₂, q1, q2, q3, q4, q5⟩ := hy
    refine ⟨h', tk', _, rfl, F₂, N₂, off, trivial, ns ++ [e], x', tx', y'', ty', rfl, hI.append (.cons _ _ .nil), by rw [List.length_append, hl]; rfl, ?_, q3, q4, q5⟩
    intro a ha
    rcases List.mem_append.mp ha with ha | ha
    · exact hin a ha
    · rw [List.mem_singleton.mp ha]; exact ⟨q1, q2⟩
  · rintro ys news ⟨ns, xx, tx, yy, ty, rfl, hI, hl, hin, hx, hy, hy'⟩ D h tk F' N' o1
    exact fin g ys ns xx tx yy ty hI (by omega) hin hx hy hy' D h tk F' N' o1
end
end Mine
end
section
open PySem PySem.W PySem.Spec PySem.Calls PyProof.Rows
set_option maxRecDepth 100000
set_option maxHeartbeats 1000000
namespace Mine
theorem pl_sub {p a b c d e f : Addr × Obj} {rest : List (Addr × Obj)} (h : p ∈ f :: a :: c :: d :: e :: rest) : p ∈ a :: b :: c :: d :: e :: f :: rest := by
  simp only [List.mem_cons] at h ⊢
  rcases h with h | h | h | h | h | h <;> simp [h]
theorem pl_news {g h : Heap} {L : Addr} {a b c d e f : Addr × Obj} {rest : List (Addr × Obj)} (N : News g L h (a :: b :: c :: d :: e :: f :: rest)) : News g L h (f :: a :: c :: d :: e :: rest) := fun _ hp => N _ (pl_sub hp)
theorem all4 {a b c d : Addr} {oa ob oc od : Obj} {x : Addr} {rest : List (Addr × Obj)} (ha : @Ne Nat a x) (hb : @Ne Nat b x) (hc : @Ne Nat c x) (hd : @Ne Nat d x) (hr : ∀ p ∈ rest, p.1 ≠ x) : ∀ p ∈ (a, oa) :: (b, ob) :: (c, oc) :: (d, od) :: rest, p.1 ≠ x := by
  intro p hp
  rcases List.mem_cons.mp hp with rfl | hp
  · exact ha
  · rcases List.mem_cons.mp hp with rfl | hp
    · exact hb
    · rcases List.mem_cons.mp hp with rfl | hp
      · exact hc
      · rcases List.mem_cons.mp hp with rfl | hp
        · exact hd
        · exact hr p hp
theorem end_news {g h : Heap} {L : Addr} {a b c d e : Addr × Obj} {rest : List (Addr × Obj)} (N : News g L h (a :: b :: c :: d :: e :: rest)) : News g L h (e :: c :: d :: rest) := by
  intro p hp
  refine N p ?_
  simp only [List.mem_cons] at hp ⊢
  rcases hp with h | h | h | h <;> simp [h]
theorem all2 {a b : Addr} {oa ob : Obj} {x : Addr} {rest : List (Addr × Obj)} (ha : @Ne Nat a x) (hb : @Ne Nat b x) (hr : ∀ p ∈ rest, p.1 ≠ x) : ∀ p ∈ (a, oa) :: (b, ob) :: rest, p.1 ≠ x := by
  intro p hp
  rcases List.mem_cons.mp hp with rfl | hp
  · exact ha
  · rcases List.mem_cons.mp hp with rfl | hp
    · exact hb
    · exact hr p hp
theorem rng_end {g h : Heap} {L I l cS cN : Addr} {b : Int} {qual y : Str} {s : Shared} {i tk : Nat} {m : Str → Option Value} {ps : Array Value} {q1 q2 : Addr × Obj} {oN oS : Obj} {vN vS : Option Value} {rest : List (Addr × Obj)}
    (F : Fr g L h m) (N : News g L h (q1 :: q2 :: (cN, oN) :: (cS, oS) :: (163, tabObj ps) :: rest)) (dN : oN.data = .cell vN) (dS : oS.data = .cell vS) (hN : @Ne Nat cN 163) (hS : @Ne Nat cS 163) (n1 : ∀ p ∈ rest, p.1 ≠ 163) (TI : TabInv qual ps rest)
    (mI : (I, riter (i : Nat) (b - (i : Nat))) ∈ rest) (hy : m y = some (.ref l)) : RngSt g L I l cS cN b qual y s i { s with heap := h, toks := tk } :=
  ⟨h, tk, m, ps, _, oS, oN, vS, vN, rfl, F, end_news N, all2 hN hS n1, TI.mono fun p hp => .tail _ (.tail _ hp), .tail _ (.tail _ mI), .tail _ (.head _), dS, .head _, dN, hy⟩
theorem four_items {a b c d : Int} {t u x y : Tok} {i : Nat} {v : Value} (hv : (#[Value.int a t, .int b u, .int c x, .int d y] : Array Value)[i]? = some v)
    (ha : -1000 < a) (ha' : a < 1000) (hb : -1000 < b) (hb' : b < 1000) (hc : -1000 < c) (hc' : c < 1000) (hd : -1000 < d) (hd' : d < 1000) : ∃ pl t, v = .int pl t ∧ -1000 < pl ∧ pl < 1000 := by
  rcases i with _ | _ | _ | _ | i
  · exact ⟨a, t, by simpa using hv.symm, ha, ha'⟩
  · exact ⟨b, u, by simpa using hv.symm, hb, hb'⟩
  · exact ⟨c, x, by simpa using hv.symm, hc, hc'⟩
  · exact ⟨d, y, by simpa using hv.symm, hd, hd'⟩
  · simp at hv
theorem after_place {g h : Heap} {L D0 cN cS I : Addr} {ps : Array Value} {rest : List (Addr × Obj)} {qual : Str} {its : Array Value} {k : Nat} {oN oS : Obj} {vN vS : Option Value} {aa bb : Int}
    (N : News g L h ((163, tabObj ps) :: rest)) (h163 : ∀ p ∈ rest, p.1 ≠ 163) (TI : TabInv qual ps rest) (mD : (D0, listOf its k) ∈ rest) (mN : (cN, oN) ∈ rest) (dN : oN.data = .cell vN) (mS : (cS, oS) ∈ rest) (dS : oS.data = .cell vS)
    (mI : (I, riter aa bb) ∈ rest) :
    ∃ rest', News g L h ((D0, listOf its k) :: (cN, oN) :: (cS, oS) :: (163, tabObj ps) :: rest') ∧ (∀ p ∈ rest', p.1 ≠ D0) ∧ (∀ p ∈ rest', p.1 ≠ cN) ∧ (∀ p ∈ rest', p.1 ≠ cS) ∧ (∀ p ∈ rest', p.1 ≠ 163) ∧ TabInv qual ps rest' ∧ (I, riter aa bb) ∈ rest' := by
  let keepB : Addr × Obj → Bool := fun p => p.1 != D0 && (p.1 != cN && p.1 != cS)
  have hkb : ∀ p, keepB p = true ↔ (p.1 ≠ D0 ∧ p.1 ≠ cN ∧ p.1 ≠ cS) := by
    intro p; simp only [keepB, Bool.and_eq_true, bne_iff_ne]
  have notL : ∀ {c' : Addr} {oc : Obj} {vs : Array Value}, (c', oc) ∈ rest → oc.data = .fields vs → c' ≠ D0 := by
    rintro c' oc vs hm hd rfl
    have := uniq N (.tail _ hm) (.tail _ mD)
    rw [this] at hd
    cases hd
  refine ⟨rest.filter keepB, ?_, ?_, ?_, ?_, ?_, ?_, ?_⟩
  · intro p hp
    rcases List.mem_cons.mp hp with rfl | hp
    · exact N _ (.tail _ mD)
    · rcases List.mem_cons.mp hp with rfl | hp
      · exact N _ (.tail _ mN)
      · rcases List.mem_cons.mp hp with rfl | hp
        · exact N _ (.tail _ mS)
        · rcases List.mem_cons.mp hp with rfl | hp
          · exact N _ (.head _)
          · exact N _ (.tail _ (List.mem_filter.mp hp).1)
  · exact fun p hp => ((hkb p).mp (List.mem_filter.mp hp).2).1
  · exact fun p hp => ((hkb p).mp (List.mem_filter.mp hp).2).2.1
  · exact fun p hp => ((hkb p).mp (List.mem_filter.mp hp).2).2.2
  · exact fun p hp => h163 p (List.mem_filter.mp hp).1
  · refine ⟨TI.tri, fun pos cv e => ?_⟩
    obtain ⟨c', rfl, oc, vs, t, hm, hd, hv⟩ := TI.hit pos cv e
    exact ⟨c', rfl, oc, vs, t, List.mem_filter.mpr ⟨hm, (hkb _).mpr ⟨notL hm hd, cellNotRec N hm hd mN dN, cellNotRec N hm hd mS dS⟩⟩, hd, hv⟩
  · exact List.mem_filter.mpr ⟨mI, (hkb _).mpr ⟨notL mI rfl, cellNotRec N mI rfl mN dN, cellNotRec N mI rfl mS dS⟩⟩
theorem turn_eq {w v : Int} (e : v = (w.fmod 65536) % 256 * 256 + (w.fmod 65536) / 256) : v = w.fmod 256 * 256 + (w.fdiv 256).fmod 256 := by
  subst e
  rw [Int.fmod_eq_emod_of_nonneg _ (show (0:Int) ≤ 65536 by decide), Int.fmod_eq_emod_of_nonneg _ (show (0:Int) ≤ 256 by decide), Int.fmod_eq_emod_of_nonneg _ (show (0:Int) ≤ 256 by decide), Int.fdiv_eq_ediv_of_nonneg _ (show (0:Int) ≤ 256 by decide)]
  omega
theorem fm_lo (w : Int) : 0 ≤ w.fmod 65536 := Int.fmod_nonneg_of_pos _ (by decide)
theorem fm_hi (w : Int) : w.fmod 65536 < 65536 := Int.fmod_lt_of_pos _ (by decide)
end Mine
end
section
open PySem PySem.W PySem.Spec PySem.Calls PyProof.Rows
set_option maxRecDepth 100000
set_option maxHeartbeats 0
namespace Mine
def half4 (k : Int) : Int := (rangeKs 0 4).foldl (fun a _ => halfOf a) k
theorem bnd_k {n : Nat} (h : n ≤ 63) : 1 ≤ (if (if 3 < (n : Int) then 3 else (n : Int)) > 1 then if 3 < (n : Int) then 3 else (n : Int) else 1) ∧ (if (if 3 < (n : Int) then 3 else (n : Int)) > 1 then if 3 < (n : Int) then 3 else (n : Int) else 1) ≤ 3 := by
  constructor <;> repeat' split
  all_goals omega
theorem two_163 {n : Nat} {o o' : Obj} (h : @LT.lt Nat _ 163 n) : ∀ p ∈ [((n + 1 + 1 : Nat), o), ((n + 1 : Nat), o')], @Ne Nat p.1 163 := by
  intro p hp
  simp only [List.mem_cons, List.not_mem_nil, or_false] at hp
  rcases hp with rfl | rfl <;> (dsimp only; omega)
theorem two_sub {p : Addr × Obj} {a b c d e : Addr × Obj} {q : Addr × Obj} (h : p ∈ [q, d, e]) : p ∈ [a, b, c, d, e, q] := by
  simp only [List.mem_cons, List.not_mem_nil, or_false] at h ⊢
  rcases h with rfl | rfl | rfl <;> simp
local macro_rules | `(tactic| walk_at $s:str) => `(tactic| k_extra $s)
theorem mem_due {D : Addr} {v : Value} {us : List Value} {nn : Nat} {a b c : Addr × Obj} {own : List (Addr × Obj)} (p : Addr × Obj) (hp : p ∈ [(D, listOf (us ++ [v]).toArray nn), a, b, c]) : p ∈ (D, listOf (us.toArray.push v) nn) :: a :: b :: c :: own := by
  rw [List.push_toArray]; exact List.mem_append_left own hp
theorem half_o {n : Int} (h : n.fmod 2 = 1) : Builtin.bitXor (n.fdiv 2) 3988292384 = halfOf n := by
  rw [Int.fmod_eq_emod_of_nonneg _ (by decide)] at h
  rw [Int.fdiv_eq_ediv_of_nonneg _ (by decide)]; unfold halfOf; rw [if_pos h]
theorem half_e {n : Int} (h : ¬ n.fmod 2 = 1) : n.fdiv 2 = halfOf n := by
  rw [Int.fmod_eq_emod_of_nonneg _ (by decide)] at h
  rw [Int.fdiv_eq_ediv_of_nonneg _ (by decide)]; unfold halfOf; rw [if_neg h]
theorem due_size {us : List Value} {l : List Int} (h : IntsAre us l) (hl : l.length ≤ ([] : List Int).length + 16) : us.toArray.size ≤ sizeLine := by
  have := h.length
  rw [sizeLine_eq, List.size_toArray]
  simp only [List.length_nil] at hl
  omega
theorem lt_ss {n : Nat} : @LT.lt Nat _ (n + 1) (n + 1 + 1) := Nat.lt_succ_self _
theorem six_ints : KBw.bInts #[(Int.toNat 1).toUInt8, (Int.toNat 0).toUInt8, (Int.toNat 0).toUInt8, (Int.toNat 0).toUInt8, (Int.toNat 0).toUInt8, (Int.toNat 2).toUInt8] = [1, 0, 0, 0, 0, 2] := by decide
theorem six_val : N48 [1, 0, 0, 0, 0, 2] 0 = 1099511627778 := by decide
local macro_rules | `(tactic| k_all) => `(tactic| assumption)
section
variable {prog : Program} {w : World} {A : Around} {E : Value → Shared → Prop} {s : Shared} {Q : Value → Shared → Prop} {t u : Tok}
theorem pow_2_31 (h : Q (.int 2147483648 s.toks) { s with toks := s.toks + 1 }) : wpAny (model prog w) A (binaryOp .Pow (.int 2 t) (.int 31 u)) Q E s :=
  pow_int_small (by decide) (by decide) (by decide) (by rw [show (2 : Int) ^ Int.toNat 31 = 2147483648 by decide]; exact h)
theorem pow_2_32 (h : Q (.int 4294967296 s.toks) { s with toks := s.toks + 1 }) : wpAny (model prog w) A (binaryOp .Pow (.int 2 t) (.int 32 u)) Q E s :=
  pow_int_small (by decide) (by decide) (by decide) (by rw [show (2 : Int) ^ Int.toNat 32 = 4294967296 by decide]; exact h)
theorem pow_2_48 (h : Q (.int 281474976710656 s.toks) { s with toks := s.toks + 1 }) : wpAny (model prog w) A (binaryOp .Pow (.int 2 t) (.int 48 u)) Q E s :=
  pow_int_small (by decide) (by decide) (by decide) (by rw [show (2 : Int) ^ Int.toNat 48 = 281474976710656 by decide]; exact h)
theorem pow_256_2 (h : Q (.int 65536 s.toks) { s with toks := s.toks + 1 }) : wpAny (model prog w) A (binaryOp .Pow (.int 256 t) (.int 2 u)) Q E s :=
  pow_int_small (by decide) (by decide) (by decide) (by rw [show (256 : Int) ^ Int.toNat 2 = 65536 by decide]; exact h)
theorem pow_256_4 (h : Q (.int 4294967296 s.toks) { s with toks := s.toks + 1 }) : wpAny (model prog w) A (binaryOp .Pow (.int 256 t) (.int 4 u)) Q E s :=
  pow_int_small (by decide) (by decide) (by decide) (by rw [show (256 : Int) ^ Int.toNat 4 = 4294967296 by decide]; exact h)
theorem pow_256_6 (h : Q (.int 281474976710656 s.toks) { s with toks := s.toks + 1 }) : wpAny (model prog w) A (binaryOp .Pow (.int 256 t) (.int 6 u)) Q E s :=
  pow_int_small (by decide) (by decide) (by decide) (by rw [show (256 : Int) ^ Int.toNat 6 = 281474976710656 by decide]; exact h)
theorem mul_gen {a b : Int} (hv : b = 1 ∨ b = 1 ∨ b = -1) (ha0 : 0 ≤ a) (ha : a < 4611686018427387904)
    (h : ∀ x t' tk', -4611686018427387904 < x → x < 4611686018427387904 → Q (.int x t') { s with toks := tk' }) : wpAny (model prog w) A (binaryOp .Mult (.int a t) (.int b u)) Q E s :=
  mul_int (h _ _ _ (by rcases hv with rfl | rfl | rfl <;> omega) (by rcases hv with rfl | rfl | rfl <;> omega)) (PySem.IntMulOk.of_right (PySem.intBits_le_64 (by omega) (by omega)))
end
theorem num_lo {a b : Int} (h : 0 ≤ a) (h' : 0 ≤ b) : 0 ≤ a * 2147483648 + b := by omega
theorem num_hi {a b : Int} (h : a < 2147483648) (h' : b < 2147483648) : a * 2147483648 + b < 4611686018427387904 := by omega
theorem num_in {n x : Int} (h : n = x ∨ n = x ∨ n = 0 ∨ n = -1 ∨ n = 65535 ∨ n = 65536 ∨ n = 4294967296 - 1 ∨ n = 281474976710656) (h1 : -4611686018427387904 < x) (h2 : x < 4611686018427387904) : -4611686018427387904 < n ∧ n < 4611686018427387904 := by omega
theorem fm2 (n : Int) : n % 65536 = n.fmod 65536 := (Int.fmod_eq_emod_of_nonneg _ (by decide)).symm
theorem fm4 (n : Int) : n % 4294967296 = n.fmod 4294967296 := (Int.fmod_eq_emod_of_nonneg _ (by decide)).symm
theorem fm6 (n : Int) : n % 281474976710656 = n.fmod 281474976710656 := (Int.fmod_eq_emod_of_nonneg _ (by decide)).symm
theorem ints3 {a b c : Int} {t u v : Tok} : IntsAre (#[Value.int a t, .int b u, .int c v] : Array Value).toList [a, b, c] := .cons _ _ (.cons _ _ (.cons _ _ .nil))
theorem ints4 {a b c d : Int} {t u v x : Tok} : IntsAre (#[Value.int a t, .int b u, .int c v, .int d x] : Array Value).toList [a, b, c, d] := .cons _ _ (.cons _ _ (.cons _ _ (.cons _ _ .nil)))
theorem ints8 {a b c d e f g h : Int} {t u v x t' u' v' x' : Tok} : IntsAre (#[Value.int a t, .int b u, .int c v, .int d x, .int e t', .int f u', .int g v', .int h x'] : Array Value).toList [a, b, c, d, e, f, g, h] := .cons _ _ (.cons _ _ (.cons _ _ (.cons _ _ (.cons _ _ (.cons _ _ (.cons _ _ (.cons _ _ .nil)))))))
theorem tail3 {a b c : Addr × Obj} {rest : List (Addr × Obj)} {D : Addr} (h : ∀ p ∈ a :: b :: c :: rest, p.1 < D) : ∀ p ∈ rest, p.1 ≠ D := fun p hp => Nat.ne_of_lt (h p (.tail _ (.tail _ (.tail _ hp))))
theorem no16 {n : Int} (h : (0:Int) < 0 ∨ ((B16 n).length : Int) < 0 + 2) : False := by simp [B16] at h
theorem no32 {n : Int} (h : (0:Int) < 0 ∨ ((B32 n).length : Int) < 0 + 4) : False := by simp [B32, B16] at h
theorem no48 {n : Int} (h : (0:Int) < 0 ∨ ((B48 n).length : Int) < 0 + 6) : False := by simp [B48, B32, B16] at h
theorem val16 (n : Int) : N16 (B16 n) 0 = n % 65536 := by
  show n / 256 % 256 * 256 + n % 256 = n % 65536
  omega
theorem val32 (n : Int) : N32 (B32 n) 0 = n % 4294967296 := by
  show (n / 65536 / 256 % 256 * 256 + n / 65536 % 256) * 65536 + (n / 256 % 256 * 256 + n % 256) = n % 4294967296
  omega
theorem val48 (n : Int) : N48 (B48 n) 0 = n % 281474976710656 := by
  show (n / 4294967296 / 256 % 256 * 256 + n / 4294967296 % 256) * 4294967296 + ((n / 65536 / 256 % 256 * 256 + n / 65536 % 256) * 65536 + (n / 256 % 256 * 256 + n % 256)) = n % 281474976710656
  omega
theorem octof_ok {w : World} {mg mb : Str → Option Value} {mean : ExcName → Option Value} {A₀ : Around} {base h₀ : Heap} {outer : List Env} {L : Addr} {m : Str → Option Value} {cs : Scope} {dp un : Nat}
    {gd : Option (List Code)} {cn : Str} {a : Addr} {ccd : Value} {cl : List (Str × Addr)} {s : Shared} {Q E : Value → Shared → Prop} {news : List (Addr × Obj)}
    {n k : Int} {r : List Int} {t t2 : Tok}
    (B : Below A₀ base outer h₀) (F : Fr h₀ L s.heap m) (X : (KK w).In h₀) (N : News h₀ L s.heap news) (T : Top topProg LO mean mg mb h₀)
    (hk : cs.kind = .function) (hd : dp + 5 < recursionLimit) (hu : un + 80 < cLine) (hkr : (k = 2 ∧ r = B16 n) ∨ (k = 4 ∧ r = B32 n) ∨ (k = 6 ∧ r = B48 n))
    (hret : ∀ t' h' tk', Fr h₀ L h' m → News h₀ L h' news → Q (.bytes (byteArr r) t') { s with heap := h', toks := tk' })
    : wpAny (model PR w) (ktrTop dp un gd cn cs L a ccd cl outer) (call (.ref 147) [.int n t, .int k t2]) Q E s := by
  rcases hkr with ⟨rfl, rfl⟩ | ⟨rfl, rfl⟩ | ⟨rfl, rfl⟩
  · exact octof2_ok B F X N T hk hd hu hret
  · exact octof4_ok B F X N T hk hd hu hret
  · exact octof6_ok B F X N T hk hd hu hret
structure Pruned : Prop where
theorem ne_self {prog : Program} {w : World} {A : Around} {E : Value → Shared → Prop} {s : Shared} {Q : Value → Shared → Prop} {a : Int} {t u : Tok} (h : Q (.bool false) s) : wpAny (model prog w) A (compareOp .NotEq (.int a t) (.int a u)) Q E s :=
  PyProof.Rows.ne_int (by rw [show (a != a) = false by simp]; exact h)
theorem go1 : PySem.Challenge.rw_on0334_01.Holds := hd (by
  k_with_none
  (k_with "pyIter ref" => ((k_here; k_dflt ((rename Fr _ _ _ _ => lF'); (rename News _ _ _ _ => lN'); (rename (IsRange _ _ 0 4 1 _ _ _) => rgX); (with_unfolding_all refine' range_word (n := 4) (y := Str.ofString "word") halfOf ?rg1x0 rgX ?rg2x0 ?rg3x0 lF' lN' ?rg4x0 (fun k' t' a' ta' h' tk' own' F' N' => ?_) (fun u' t' h' tk' F' N' => ?_)); (case rg1x0 => rfl); (case rg2x0 => decide); (case rg3x0 => decide +kernel); (case rg4x0 => with_unfolding_all rfl); (all_goals (try clear lF' lN')); (all_goals (try clear rgX)); (all_goals (try k_fold))))))
  (k_with "pyIter ref" => ((k_here; k_dflt ((rename Fr _ _ _ _ => lF'); (rename News _ _ _ _ => lN'); (rename (IsRange _ _ 0 16 1 _ _ _) => rgX); (with_unfolding_all refine' range_due (n := 16) (p := Str.ofString "word") (q := Str.ofString "turn") (us₀ := []) (l₀ := []) half4 ?rg1x1 rgX ?rg2x1 ?rg3x1 lF' lN' ?rg4x1 (fun k' t' us' nn' l' u' h' tk' own' hoff' hlen' hI' F' N' => ?_) (fun u' us' nn' h' tk' hI' F' N' => ?_)); (case rg1x1 => rfl); (case rg2x1 => decide); (case rg3x1 => decide +kernel); (case rg4x1 => exact IntsAre.nil); (all_goals (try clear lF' lN')); (all_goals (try clear rgX)); (all_goals (try simp only [List.cons_append, List.nil_append] at N')); (all_goals (try k_fold))))))
  (k_with "InvEndN" => ((k_dflt (refine InvEndN.intro (by assumption) (by assumption) ⟨rfl, ⟨_, _, by with_unfolding_all rfl, by first | exact half_o (by assumption) | exact half_e (by assumption)⟩, by (intro z h1 h2; first | rfl | (simp [h1, h2]; done) | (simp_all; done))⟩ rfl (fun p hp => List.mem_append_left _ hp) (fun p hp => List.mem_append_right _ hp)))))
  (k_with "InvEndN" => ((k_dflt (refine InvEndN.intro (by assumption) (by assumption) ⟨⟨_, _, rfl, IntsAre.append (by assumption) (.cons _ _ .nil)⟩, by (intro z h1 h2 h3; first | rfl | (simp [h1, h2, h3]; done) | (simp_all; done))⟩ rfl (fun p hp => mem_due p hp) (fun p hp => .tail _ (.tail _ (.tail _ (.tail _ hp))))))))
  (k_with "call builtin:list.append" => ((k_here; (with_reducible show wpAny _ _ (call (Value.builtin _) [Value.ref _, _]) _ _ _); k_dflt (refine' append_K ?k1x4 ?k2x4 ?k3x4 ?_ ?zx4; (case k1x4 => k_asm); (case k2x4 => k_asm); (case k3x4 => k_upd); (case zx4 => exact due_size (by assumption) (by assumption)); k_whole); intro h' F' N')))
  (k_with "call ref" => ((k_here; (with_reducible show wpAny _ _ (call (Value.ref 107) _) _ _ _); k_dflt (refine' table_ok ?k1x5 ?k2x5 ?k3x5 ?k4x5 ?k5x5 ?kax5 ?kbx5 ?kcx5 ?k6x5 ?k7x5 ?k8x5 (fun D' us' nn' h' tk' F' N' hI' lD' => ?_); (case k1x5 => k_asm); (case k2x5 => k_asm); (case k3x5 => k_asm); (case k4x5 => k_asm); (case k5x5 => k_asm); (case k6x5 => first | exact rfl | assumption); (case k7x5 => ktr_room); (case k8x5 => ktr_units); (case kax5 => exact Nat.lt_succ_of_lt (by assumption)); (case kbx5 => exact lt_ss); (case kcx5 => (rename (_ < _ ∧ _ < _ ∧ 163 < _) => lz; exact lz.1)); (try k_sweep); (try dsimp only); (try k_fold)))))
  (k_with "call ref" => ((k_here; (with_reducible show wpAny _ _ (call (Value.ref 95) _) _ _ _); k_dflt (refine' get48_ok ?k1x6 ?k2x6 ?k3x6 ?k4x6 ?k5x6 ?k6x6 ?k7x6 ?k8x6 ?k9x6 ?k10x6 (fun c1 c2 v' t' h' tk' ev' lo' hi' F' N' => ?_) (fun c1 e' g' h' tk' FG' R' U' => ?kex6); (case k1x6 => k_asm); (case k2x6 => k_asm); (case k3x6 => k_asm); (case k4x6 => k_asm); (case k5x6 => k_asm); (case k6x6 => first | exact rfl | assumption); (case k7x6 => ktr_room); (case k8x6 => ktr_units); (case k9x6 => exact six_ints); (case k10x6 => first | assumption | decide | omega); (case kex6 => (exfalso; revert c1; decide)); (replace ev' := ev'.trans six_val); (subst ev'); (try k_sweep); (try dsimp only); (try k_fold)))))
  (k_with "exec For Name Call cons nil" => ((k_here; (with_reducible show wpAny _ _ (exec (Stmt.For (PySem.Expr.Name (Str.ofString "k") _) _ _ _ _) _) _ _ _); k_dflt ((with_unfolding_all refine' wpAny_For ?k1x7 ?k2x7); (case k2x7 => intro _; rfl)))))
  (k_with "binaryOp Pow int int" => ((k_here; first | (with_reducible refine pow_2_31 ?_) | (with_reducible refine pow_2_32 ?_) | (with_reducible refine pow_2_48 ?_) | (with_reducible refine pow_256_2 ?_) | (with_reducible refine pow_256_4 ?_) | (with_reducible refine pow_256_6 ?_))))
  (k_with "binaryOp Mult int int" => ((k_here; k_dflt (refine' mul_gen (by assumption) (num_lo (by assumption) (by assumption)) (num_hi (by assumption) (by assumption)) (fun x' t' tk' lo' hi' => ?_)); (try dsimp only))))
  (k_with "call ref" => ((k_here; (with_reducible show wpAny _ _ (call (Value.ref 121) _) _ _ _); k_dflt (refine' pool_ok ?k1x10 ?k2x10 ?k3x10 ?k4x10 ?k5x10 ?k6x10 ?k7x10 ?k8x10 ?k9x10 ?kax10 ?kbx10 ?kcx10 ?kdx10 (fun D' x' tx' y' ty' h' tk' F' N' lD' hx' hy' hz' => ?_); (case k1x10 => k_asm); (case k2x10 => k_asm); (case k3x10 => k_asm); (case k4x10 => k_asm); (case k5x10 => k_asm); (case k6x10 => first | exact rfl | assumption); (case k7x10 => ktr_room); (case k8x10 => ktr_units); (case k9x10 => assumption); (case kax10 => assumption); (case kbx10 => omega); (case kcx10 => omega); (case kdx10 => omega); (have nD' := tail3 lD'); (try k_lt lD'); (try k_sweep); (try dsimp only); (try k_fold)))))
  (k_with "call ref" => ((k_here; (with_reducible show wpAny _ _ (call (Value.ref 128) _) _ _ _); k_dflt (refine' take_use ?k1x11 ?k2x11 ?k3x11 ?k4x11 ?k5x11 ?k6x11 ?k7x11 ?k8x11 ?k9x11 ?k10x11 ?k11x11 ?k12x11 ?k13x11 ?k14x11 ?_; (case k1x11 => k_asm); (case k2x11 => k_asm); (case k3x11 => k_asm); (case k4x11 => k_asm); (case k5x11 => k_asm); (case k6x11 => first | exact rfl | assumption); (case k7x11 => ktr_room); (case k8x11 => ktr_units); (case k9x11 => k_updF); (case k10x11 => first | assumption | omega); (case k11x11 => first | assumption | omega); (case k12x11 => first | assumption | omega); (case k13x11 => first | assumption | decide | omega); (case k14x11 => first | assumption | decide | omega); k_whole; intro v' t' x' tx' y' ty' h' tk' F' N' hx' hy' hz' hv' hw'; (try dsimp only at N'); (try k_sweep); (try dsimp only); (try k_fold)))))
  (k_with "call ref" => ((k_here; (with_reducible show wpAny _ _ (call (Value.ref 135) _) _ _ _); k_dflt (refine' one_use ?k1x12 ?k2x12 ?k3x12 ?k4x12 ?k5x12 ?k6x12 ?k7x12 ?k8x12 ?k9x12 ?kfx12 ?kgx12 ?khx12 ?kix12 ?kjx12 ?k10x12 ?k11x12 ?k12x12 (fun v' t' x' tx' y' ty' h' tk' F' N' hx' hy' hz' hv' => ?_); (case k1x12 => k_asm); (case k2x12 => k_asm); (case k3x12 => k_asm); (case k4x12 => k_asm); (case k5x12 => k_asm); (case k6x12 => first | exact rfl | assumption); (case k7x12 => ktr_room); (case k8x12 => ktr_units); (case k9x12 => k_updF); (case kfx12 => k_mem); (case kgx12 => k_ne); (case khx12 => first | exact ints3 | exact ints4 | exact ints8); (case kix12 => exact Nat.le_of_ble_eq_true rfl); (case kjx12 => exact Nat.le_of_ble_eq_true rfl); (case k10x12 => first | assumption | omega); (case k11x12 => first | assumption | omega); (case k12x12 => first | assumption | omega); (try simp only [List.mem_cons, List.not_mem_nil, or_false] at hv'); (try (have ⟨lo', hi'⟩ := num_in hv' (by assumption) (by assumption); clear hv')); (try dsimp only at N'); (try k_sweep); (try dsimp only); (try k_fold)))))
  (k_with "call ref" => ((k_here; (with_reducible show wpAny _ _ (call (Value.ref 53) _) _ _ _); k_dflt (refine' put16_ok ?k1x13 ?k2x13 ?k3x13 ?k4x13 ?k5x13 ?k6x13 ?k7x13 ?k8x13 (fun t' h' tk' F' N' => ?_); (case k1x13 => k_asm); (case k2x13 => k_asm); (case k3x13 => k_asm); (case k4x13 => k_asm); (case k5x13 => k_asm); (case k6x13 => first | exact rfl | assumption); (case k7x13 => ktr_room); (case k8x13 => ktr_units); (try k_sweep); (try dsimp only); (try k_fold)))))
  (k_with "call ref" => ((k_here; (with_reducible show wpAny _ _ (call (Value.ref 60) _) _ _ _); k_dflt (refine' put32_ok ?k1x14 ?k2x14 ?k3x14 ?k4x14 ?k5x14 ?k6x14 ?k7x14 ?k8x14 (fun t' h' tk' F' N' => ?_); (case k1x14 => k_asm); (case k2x14 => k_asm); (case k3x14 => k_asm); (case k4x14 => k_asm); (case k5x14 => k_asm); (case k6x14 => first | exact rfl | assumption); (case k7x14 => ktr_room); (case k8x14 => ktr_units); (try k_sweep); (try dsimp only); (try k_fold)))))
  (k_with "call ref" => ((k_here; (with_reducible show wpAny _ _ (call (Value.ref 67) _) _ _ _); k_dflt (refine' put48_ok ?k1x15 ?k2x15 ?k3x15 ?k4x15 ?k5x15 ?k6x15 ?k7x15 ?k8x15 (fun t' h' tk' F' N' => ?_); (case k1x15 => k_asm); (case k2x15 => k_asm); (case k3x15 => k_asm); (case k4x15 => k_asm); (case k5x15 => k_asm); (case k6x15 => first | exact rfl | assumption); (case k7x15 => ktr_room); (case k8x15 => ktr_units); (try k_sweep); (try dsimp only); (try k_fold)))))
  (k_with "call ref" => ((k_here; (with_reducible show wpAny _ _ (call (Value.ref 147) _) _ _ _); k_dflt (refine' octof_ok ?k1x16 ?k2x16 ?k3x16 ?k4x16 ?k5x16 ?k6x16 ?k7x16 ?k8x16 ?k9x16 (fun t' h' tk' F' N' => ?_); (case k1x16 => k_asm); (case k2x16 => k_asm); (case k3x16 => k_asm); (case k4x16 => k_asm); (case k5x16 => k_asm); (case k6x16 => first | exact rfl | assumption); (case k7x16 => ktr_room); (case k8x16 => ktr_units); (case k9x16 => first | exact .inl ⟨rfl, rfl⟩ | exact .inr (.inl ⟨rfl, rfl⟩) | exact .inr (.inr ⟨rfl, rfl⟩)); (try k_sweep); (try dsimp only); (try k_fold)))))
  (k_with "call ref" => ((k_here; (with_reducible show wpAny _ _ (call (Value.ref 81) _) _ _ _); k_dflt (refine' get16_ok ?k1x17 ?k2x17 ?k3x17 ?k4x17 ?k5x17 ?k6x17 ?k7x17 ?k8x17 (KBa.ints_make (B16_in _)) ?k10x17 (fun c1 c2 v' t' h' tk' ev' lo' hi' F' N' => ?_) (fun c1 e' g' h' tk' FG' R' U' => (no16 c1).elim); (case k1x17 => k_asm); (case k2x17 => k_asm); (case k3x17 => k_asm); (case k4x17 => k_asm); (case k5x17 => k_asm); (case k6x17 => first | exact rfl | assumption); (case k7x17 => ktr_room); (case k8x17 => ktr_units); (case k10x17 => exact Nat.le_of_ble_eq_true rfl); (replace ev' := ev'.trans (val16 _)); subst ev'; clear c1 c2; (try k_sweep); (try dsimp only); (try k_fold)))))
  (k_with "call ref" => ((k_here; (with_reducible show wpAny _ _ (call (Value.ref 88) _) _ _ _); k_dflt (refine' get32_ok ?k1x18 ?k2x18 ?k3x18 ?k4x18 ?k5x18 ?k6x18 ?k7x18 ?k8x18 (KBa.ints_make (B32_in _)) ?k10x18 (fun c1 c2 v' t' h' tk' ev' lo' hi' F' N' => ?_) (fun c1 e' g' h' tk' FG' R' U' => (no32 c1).elim); (case k1x18 => k_asm); (case k2x18 => k_asm); (case k3x18 => k_asm); (case k4x18 => k_asm); (case k5x18 => k_asm); (case k6x18 => first | exact rfl | assumption); (case k7x18 => ktr_room); (case k8x18 => ktr_units); (case k10x18 => exact Nat.le_of_ble_eq_true rfl); (replace ev' := ev'.trans (val32 _)); subst ev'; clear c1 c2; (try k_sweep); (try dsimp only); (try k_fold)))))
  (k_with "call ref" => ((k_here; (with_reducible show wpAny _ _ (call (Value.ref 95) _) _ _ _); k_dflt (refine' get48_ok ?k1x19 ?k2x19 ?k3x19 ?k4x19 ?k5x19 ?k6x19 ?k7x19 ?k8x19 (KBa.ints_make (B48_in _)) ?k10x19 (fun c1 c2 v' t' h' tk' ev' lo' hi' F' N' => ?_) (fun c1 e' g' h' tk' FG' R' U' => (no48 c1).elim); (case k1x19 => k_asm); (case k2x19 => k_asm); (case k3x19 => k_asm); (case k4x19 => k_asm); (case k5x19 => k_asm); (case k6x19 => first | exact rfl | assumption); (case k7x19 => ktr_room); (case k8x19 => ktr_units); (case k10x19 => exact Nat.le_of_ble_eq_true rfl); (replace ev' := ev'.trans (val48 _)); subst ev'; clear c1 c2; (try k_sweep); (try dsimp only); (try k_fold)))))
  (k_with "eval ListComp" => ((k_here; k_dflt (refine LCg.ListComp_U (F₀ := by k_asm) (by with_unfolding_all rfl) (by decide) (by rfl) (by decide) (by rfl) ?_); k_dflt lcg_toSrc)))
  (k_with "CompRest" => ((with_unfolding_all first | (refine LCg.CompRest.succ ?_; intro v' I' oI' C' oC' D' m' h' tk' E' hv' hC' hx' F' N' off' ne'; lcg_open hv') | refine LCg.CompRest.zero ?_)))
  (k_with "CompEnd" => ((k_dflt (refine LCg.CompEnd.intro (by assumption) (by k_asm) _ (fun _ hp => hp) (by assumption) (Or.inr ⟨_, by k_mem, rfl, _, rfl⟩) ?_))))
  (k_with "CompSrc" => ((k_here; k_dflt (refine LCg.CompSrc.ledger (by rfl) (by k_asm) (by k_asm) (by k_mem) (by exact Nat.le_of_ble_eq_true rfl) ?_; intro g'; lcg_lit))))
  (k_with "callWith ref" => ((k_here; k_dflt (first | (refine' callWith_K ?k1x24 ?k2x24 ?_; (case k1x24 => k_asm); (case k2x24 => k_is); k_whole) | (refine' callWith_K0 ?k1x24 ?k2x24 ?_; (case k1x24 => k_in); (case k2x24 => k_is); k_whole)))))
  (k_with "compareOp NotEq ref ref" => ((k_here; (with_reducible show wpAny _ _ (compareOp CmpOp.NotEq (Value.ref _) (Value.ref _)) _ _ _); k_dflt (refine' ne_same3 ?k1x25 ?k2x25 ?k3x25 ?k4x25 ?k5x25 ?k6x25 ?k7x25 ?_; (case k1x25 => k_asm); (case k2x25 => k_mem); (case k3x25 => k_mem); (case k4x25 => ktr_units); (case k5x25 => first | exact eqAt_bytes | exact eqAt_int (fm2 _)); (case k6x25 => first | exact eqAt_bytes | exact eqAt_int (fm4 _)); (case k7x25 => first | exact eqAt_bytes | exact eqAt_int (fm6 _))))))
  (k_with "exec Assign" => ((k_here; (with_reducible show wpAny _ _ (exec (Stmt.Assign [PySem.Expr.Name (Str.ofString "octets") _] _ _) _) _ _ _); (fail_if_success (with_reducible rename Pruned => prn)); (have prn := Pruned.mk); (with_reducible rename News _ _ _ _ => lN'); (replace lN' := News.tl (News.tl (News.tl (News.tl (News.tl (News.tl (News.tl (News.tl lN')))))))); (repeat (with_reducible rename LCg.Off3 _ _ _ _ => zz; clear zz)); (repeat (with_reducible rename LCg.NsObj _ _ => zz; clear zz)); (repeat (with_reducible rename getElem? _ _ = some _ => zz; clear zz)); (repeat (with_reducible rename LCg.Off1 _ _ => zz; clear zz)); (with_reducible rename _ ∧ _ => zz; clear zz))))
  (k_with "CompSrc" => ((k_here; k_dflt ((with_reducible rename Pruned => prn); (rename Fr _ _ _ _ => lF'); (rename News _ _ _ _ => lN'); (rename IsRange _ _ 0 _ 1 _ _ _ => rgX); (refine' compSrc_oct ?chx27 lF' lN' rgX ?c0x27 ?c1x27 ?c2x27 ?c3x27 ?c4x27 (fun g' ys' xx' tx' yy' ty' hx' hy' hz' I' oI' C' oC' D' m' h' tk' E' hC' F' N' off' ne' => ?_) (fun g' ys' ns' xx' tx' yy' ty' hI' hn' hB' hx' hy' hz' D' h' tk' F' N' o1' => ?_)); (case chx27 => rfl); (case c0x27 => assumption); (case c1x27 => assumption); (case c2x27 => assumption); (case c3x27 => assumption); (case c4x27 => assumption); (all_goals (clear lF' lN' rgX)); (all_goals (try (replace off' := And.left off'; clear ne'; dsimp only at off'))); (all_goals (try simp only [LCg.Off1] at o1'))))))
  (k_with "OctEnd" => ((k_dflt (refine OctEnd.intro (by assumption) (by assumption) ?o1x28 ?o2x28 ?o3x28 ?o4x28 ?o5x28; (case o1x28 => omega); (case o2x28 => omega); (case o3x28 => assumption); (case o4x28 => assumption); (case o5x28 => assumption)))))
  (k_with "exec For Name List cons nil" => ((k_here; k_dflt ((with_unfolding_all refine' wpAny_For ?k1x29 ?k2x29); (case k2x29 => intro _; rfl)))))
  (k_with "call ref" => ((k_here; (with_reducible show wpAny _ _ (call (Value.ref 168) _) _ _ _); k_dflt (refine' place_top ?k1x30 ?k2x30 ?k3x30 ?k4x30 ?k5x30 ?kcx30 ?k6x30 ?k7x30 ?k8x30 ?kax30 ?kbx30 ?kdx30 ?kex30 ?kfx30 ?kgx30 (fun h' tk' ps' rest' F' N' hr' TI' sub' => ?_); (case k1x30 => k_asm); (case k2x30 => k_asm); (case k3x30 => k_asm); (case k4x30 => k_asm); (case k5x30 => k_asm); (case k6x30 => first | exact rfl | assumption); (case k7x30 => ktr_room); (case k8x30 => ktr_units); (case kcx30 => assumption); (case kax30 => assumption); (case kbx30 => assumption); (case kdx30 => exact KBa.ints_make (by assumption)); (case kex30 => omega); (case kfx30 => assumption); (case kgx30 => assumption); (have trk' := Track.mk sub'); (try k_sweep); (try dsimp only); (try k_fold)))))
  (k_with "call ref" => ((k_here; (with_reducible show wpAny _ _ (call (Value.ref 102) _) _ _ _); k_dflt (refine' shifted_ok ?k1x31 ?k2x31 ?k3x31 ?k4x31 ?k5x31 ?k6x31 ?k7x31 ?k8x31 (fun v' t' h' tk' ev' F' N' => ?_); (case k1x31 => k_asm); (case k2x31 => k_asm); (case k3x31 => k_asm); (case k4x31 => k_asm); (case k5x31 => k_asm); (case k6x31 => first | exact rfl | assumption); (case k7x31 => ktr_room); (case k8x31 => ktr_units); subst ev'; (try k_sweep); (try dsimp only); (try k_fold)))))
  (k_with "call ref" => ((k_here; (with_reducible show wpAny _ _ (call (Value.ref 154) _) _ _ _); k_dflt (refine' halved_ok ?k1x32 ?k2x32 ?k3x32 ?k4x32 ?k5x32 ?k6x32 ?k7x32 ?k8x32 ?k9x32 ?kax32 (fun v' t' h' tk' ev' F' N' => ?_); (case k1x32 => k_asm); (case k2x32 => k_asm); (case k3x32 => k_asm); (case k4x32 => k_asm); (case k5x32 => k_asm); (case k6x32 => first | exact rfl | assumption); (case k7x32 => ktr_room); (case k8x32 => ktr_units); (case k9x32 => omega); (case kax32 => omega); subst ev'; (try k_sweep); (try dsimp only); (try k_fold)))))
  (k_with "call ref" => ((k_here; (with_reducible show wpAny _ _ (call (Value.ref 114) _) _ _ _); k_dflt (refine' turned_ok ?k1x33 ?k2x33 ?k3x33 ?k4x33 ?k5x33 ?k6x33 ?k7x33 ?k8x33 (fm_lo _) (fm_hi _) (fun v' t' h' tk' ev' F' N' => ?_); (case k1x33 => k_asm); (case k2x33 => k_asm); (case k3x33 => k_asm); (case k4x33 => k_asm); (case k5x33 => k_asm); (case k6x33 => first | exact rfl | assumption); (case k7x33 => ktr_room); (case k8x33 => ktr_units); (replace ev' := turn_eq ev'); subst ev'; (try k_sweep); (try dsimp only); (try k_fold)))))
  (k_with "compareOp NotEq int int" => ((k_here; (with_reducible refine ne_self ?_))))
  k_go0
  (all_goals try k_fold)
  k_steps
  (rename Fr _ _ _ _ => lF'); (rename News _ _ _ _ => lN'); (rename IsRange _ _ 0 _ 1 _ _ _ => rgX)
  refine' iter_k (qual := Str.ofString "_law_place_right.<locals>.<lambda>") (y := Str.ofString "script") ?rg1 ?rg2 ?rg3 ?rg4 rgX ?rg5 ?rg6 ?rg7 lF' (fun p hp => lN' p (two_sub hp)) (two_163 (by assumption)) TabInv.nil (.tail _ (.head _)) ?rg8 (.head _) ?rg9 ?rga ?rgb ?turn ?done
  (case rg1 => rfl); (case rg2 => rfl); (case rg3 => rfl); (case rg4 => passes_own); (case rg5 => exact (bnd_k (by omega)).1); (case rg6 => exact (bnd_k (by omega)).2); (case rg7 => exact Nat.ne_of_lt lt_ss); (case rg8 => assumption); (case rg9 => assumption); (case rga => with_unfolding_all rfl); (case rgb => decide)
  case done =>
    clear lF' lN' rgX
    intro h tk m ps rest F N
    dsimp only
    k_steps
  case turn =>
    clear lF' lN' rgX
    intro I i t h tk m ps rest oS oN vS vN hib F N dN dS nN nS n163 TI mI
    show wpAny _ _ (execs _ _) _ _ _
    k_fold
    k_steps
    (rename Fr _ _ _ _ => lF'); (rename News _ _ _ _ => lN')
    have lN2 := pl_news lN'
    refine' iter_place (qual := Str.ofString "_law_place_right.<locals>.<lambda>") ?p1 ?p2 ?p3 ?p4 ?q1 ?q2 ?q3 ?p8 ?p9 ?p5 ?q4 ?pturn ?pdone
    (case p8 => exact lF'); (case p9 => exact lN2)
    (case q1 => exact .head _); (case q2 => rfl); (case q3 => exact ⟨0, rfl⟩); (case q4 => exact TI.mono fun p hp => .tail _ (.tail _ (.tail _ (.tail _ hp))))
    (case p1 => rfl); (case p2 => rfl); (case p3 => rfl); (case p4 => passes_own); (case p5 => exact all4 (by omega) (by omega) (by omega) (by omega) n163)
    case pturn =>
      clear lF' lN' lN2
      intro I' i' v h tk ps' rest' oI hv F N h163 TI' ho mI' cI dI
      obtain ⟨pl, tpl, rfl, hp1, hp2⟩ := four_items hv (by omega) (by omega) (by omega) (by omega) (by omega) (by omega) (by omega) (by omega)
      clear hv
      show wpAny _ _ (execs _ _) _ _ _
      k_fold
      k_steps
      all_goals (
        with_reducible rename Track _ _ => trX
        refine' ⟨_, _, _, _, _, oI, rfl, ?F9, ?N9, ?r9, ?T9, fun p hp => trX.sub p (ho p hp), trX.sub _ mI', cI, dI, fun z hz => if_neg hz⟩
        (case F9 => assumption)
        (case N9 => assumption)
        (case r9 => assumption)
        (case T9 => assumption))
    case pdone =>
      clear lF' lN' lN2
      intro h tk u ps' rest' F N h163 TI' ho
      obtain ⟨rest9, N9, nD9, nN9, nS9, n19, TI9, mI9⟩ := after_place N h163 TI' (ho _ (.tail _ (.head _))) (ho _ (.tail _ (.tail _ (.head _)))) (by assumption) (ho _ (.tail _ (.tail _ (.tail _ (.head _))))) (by assumption) (ho _ (.tail _ (.tail _ (.tail _ (.tail _ mI)))))
      clear N ho
      dsimp only
      k_steps
      (rename Fr _ _ _ _ => lF'); (rename News _ _ _ _ => lN')
      refine' rng_end lF' lN' ?dN9 ?dS9 ?hN9 ?hS9 n19 TI9 mI9 ?y9
      (case hN9 => omega)
      (case hS9 => omega)
      (case dN9 => assumption)
      (case dS9 => assumption)
      (case y9 => with_unfolding_all rfl))
end Mine
end
set_option maxRecDepth 100000 in
set_option maxHeartbeats 0 in
theorem PySem.Challenge.cw_on0334_01_holds : PySem.Challenge.rw_on0334_01.Holds := by
  exact Mine.go1
